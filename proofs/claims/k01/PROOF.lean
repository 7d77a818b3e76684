import PyProof.Rows.All
import Wide.All
import OpenK.AllK
import Wide.FinOn
import HandS.ForMost
import HandS.ForExc
import HandS.Wide
import HandS.TupAny
import HandS.Gcd
import HandS.Flow
import HandS.Style
import HandS.Conv
import HandS.IsInst
import HandS.TupLe
import HandS.RaiseMore
import HandS.CallSlots
import HandS.Comp
import HandS.TryMany
import HandS.ExcField
import HandS.ExcOwn
import KE.KExcSuper
import KE.KExcInit
import KE.KSuper
import HandS.Ends
import HandS.Words
import KE.KExcLine
import KE.RegKSuper
import PySem.Challenge.RW_stairlots_k01_whole_integers_and_binomia
set_option Elab.async false
set_option linter.all false
set_option maxRecDepth 100000
set_option maxHeartbeats 4000000
/-! The plain interpreter: values, store, terms, what they give. No machine here. -/
namespace Ip
open PySem

/-- plain values: data as trees; ref: a cell of the store (a list or dict that changes, an object that is being made) -/
inductive D where
  | non | bl (b : Bool) | int (i : Int) | str (x : Str)
  | tup (xs : List D) | lst (xs : List D) | dct (ks vs : List D)
  | obj (c : Nat) (fs : List D) | cls (c : Nat) | ref (n : Nat)

inductive Cell where
  | dead | lst (xs : List D) | dct (ks vs : List D) | ins (c : Nat) (fs : List (Option D))

abbrev Store := List Cell
abbrev EnvD := List (Option D)
structure Ex where
  c : Nat
  vs : List D

inductive Out (α : Type) where
  | ok (a : α) (st : Store)
  | raise (x : Ex) (st : Store)
  | stuck

def Out.bind {α β : Type} (o : Out α) (f : α → Store → Out β) : Out β := match o with
  | .ok a st => f a st
  | .raise x st => .raise x st
  | .stuck => .stuck

def ofO {α : Type} (o : Option α) (st : Store) : Out α := match o with
  | some a => .ok a st
  | none => .stuck

abbrev Fn := List D → Store → Out D

/-! ### operations on values -/
inductive BO where | add | sub | mul | fdiv | mod | pow
  deriving DecidableEq
inductive UO where | neg | inv
  deriving DecidableEq
inductive CO where | lt | le | gt | ge | eq | ne | is | isnot | isin | notin
  deriving DecidableEq

def bits (i : Int) : Nat := i.natAbs.log2
/-- what * asks of sizes -/
def mulOk (i j : Int) : Bool := decide (i.natAbs.log2 + j.natAbs.log2 < 1000000)
def divOk (j : Int) : Bool := decide (j ≠ 0 ∧ j.natAbs.log2 < 9000)
def powOk (i j : Int) : Bool := decide (0 ≤ j ∧ (Builtin.Int.intBits i : Int) * j ≤ 2 ^ 27)
def szOk (n : Nat) : Bool := decide (n ≤ 1000000)

mutual
def eqD : D → D → Bool
  | .non, .non => true
  | .bl a, .bl b => a == b
  | .bl a, .int j => (if a then 1 else 0) == j
  | .int i, .bl b => i == (if b then 1 else 0)
  | .int i, .int j => i == j
  | .str x, .str y => x == y
  | .lst xs, .lst ys => eqDs xs ys
  | .tup xs, .tup ys => eqDs xs ys
  | _, _ => false
def eqDs : List D → List D → Bool
  | [], [] => true
  | x :: xs, y :: ys => eqD x y && eqDs xs ys
  | _, _ => false
end

mutual
/-- data of none, bools, ints, texts, lists, tuples, at most n deep -/
def pureD : Nat → D → Bool
  | _, .non => true
  | _, .bl _ => true
  | _, .int _ => true
  | _, .str x => PyData.strOk x
  | n + 1, .lst xs => pureDs n xs
  | n + 1, .tup xs => pureDs n xs
  | _, _ => false
def pureDs : Nat → List D → Bool
  | _, [] => true
  | n, x :: xs => pureD n x && pureDs n xs
end

/-- a value's items by the store, where it is a list or a tuple -/
def seqOf (st : Store) : D → Option (List D)
  | .lst xs => some xs
  | .tup xs => some xs
  | .ref n => match st[n]? with
    | some (.lst xs) => some xs
    | _ => none
  | _ => none

def truD (st : Store) : D → Option Bool
  | .non => some false
  | .bl b => some b
  | .int i => some (i != 0)
  | .str x => if szOk x.length then some ((x.length : Int) != 0) else none
  | .lst xs => some !xs.isEmpty
  | .tup xs => some !xs.isEmpty
  | .ref n => match st[n]? with
    | some (.lst xs) => some !xs.isEmpty
    | _ => none
  | _ => none

def binD (o : BO) (st : Store) (a b : D) : Option D := match o, a, b with
  | .add, .int i, .int j => some (.int (i + j))
  | .sub, .int i, .int j => some (.int (i - j))
  | .mul, .int i, .int j => if mulOk i j then some (.int (i * j)) else none
  | .fdiv, .int i, .int j => if divOk j then some (.int (i.fdiv j)) else none
  | .mod, .int i, .int j => if j ≠ 0 then some (.int (i.fmod j)) else none
  | .pow, .int i, .int j => if powOk i j then some (.int (i ^ j.toNat)) else none
  | .add, .str x, .str y => if szOk (x.length + y.length) then some (.str (x ++ y)) else none
  | .add, .lst xs, .lst ys => if szOk (xs.length + ys.length) then some (.lst (xs ++ ys)) else none
  | .add, .tup xs, .tup ys => if szOk (xs.length + ys.length) then some (.tup (xs ++ ys)) else none
  | _, _, _ => none
def unD (o : UO) (a : D) : Option D := match o, a with
  | .neg, .int i => some (.int (-i))
  | _, _ => none

def isNonD : D → Bool
  | .non => true
  | _ => false
def cmpD (o : CO) (st : Store) (a b : D) : Option Bool := match o, a, b with
  | .lt, .int i, .int j => some (decide (i < j))
  | .le, .int i, .int j => some (decide (i ≤ j))
  | .gt, .int i, .int j => some (decide (j < i))
  | .ge, .int i, .int j => some (decide (j ≤ i))
  | .eq, .str x, .str y => some (x == y)
  | .ne, .str x, .str y => some (!(x == y))
  | .eq, a, b => if pureD 60 a && pureD 60 b then some (eqD a b) else none
  | .ne, a, b => if pureD 60 a && pureD 60 b then some (!eqD a b) else none
  | .is, a, .non => some (isNonD a)
  | .isnot, a, .non => some (!isNonD a)
  | .is, .bl a, .bl b => some (decide (a = b))
  | .isnot, .bl a, .bl b => some (!decide (a = b))
  | .isin, .str x, .str y => some (!(Builtin.Str.occurrences y x 0 y.length 1).isEmpty)
  | .notin, .str x, .str y => some (!(!(Builtin.Str.occurrences y x 0 y.length 1).isEmpty))
  | _, _, _ => none

/-- o[i] -/
def subD (st : Store) (a b : D) : Option D := match b with
  | .int i => match a with
    | .str x => if szOk x.length then (L2.atI x.cps.toList i).map fun c => D.str ⟨#[c]⟩ else none
    | _ => match seqOf st a with
      | some xs => L2.atI xs i
      | none => none
  | _ => none
def cutD {α : Type} (xs : List α) (lo hi : Option Int) : List α := (xs.drop (HT.sIx xs.length 0 lo)).take (HT.sIx xs.length xs.length hi - HT.sIx xs.length 0 lo)
/-- o[lo:hi] -/
def sliceD (st : Store) (a : D) (lo hi : Option Int) : Option D := match a with
  | .str x => if szOk x.length then some (.str (L2.cutS x lo hi)) else none
  | .lst xs => some (.lst (cutD xs lo hi))
  | .tup xs => some (.tup (cutD xs lo hi))
  | .ref n => match st[n]? with
    | some (.lst xs) => some (.lst (cutD xs lo hi))
    | _ => none
  | _ => none


/-! ### texts of values -/
mutual
def reprD : D → Option Str
  | .non => some "None"
  | .bl b => some (if b then "True" else "False")
  | .int i => if bits i < 1920 then some (toString i) else none
  | .str x => if szOk (reprText x).length then some (reprText x) else none
  | .lst xs => match reprDs xs with
    | some ts => if szOk (listText ts).length then some (listText ts) else none
    | none => none
  | .tup xs => match reprDs xs with
    | some ts => if szOk (tupleText ts).length then some (tupleText ts) else none
    | none => none
  | .dct [] [] => some "{}"
  | _ => none
def reprDs : List D → Option (List Str)
  | [] => some []
  | x :: xs => match reprD x, reprDs xs with
    | some t, some ts => some (t :: ts)
    | _, _ => none
end
def strD (d : D) : Option Str := match d with
  | .str x => some x
  | d => reprD d

mutual
def depthD : D → Nat
  | .lst xs => depthDs xs + 1
  | .tup xs => depthDs xs + 1
  | .dct _ _ => 1
  | _ => 0
def depthDs : List D → Nat
  | [] => 0
  | x :: xs => max (depthD x) (depthDs xs)
end
/-! ### built-in functions -/
inductive Blt where | abs | int | len | max | min | str | repr | sum | tuple | all | any | gcd | bool
  deriving DecidableEq
def intsOf : List D → Option (List Int)
  | [] => some []
  | .int i :: r => (intsOf r).map (i :: ·)
  | _ => none
def blsOf : List D → Option (List Bool)
  | [] => some []
  | .bl i :: r => (blsOf r).map (i :: ·)
  | _ => none
def lenD (st : Store) : D → Option Nat
  | .str x => if szOk x.length then some x.length else none
  | d => (seqOf st d).map (·.length)
def bltD (b : Blt) (st : Store) (xs : List D) : Option D := match b, xs with
  | .abs, [.int i] => some (.int (if i < 0 then -i else i))
  | .int, [.int i] => some (.int i)
  | .int, [.bl k] => some (.int (if k then 1 else 0))
  | .bool, [.int i] => some (.bl (i != 0))
  | .bool, [.bl k] => some (.bl k)
  | .len, [x] => (lenD st x).map fun (n : Nat) => D.int (n : Int)
  | .max, [.int i, .int j] => some (.int (if j > i then j else i))
  | .min, [.int i, .int j] => some (.int (if j < i then j else i))
  | .gcd, [.int i, .int j] => some (.int ((Nat.gcd i.natAbs j.natAbs : Nat) : Int))
  | .str, [x] => if depthD x ≤ 60 then (strD x).map .str else none
  | .repr, [x] => if depthD x ≤ 60 then (reprD x).map .str else none
  | .sum, [.lst ys] => (intsOf ys).map fun ns => .int ns.sum
  | .all, [.lst ys] => (blsOf ys).map fun ns => .bl (ns.all id)
  | .any, [.lst ys] => (blsOf ys).map fun ns => .bl (ns.any id)
  | .tuple, [x] => (seqOf st x).map .tup
  | _, _ => none

/-! ### methods of lists in cells -/
inductive Mth where | append | popAt | pop
  deriving DecidableEq
def mthD (m : Mth) (st : Store) (o : D) (xs : List D) : Option (D × Store) := match m, o, xs with
  | .append, .ref n, [y] => match st[n]? with
    | some (.lst zs) => if zs.length < 1000000 then some (.non, st.set n (.lst (zs ++ [y]))) else none
    | _ => none
  | .pop, .ref n, [] => match st[n]? with
    | some (.lst zs) => (zs[zs.length - 1]?).map fun y => (y, st.set n (.lst zs.dropLast))
    | _ => none
  | .popAt, .ref n, [.int i] => match st[n]? with
    | some (.lst zs) => if szOk zs.length then match L2.ixN zs.length i with
      | some k => (zs[k]?).map fun y => (y, st.set n (.lst (zs.eraseIdx k)))
      | none => none else none
    | _ => none
  | _, _, _ => none
def isLst (st : Store) : D → Bool
  | .ref n => match st[n]? with
    | some (.lst _) => true
    | _ => false
  | _ => false
/-- o[i] = v -/
def setD (st : Store) (o i v : D) : Option Store := match o, i with
  | .ref n, .int i => match st[n]? with
    | some (.lst zs) => match L2.ixN zs.length i with
      | some k => some (st.set n (.lst (zs.set k v)))
      | none => none
    | _ => none
  | _, _ => none
/-- a list's cell is given up: the value is plain from now on -/
def freeze (st : Store) : D → Option (D × Store)
  | .ref n => match st[n]? with
    | some (.lst zs) => some (.lst zs, st.set n .dead)
    | _ => none
  | d => some (d, st)

/-! ### terms -/
inductive Ty where | int | bool | str | tuple | list | dict
  deriving DecidableEq
def isiD (t : Ty) : D → Option Bool
  | .non => some false
  | .bl _ => some (t = .int || t = .bool)
  | .int _ => some (t = .int)
  | .str _ => some (t = .str)
  | .tup _ => some (t = .tuple)
  | .lst _ => some (t = .list)
  | .dct _ _ => some (t = .dict)
  | _ => none
inductive IT where | nm (i : Nat) | tp (is : List Nat)
def IT.vars : IT → List Nat
  | .nm i => [i]
  | .tp is => is
def setAll : List Nat → List D → EnvD → Option EnvD
  | [], [], σ => some σ
  | i :: is, d :: ds, σ => setAll is ds (σ.set i (some d))
  | _, _, _ => none
def asgT (st : Store) (t : IT) (d : D) (σ : EnvD) : Option EnvD := match t with
  | .nm i => some (σ.set i (some d))
  | .tp is => match d with
    | .tup ds => setAll is ds σ
    | _ => none

mutual
inductive IE where
  | var (i : Nat) | con (d : D) | glob (x : Nat) (d : D)
  | bin (o : BO) (a b : IE) | un (o : UO) (a : IE)
  | cmp (o : CO) (a b : IE) | chain (o1 o2 : CO) (a b c : IE)
  | and (a b : IE) | or (a b : IE) | not (a : IE) | ife (c a b : IE)
  | tup (es : IEs) | lst (t : Bool) (es : IEs)
  | dct0
  | sub (a b : IE) | slice (a lo hi : IE) | rev (a : IE) | no
  | call (f : Nat) (dv : List D) (sm : Fn) (es : IEs)
  | blt (b : Blt) (es : IEs) | isi (t : Ty) (e : IE)
  | mth (m : Mth) (o : IE) (es : IEs)
  | comp (t : Bool) (own : List Nat) (it : IIt) (tg : IT) (cond elt : IE)
  | fz (e : IE)
inductive IEs where
  | nil | cons (e : IE) (es : IEs)
inductive IIt where
  | val (e : IE) | range (es : IEs)
end

def wipeD (σ : EnvD) : List Nat → EnvD
  | [] => σ
  | v :: vs => (wipeD σ vs).set v none
/-- what is walked: items that stand, or a cell's list as it is at each turn -/
inductive ItD where | seq (xs : List D) | cell (n : Nat)
def nextD (it : ItD) (i : Nat) (st : Store) : Option (Option D) := match it with
  | .seq xs => some xs[i]?
  | .cell n => match st[n]? with
    | some (.lst xs) => some xs[i]?
    | _ => none
/-- the turns of a comprehension: g the element's value (none: left out) -/
def compRun (g : D → Store → Out (Option D)) (it : ItD) : Nat → Nat → List D → Store → Out (List D)
  | 0, _, _, _ => .stuck
  | f + 1, i, acc, st => match nextD it i st with
    | none => .stuck
    | some none => .ok acc st
    | some (some x) => (g x st).bind fun r st1 => match r with
      | some y => if acc.length < 1000000 then compRun g it f (i + 1) (acc ++ [y]) st1 else .stuck
      | none => compRun g it f (i + 1) acc st1
/-- how many turns are followed -/
def fuelD : Nat := 18446744073709551616
def rangeD (xs : List D) : Option (List D) := match xs with
  | [.int j] => if -(2 ^ 62) ≤ j ∧ j < 2 ^ 62 then some ((List.range j.toNat).map fun (k : Nat) => D.int (0 + (k : Int))) else none
  | [.int i, .int j] => if -(2 ^ 62) ≤ i ∧ i < 2 ^ 62 ∧ -(2 ^ 62) ≤ j ∧ j < 2 ^ 62 then some ((List.range (j - i).toNat).map fun (k : Nat) => D.int (i + (k : Int))) else none
  | _ => none
/-- what is walked -/
def itemsD (st : Store) : D → Option ItD
  | .lst xs => some (.seq xs)
  | .tup xs => some (.seq xs)
  | .ref n => match st[n]? with
    | some (.lst _) => some (.cell n)
    | _ => none
  | _ => none
/-- an exception out of a comprehension is not followed -/
def noRaise {α : Type} : Out α → Out α
  | .ok a st => .ok a st
  | _ => .stuck
def newLst (t : Bool) (xs : List D) (st : Store) : Out D := if t then .ok (.ref st.length) (st ++ [.lst xs]) else .ok (.lst xs) st

mutual
def ev : IE → EnvD → Store → Out D
  | .var i, σ, st => match σ[i]? with
    | some (some d) => .ok d st
    | _ => .stuck
  | .con d, _, st => .ok d st
  | .glob _ d, _, st => .ok d st
  | .bin o a b, σ, st => (ev a σ st).bind fun x st => (ev b σ st).bind fun y st => ofO (binD o st x y) st
  | .un o a, σ, st => (ev a σ st).bind fun x st => ofO (unD o x) st
  | .cmp o a b, σ, st => (ev a σ st).bind fun x st => (ev b σ st).bind fun y st => ofO ((cmpD o st x y).map .bl) st
  | .chain o1 o2 a b c, σ, st => (ev a σ st).bind fun x st => (ev b σ st).bind fun y st => (ofO (cmpD o1 st x y) st).bind fun k st =>
      if k = true then (ev c σ st).bind fun z st => ofO ((cmpD o2 st y z).map .bl) st else .ok (.bl false) st
  | .and a b, σ, st => (ev a σ st).bind fun x st => (ofO (truD st x) st).bind fun k st => if k = true then ev b σ st else .ok x st
  | .or a b, σ, st => (ev a σ st).bind fun x st => (ofO (truD st x) st).bind fun k st => if k = true then .ok x st else ev b σ st
  | .not a, σ, st => (ev a σ st).bind fun x st => (ofO (truD st x) st).bind fun k st => .ok (.bl (!k)) st
  | .ife c a b, σ, st => (ev c σ st).bind fun x st => (ofO (truD st x) st).bind fun k st => if k = true then ev a σ st else ev b σ st
  | .tup es, σ, st => (evs es σ st).bind fun xs st => if szOk xs.length then .ok (.tup xs) st else .stuck
  | .lst t es, σ, st => (evs es σ st).bind fun xs st => if szOk xs.length then newLst t xs st else .stuck
  | .sub a b, σ, st => (ev a σ st).bind fun x st => (ev b σ st).bind fun y st => ofO (subD st x y) st
  | .slice a lo hi, σ, st => (ev a σ st).bind fun x st => (evo lo σ st).bind fun i st => (evo hi σ st).bind fun j st => ofO (sliceD st x i j) st
  | .rev a, σ, st => (ev a σ st).bind fun x st => match x with
    | .lst xs => .ok (.lst xs.reverse) st
    | .ref n => match st[n]? with
      | some (.lst xs) => .ok (.lst xs.reverse) st
      | _ => .stuck
    | _ => .stuck
  | .no, _, _ => .stuck
  | .dct0, _, st => .ok (.dct [] []) st
  | .call _ dv sm es, σ, st => (evs es σ st).bind fun xs st => sm (xs ++ dv) st
  | .blt b es, σ, st => (evs es σ st).bind fun xs st => ofO (bltD b st xs) st
  | .isi t e, σ, st => (ev e σ st).bind fun x st => ofO ((isiD t x).map .bl) st
  | .mth m o es, σ, st => (ev o σ st).bind fun x st => if isLst st x = true then (evs es σ st).bind fun xs st => (match mthD m st x xs with
    | some (d, st) => .ok d st
    | none => .stuck) else .stuck
  | .comp t own it tg cond elt, σ, st => (evi it σ st).bind fun its st =>
      (compRun (fun x st => match asgT st tg x (wipeD σ own) with
        | none => .stuck
        | some σ' => noRaise ((ev cond σ' st).bind fun c st => (ofO (truD st c) st).bind fun k st => if k = true then (ev elt σ' st).bind fun y st => .ok (some y) st else .ok none st)) its fuelD 0 [] st).bind fun ys st => newLst t ys st
  | .fz e, σ, st => (ev e σ st).bind fun x st => match freeze st x with
    | some (d, st) => .ok d st
    | none => .stuck
def evo : IE → EnvD → Store → Out (Option Int)
  | .no, _, st => .ok none st
  | e, σ, st => (ev e σ st).bind fun x st => match x with
    | .int i => .ok (some i) st
    | _ => .stuck
def evs : IEs → EnvD → Store → Out (List D)
  | .nil, _, st => .ok [] st
  | .cons e es, σ, st => (ev e σ st).bind fun x st => (evs es σ st).bind fun xs st => .ok (x :: xs) st
def evi : IIt → EnvD → Store → Out ItD
  | .val e, σ, st => (ev e σ st).bind fun x st => ofO (itemsD st x) st
  | .range es, σ, st => (evs es σ st).bind fun xs st => ofO ((rangeD xs).map .seq) st
end

/-- as a test -/
def evt (e : IE) (σ : EnvD) (st : Store) : Out Bool := (ev e σ st).bind fun x st => ofO (truD st x) st

end Ip
set_option Elab.async false
set_option linter.all false
set_option maxRecDepth 100000
set_option maxHeartbeats 400000
/-! The plain interpreter: statements. No machine here. -/
namespace Ip
open PySem

inductive OutS where
  | nx (σ : EnvD) (st : Store)
  | brk (σ : EnvD) (st : Store)
  | cnt (σ : EnvD) (st : Store)
  | ret (d : D) (st : Store)
  | raise (x : Ex) (σ : EnvD) (st : Store)
  | stuck
/-- a value, then on -/
def Out.andS {α : Type} (o : Out α) (σ : EnvD) (f : α → Store → OutS) : OutS := match o with
  | .ok a st => f a st
  | .raise x st => .raise x σ st
  | .stuck => .stuck
def OutS.seq (o : OutS) (f : EnvD → Store → OutS) : OutS := match o with
  | .nx σ st => f σ st
  | o => o
abbrev MkF := List D → Store → Option Ex
/-- class x, its field the one argument, its text str(argument) -/
def mkStr (x : Nat) : MkF := fun ds _ => match ds with
  | [d] => if depthD d ≤ 60 ∧ (strD d).isSome = true then some ⟨x, [d]⟩ else none
  | _ => none
/-- .. its text a constant -/
def mkCon (x : Nat) : MkF := fun ds _ => match ds with
  | [d] => some ⟨x, [d]⟩
  | _ => none
/-! what an except suite returns: fld is the exception's field -/
mutual
inductive HE where | con (d : D) | fld | lst (es : HEs) | tup (es : HEs)
inductive HEs where | nil | cons (e : HE) (es : HEs)
end
mutual
def evh (x : Ex) : HE → Option D
  | .con d => some d
  | .fld => match x.vs with
    | [d] => some d
    | _ => none
  | .lst es => match evhs x es with
    | some ds => if szOk ds.length then some (.lst ds) else none
    | none => none
  | .tup es => match evhs x es with
    | some ds => if szOk ds.length then some (.tup ds) else none
    | none => none
def evhs (x : Ex) : HEs → Option (List D)
  | .nil => some []
  | .cons e es => match evh x e, evhs x es with
    | some d, some ds => some (d :: ds)
    | _, _ => none
end
/-- an except clause: of which class; the slot of its name; what is returned -/
structure Hd where
  k : Nat
  i : Option Nat
  h : HE

mutual
inductive IS where
  | pass | brk | cnt | doc (s : Str)
  | expr (e : IE) | ret (e : IE) | retN
  | asg (t : IT) (e : IE)
  | par (is : List Nat) (es : IEs)
  | setI (o i v : IE)
  | aug (i : Nat) (o : BO) (e : IE)
  | ite (c : IE) (a b : ISs)
  | whl (n : Nat) (c : IE) (b : ISs)
  | for (t : IT) (it : IIt) (b : ISs)
  | raise (k : Nat) (mk : MkF) (es : IEs)
  | try (b : ISs) (hs : List Hd)
inductive ISs where
  | nil | cons (s : IS) (ss : ISs)
end
def whlRun (c : EnvD → Store → Out Bool) (b : EnvD → Store → OutS) : Nat → EnvD → Store → OutS
  | 0, _, _ => .stuck
  | n + 1, σ, st => (c σ st).andS σ fun k st => if k = true then (match b σ st with
    | .nx σ st => whlRun c b n σ st
    | .cnt σ st => whlRun c b n σ st
    | .brk σ st => .nx σ st
    | o => o) else .nx σ st
def forRun (t : IT) (b : EnvD → Store → OutS) (it : ItD) : Nat → Nat → EnvD → Store → OutS
  | 0, _, _, _ => .stuck
  | n + 1, i, σ, st => match nextD it i st with
    | none => .stuck
    | some none => .nx σ st
    | some (some x) => match asgT st t x σ with
      | none => .stuck
      | some σ => match b σ st with
        | .nx σ st => forRun t b it n (i + 1) σ st
        | .cnt σ st => forRun t b it n (i + 1) σ st
        | .brk σ st => .nx σ st
        | o => o
/-- which clause takes an exception; xm: does the class c fit the clause's class k -/
def handle (xm : Nat → Nat → Bool) (x : Ex) (σ : EnvD) (st : Store) : List Hd → OutS
  | [] => .raise x σ st
  | h :: hs => if xm x.c h.k = true then (match evh x h.h with
    | some d => if h.i.all (fun i => decide (i < σ.length)) = true then .ret d st else .stuck
    | none => .stuck) else handle xm x σ st hs
def augD (o : BO) (a b : D) : Option D := match o, a, b with
  | .add, .int i, .int j => some (.int (i + j))
  | .sub, .int i, .int j => some (.int (i - j))
  | .mul, .int i, .int j => if mulOk i j then some (.int (i * j)) else none
  | _, _, _ => none
mutual
def exec (xm : Nat → Nat → Bool) : IS → EnvD → Store → OutS
  | .pass, σ, st => .nx σ st
  | .brk, σ, st => .brk σ st
  | .cnt, σ, st => .cnt σ st
  | .doc _, σ, st => .nx σ st
  | .expr e, σ, st => (ev e σ st).andS σ fun _ st => .nx σ st
  | .ret e, σ, st => (ev e σ st).andS σ fun d st => .ret d st
  | .retN, _, st => .ret .non st
  | .asg t e, σ, st => (ev e σ st).andS σ fun d st => match asgT st t d σ with
    | some σ => .nx σ st
    | none => .stuck
  | .par is es, σ, st => (evs es σ st).andS σ fun ds st => match setAll is.reverse ds.reverse σ with
    | some σ => .nx σ st
    | none => .stuck
  | .setI o i v, σ, st => (ev v σ st).andS σ fun d st => (ev o σ st).andS σ fun x st => (ev i σ st).andS σ fun y st => match setD st x y d with
    | some st => .nx σ st
    | none => .stuck
  | .aug i o e, σ, st => match σ[i]? with
    | some (some a) => (ev e σ st).andS σ fun b st => match augD o a b with
      | some d => .nx (σ.set i (some d)) st
      | none => .stuck
    | _ => .stuck
  | .ite c a b, σ, st => (evt c σ st).andS σ fun k st => if k = true then execs xm a σ st else execs xm b σ st
  | .whl n c b, σ, st => whlRun (evt c) (execs xm b) n σ st
  | .for t it b, σ, st => (evi it σ st).andS σ fun its st => forRun t (execs xm b) its fuelD 0 σ st
  | .raise _ mk es, σ, st => (evs es σ st).andS σ fun ds st => match mk ds st with
    | some x => .raise x σ st
    | none => .stuck
  | .try b hs, σ, st => match execs xm b σ st with
    | .raise x σ st => handle xm x σ st hs
    | o => o
def execs (xm : Nat → Nat → Bool) : ISs → EnvD → Store → OutS
  | .nil, σ, st => .nx σ st
  | .cons s ss, σ, st => (exec xm s σ st).seq (execs xm ss)
end
/-! ### a call's end: the cells that it laid are let go, where nothing points at them -/
mutual
def noRef : D → Bool
  | .tup xs => noRefs xs
  | .lst xs => noRefs xs
  | .dct ks vs => noRefs ks && noRefs vs
  | .obj _ fs => noRefs fs
  | .ref _ => false
  | _ => true
def noRefs : List D → Bool
  | [] => true
  | x :: xs => noRef x && noRefs xs
end
mutual
def sameD : D → D → Bool
  | .non, .non => true
  | .bl a, .bl b => a == b
  | .int a, .int b => a == b
  | .str a, .str b => decide (a = b)
  | .tup xs, .tup ys => sameDs xs ys
  | .lst xs, .lst ys => sameDs xs ys
  | .dct ks vs, .dct ls ws => sameDs ks ls && sameDs vs ws
  | .obj a fs, .obj b gs => a == b && sameDs fs gs
  | .cls a, .cls b => a == b
  | .ref a, .ref b => a == b
  | _, _ => false
def sameDs : List D → List D → Bool
  | [], [] => true
  | x :: xs, y :: ys => sameD x y && sameDs xs ys
  | _, _ => false
end
mutual
theorem sameD_eq : ∀ {a b : D}, sameD a b = true → a = b := by
  intro a b h
  cases a <;> cases b <;> simp only [sameD, Bool.and_eq_true, beq_iff_eq, decide_eq_true_eq, Bool.false_eq_true] at h <;> first | rfl | (rw [h]; done) | (rw [sameDs_eq h]; done) | (rw [sameDs_eq h.1, sameDs_eq h.2]; done) | (rw [h.1, sameDs_eq h.2]; done)
theorem sameDs_eq : ∀ {a b : List D}, sameDs a b = true → a = b
  | [], [], _ => rfl
  | x :: xs, y :: ys, h => by
    simp only [sameDs, Bool.and_eq_true] at h
    rw [sameD_eq h.1, sameDs_eq h.2]
  | [], _ :: _, h => by simp [sameDs] at h
  | _ :: _, [], h => by simp [sameDs] at h
end
mutual
theorem sameD_refl : ∀ a : D, sameD a a = true
  | .non => rfl
  | .bl _ => by simp [sameD]
  | .int _ => by simp [sameD]
  | .str _ => by simp [sameD]
  | .tup xs => by rw [sameD]; exact sameDs_refl xs
  | .lst xs => by rw [sameD]; exact sameDs_refl xs
  | .dct ks vs => by rw [sameD, sameDs_refl ks, sameDs_refl vs]; rfl
  | .obj c fs => by rw [sameD, sameDs_refl fs]; simp
  | .cls _ => by simp [sameD]
  | .ref _ => by simp [sameD]
theorem sameDs_refl : ∀ a : List D, sameDs a a = true
  | [] => rfl
  | x :: xs => by rw [sameDs, sameD_refl x, sameDs_refl xs]; rfl
end
def sameO : Option D → Option D → Bool
  | none, none => true
  | some a, some b => sameD a b
  | _, _ => false
def sameC : Cell → Cell → Bool
  | .dead, .dead => true
  | .lst xs, .lst ys => sameDs xs ys
  | .dct ks vs, .dct ls ws => sameDs ks ls && sameDs vs ws
  | _, _ => false
def noRefC : Cell → Bool
  | .dead => true
  | .lst xs => noRefs xs
  | .dct ks vs => noRefs ks && noRefs vs
  | _ => false
theorem sameC_eq {a b : Cell} (h : sameC a b = true) : a = b := by
  cases a <;> cases b <;> simp only [sameC, Bool.and_eq_true, Bool.false_eq_true] at h <;> first | rfl | (rw [sameDs_eq h]; done) | (rw [sameDs_eq h.1, sameDs_eq h.2]; done)
def keepB : Store → Store → Bool
  | [], _ => true
  | c :: cs, d :: ds => (sameC c d || noRefC d) && keepB cs ds
  | _ :: _, [] => false
/-- the store behind a call -/
def closeSt (st st' : Store) : Store := if keepB st st' = true then st'.take st.length else st'
/-- what a body gives, called with these arguments; n slots -/
def callD (xm : Nat → Nat → Bool) (np n : Nat) (b : ISs) : Fn := fun ds st => if ds.length = np then (match execs xm b (ds.map some ++ List.replicate n none) st with
  | .nx _ st' => .ok .non (closeSt st st')
  | .ret d st' => if noRef d = true then .ok d (closeSt st st') else .ok d st'
  | .raise x _ st' => if noRefs x.vs = true then .raise x (closeSt st st') else .raise x st'
  | _ => .stuck) else .stuck
end Ip
set_option Elab.async false
set_option linter.all false
set_option maxRecDepth 100000
set_option maxHeartbeats 4000000
/-! What plain values and stores mean in the abstract heap; readings by the interpreter. -/
namespace Ip
open PySem PySem.Spec PyProof.Rows L2

/-- what of the written part is needed: the part, the classes' places, the exception classes' places and their field -/
structure Tb where
  K : PySem.W.Frag
  ca : Nat → Addr
  xa : Nat → Value
  xf : Nat → Str
  xm : Nat → Nat → Bool
  hc : Nat → Value

/-- F: what stands and is never changed; φ: where the store's cells stand; h: what is held as it is by a loop around -/
structure Wd where
  F : Hp
  φ : List (Addr × Addr)
  h : List (Addr × HO)
def Wd.Sub (W W' : Wd) : Prop := Same W.F W'.F ∧ ∃ r, W'.φ = W.φ ++ r
def Wd.le (W W' : Wd) : Prop := W.Sub W' ∧ W'.h = W.h
theorem Wd.Sub.refl (W : Wd) : W.Sub W := ⟨Same.refl _, [], by simp⟩
theorem Wd.Sub.trans {A B C : Wd} (h : A.Sub B) (k : B.Sub C) : A.Sub C := by
  obtain ⟨h1, r, h2⟩ := h
  obtain ⟨k1, q, k2⟩ := k
  exact ⟨h1.trans k1, r ++ q, by rw [k2, h2, List.append_assoc]⟩
theorem Wd.le.refl (W : Wd) : W.le W := ⟨.refl W, rfl⟩
theorem Wd.le.trans {A B C : Wd} (h : A.le B) (k : B.le C) : A.le C := ⟨h.1.trans k.1, k.2.trans h.2⟩
theorem Wd.Sub.at {A B : Wd} (h : A.Sub B) {n : Nat} {p : Addr × Addr} (e : A.φ[n]? = some p) : B.φ[n]? = some p := by
  obtain ⟨_, r, e2⟩ := h
  rw [e2]
  have hlt : n < A.φ.length := (List.getElem?_eq_some_iff.mp e).1
  rw [List.getElem?_append_left hlt]
  exact e

theorem Same.tup {K : PySem.W.Frag} {H H' : Hp} {a : Addr} {xs : List V} (e : Same H H') (h : SqT K H a xs) : SqT K H' a xs := by
  rcases h with (h | ⟨o, h⟩) | h
  · exact .inl (.inl (e _ _ h))
  · exact .inl (.inr ⟨o, e _ _ h⟩)
  · exact .inr h

mutual
inductive Rep (T : Tb) (W : Wd) : D → V → Prop
  | non : Rep T W .non .non
  | bl (b : Bool) : Rep T W (.bl b) (.bl b)
  | int (i : Int) : Rep T W (.int i) (.int i)
  | str (x : Str) : Rep T W (.str x) (.str x)
  | tup {ds : List D} {a : Addr} {xs : List V} : SqT T.K W.F a xs → RepA T W ds xs → Rep T W (.tup ds) (.ref a)
  | lst {ds : List D} {a : Addr} {xs : List V} : SqL T.K W.F a xs → RepA T W ds xs → Rep T W (.lst ds) (.ref a)
  | ref {n : Nat} {p : Addr × Addr} : W.φ[n]? = some p → Rep T W (.ref n) (.ref p.1)
  | cls (c : Nat) : Rep T W (.cls c) (.ref (T.ca c))
  | dct0 {a : Addr} : W.F a = some (.dK []) → Rep T W (.dct [] []) (.ref a)
inductive RepA (T : Tb) (W : Wd) : List D → List V → Prop
  | nil : RepA T W [] []
  | cons {d : D} {ds : List D} {v : V} {vs : List V} : Rep T W d v → RepA T W ds vs → RepA T W (d :: ds) (v :: vs)
end

section
variable {T : Tb} {W W' : Wd}
mutual
theorem Rep.sub (le : W.Sub W') : ∀ {d : D} {v : V}, Rep T W d v → Rep T W' d v
  | _, _, .non => .non
  | _, _, .bl b => .bl b
  | _, _, .int i => .int i
  | _, _, .str x => .str x
  | _, _, .tup h r => .tup (Same.tup le.1 h) (RepA.sub le r)
  | _, _, .lst h r => .lst (le.1.seq h) (RepA.sub le r)
  | _, _, .ref h => .ref (le.at h)
  | _, _, .cls c => .cls c
  | _, _, .dct0 h => .dct0 (le.1 _ _ h)
theorem RepA.sub (le : W.Sub W') : ∀ {ds : List D} {vs : List V}, RepA T W ds vs → RepA T W' ds vs
  | _, _, .nil => .nil
  | _, _, .cons h r => .cons (Rep.sub le h) (RepA.sub le r)
end
theorem Rep.mono (le : W.le W') {d : D} {v : V} (r : Rep T W d v) : Rep T W' d v := r.sub le.1
theorem RepA.mono (le : W.le W') {ds : List D} {vs : List V} (r : RepA T W ds vs) : RepA T W' ds vs := r.sub le.1
theorem RepA.length : ∀ {ds : List D} {vs : List V}, RepA T W ds vs → ds.length = vs.length
  | _, _, .nil => rfl
  | _, _, .cons _ r => by rw [List.length_cons, List.length_cons, RepA.length r]
theorem RepA.get : ∀ {ds : List D} {vs : List V} {i : Nat} {d : D}, RepA T W ds vs → ds[i]? = some d → ∃ v, vs[i]? = some v ∧ Rep T W d v
  | _, _, _, _, .nil, e => by simp at e
  | _, _, 0, _, .cons h _, e => by simp at e; subst e; exact ⟨_, by simp, h⟩
  | _, _, i + 1, _, .cons _ r, e => by
    obtain ⟨v, h1, h2⟩ := RepA.get (i := i) r (by simpa using e)
    exact ⟨v, by simpa using h1, h2⟩
theorem RepA.getV : ∀ {ds : List D} {vs : List V} {i : Nat} {v : V}, RepA T W ds vs → vs[i]? = some v → ∃ d, ds[i]? = some d ∧ Rep T W d v
  | _, _, _, _, .nil, e => by simp at e
  | _, _, 0, _, .cons h _, e => by simp at e; subst e; exact ⟨_, by simp, h⟩
  | _, _, i + 1, _, .cons _ r, e => by
    obtain ⟨v, h1, h2⟩ := RepA.getV (i := i) r (by simpa using e)
    exact ⟨v, by simpa using h1, h2⟩
theorem RepA.append : ∀ {ds es : List D} {vs ws : List V}, RepA T W ds vs → RepA T W es ws → RepA T W (ds ++ es) (vs ++ ws)
  | _, _, _, _, .nil, s => s
  | _, _, _, _, .cons h r, s => .cons h (RepA.append r s)
theorem RepA.take : ∀ {ds : List D} {vs : List V} (n : Nat), RepA T W ds vs → RepA T W (ds.take n) (vs.take n)
  | _, _, 0, _ => by simp; exact .nil
  | _, _, _ + 1, .nil => .nil
  | _, _, n + 1, .cons h r => .cons h (RepA.take n r)
theorem RepA.drop : ∀ {ds : List D} {vs : List V} (n : Nat), RepA T W ds vs → RepA T W (ds.drop n) (vs.drop n)
  | _, _, 0, r => r
  | _, _, _ + 1, .nil => .nil
  | _, _, n + 1, .cons _ r => RepA.drop n r
theorem RepA.reverse : ∀ {ds : List D} {vs : List V}, RepA T W ds vs → RepA T W ds.reverse vs.reverse
  | _, _, .nil => .nil
  | _, _, .cons h r => by rw [List.reverse_cons, List.reverse_cons]; exact (RepA.reverse r).append (.cons h .nil)
theorem RepA.set : ∀ {ds : List D} {vs : List V} {d : D} {v : V} (n : Nat), RepA T W ds vs → Rep T W d v → RepA T W (ds.set n d) (vs.set n v)
  | _, _, _, _, _, .nil, _ => .nil
  | _, _, _, _, 0, .cons _ r, h => .cons h r
  | _, _, _, _, n + 1, .cons k r, h => .cons k (RepA.set n r h)
theorem RepA.erase : ∀ {ds : List D} {vs : List V} (n : Nat), RepA T W ds vs → RepA T W (ds.eraseIdx n) (vs.eraseIdx n)
  | _, _, _, .nil => .nil
  | _, _, 0, .cons _ r => r
  | _, _, n + 1, .cons k r => .cons k (RepA.erase n r)
theorem RepA.cut {ds : List D} {vs : List V} (r : RepA T W ds vs) (lo hi : Option Int) : RepA T W (cutD ds lo hi) (cutV vs lo hi) := by
  unfold cutD cutV
  rw [r.length]
  exact (r.drop _).take _
theorem RepA.isEmpty {ds : List D} {vs : List V} (r : RepA T W ds vs) : (!vs.isEmpty) = !ds.isEmpty := by cases r <;> rfl
end

def Cell.live : Cell → Bool
  | .dead => false
  | _ => true
def CellRep (T : Tb) (W : Wd) (p : Addr × Addr) (H : Hp) : Cell → Prop
  | .dead => True
  | .lst ds => ∃ xs, H p.1 = some (.lst xs) ∧ RepA T W ds xs ∧ p.2 = p.1
  | _ => False
/-- the store and the abstract heap -/
structure Sim (T : Tb) (W : Wd) (st : Store) (H : Hp) : Prop where
  sub : Same W.F H
  len : W.φ.length = st.length
  cell : ∀ (n : Nat) c p, st[n]? = some c → W.φ[n]? = some p → CellRep T W p H c
  own : ∀ (n : Nat) c p, st[n]? = some c → W.φ[n]? = some p → c.live = true → W.F p.1 = none ∧ W.F p.2 = none ∧ H p.1 ≠ none ∧ H p.2 ≠ none
  held : ∀ p ∈ W.h, H p.1 = some p.2 ∧ W.F p.1 = none ∧ ∀ (n : Nat) c q, st[n]? = some c → W.φ[n]? = some q → c.live = true → q.1 ≠ p.1 ∧ q.2 ≠ p.1
  hnd : (W.h.map (·.1)).Nodup
  sep : ∀ (n m : Nat) c d p q, n ≠ m → st[n]? = some c → st[m]? = some d → c.live = true → d.live = true → W.φ[n]? = some p → W.φ[m]? = some q → p.1 ≠ q.1 ∧ p.1 ≠ q.2 ∧ p.2 ≠ q.1 ∧ p.2 ≠ q.2
theorem CellRep.sub {T : Tb} {W W' : Wd} {p : Addr × Addr} {H : Hp} (le : W.Sub W') : ∀ {c : Cell}, CellRep T W p H c → CellRep T W' p H c
  | .dead, h => h
  | .lst _, ⟨xs, h1, h2, h3⟩ => ⟨xs, h1, h2.sub le, h3⟩
  | .dct _ _, h => h
  | .ins _ _, h => h
theorem CellRep.heap {T : Tb} {W : Wd} {p : Addr × Addr} {H H' : Hp} (h1 : H' p.1 = H p.1) (h2 : H' p.2 = H p.2) : ∀ {c : Cell}, CellRep T W p H c → CellRep T W p H' c
  | .dead, h => h
  | .lst _, ⟨xs, a, b, c⟩ => ⟨xs, by rw [h1]; exact a, b, c⟩
  | .dct _ _, h => h
  | .ins _ _, h => h

section
variable {T : Tb} {W : Wd} {st : Store} {H : Hp}
/-- a new object that stays as it is -/
theorem Sim.new (s : Sim T W st H) {p : Addr} {o : HO} (hp : H p = none) : W.le ⟨upd W.F p o, W.φ, W.h⟩ ∧ Sim T ⟨upd W.F p o, W.φ, W.h⟩ st (upd H p o) := by
  have hf : W.F p = none := s.sub.free hp
  have le : W.le ⟨upd W.F p o, W.φ, W.h⟩ := ⟨⟨fun b u e => by rw [show (Wd.mk (upd W.F p o) W.φ W.h).F = upd W.F p o from rfl, upd_ne (ne_of_none e hf)]; exact e, [], by simp⟩, rfl⟩
  have hh : ∀ q ∈ W.h, q.1 ≠ p := fun q hq z => by
    have := (s.held q hq).1
    rw [z, hp] at this; cases this
  refine ⟨le, ⟨fun b u e => ?_, s.len, fun n c q h1 h2 => ?_, fun n c q h1 h2 h3 => ?_, fun q hq => ⟨by rw [upd_ne (hh q hq)]; exact (s.held q hq).1, by show upd W.F p o q.1 = none; rw [upd_ne (hh q hq)]; exact (s.held q hq).2.1, (s.held q hq).2.2⟩, s.hnd, s.sep⟩⟩
  · by_cases hb : b = p
    · subst hb
      have e' : upd W.F b o b = some u := e
      rw [upd_same] at e' ⊢
      exact e'
    · have e' : upd W.F p o b = some u := e
      rw [upd_ne hb] at e' ⊢
      exact s.sub _ _ e'
  · by_cases hl : c.live = true
    · obtain ⟨_, _, o3, o4⟩ := s.own n c q h1 h2 hl
      have n1 : q.1 ≠ p := fun z => o3 (by rw [z]; exact hp)
      have n2 : q.2 ≠ p := fun z => o4 (by rw [z]; exact hp)
      exact ((s.cell n c q h1 h2).sub le.1).heap (by rw [upd_ne n1]) (by rw [upd_ne n2])
    · cases c <;> first | trivial | exact absurd rfl hl
  · obtain ⟨o1, o2, o3, o4⟩ := s.own n c q h1 h2 h3
    have n1 : q.1 ≠ p := fun z => o3 (by rw [z]; exact hp)
    have n2 : q.2 ≠ p := fun z => o4 (by rw [z]; exact hp)
    refine ⟨?_, ?_, ?_, ?_⟩
    · show upd W.F p o q.1 = none; rw [upd_ne n1]; exact o1
    · show upd W.F p o q.2 = none; rw [upd_ne n2]; exact o2
    · rw [upd_ne n1]; exact o3
    · rw [upd_ne n2]; exact o4
theorem get_snoc {α : Type} {l : List α} {x y : α} {n : Nat} (h : (l ++ [x])[n]? = some y) : (l[n]? = some y ∧ n < l.length) ∨ (n = l.length ∧ y = x) := by
  by_cases hn : n < l.length
  · rw [List.getElem?_append_left hn] at h; exact .inl ⟨h, hn⟩
  · have hl : n < (l ++ [x]).length := (List.getElem?_eq_some_iff.mp h).1
    rw [List.length_append, List.length_singleton] at hl
    have e : n = l.length := by omega
    subst e
    rw [List.getElem?_append_right (Nat.le_refl _), Nat.sub_self] at h
    simp at h
    exact .inr ⟨rfl, h.symm⟩
/-- a new list that is a cell -/
theorem Sim.newCell (s : Sim T W st H) {p : Addr} {xs : List V} {ds : List D} (hp : H p = none) (r : RepA T W ds xs) :
    W.le ⟨W.F, W.φ ++ [(p, p)], W.h⟩ ∧ Sim T ⟨W.F, W.φ ++ [(p, p)], W.h⟩ (st ++ [.lst ds]) (upd H p (.lst xs)) := by
  have hf : W.F p = none := s.sub.free hp
  have le : W.le ⟨W.F, W.φ ++ [(p, p)], W.h⟩ := ⟨⟨Same.refl _, [(p, p)], rfl⟩, rfl⟩
  have hh : ∀ q ∈ W.h, q.1 ≠ p := fun q hq z => by
    have := (s.held q hq).1
    rw [z, hp] at this; cases this
  have old : ∀ {n : Nat} {c : Cell} {q : Addr × Addr}, st[n]? = some c → W.φ[n]? = some q → c.live = true → q.1 ≠ p ∧ q.2 ≠ p := fun h1 h2 h3 => by
    obtain ⟨_, _, o3, o4⟩ := s.own _ _ _ h1 h2 h3
    exact ⟨fun z => o3 (by rw [z]; exact hp), fun z => o4 (by rw [z]; exact hp)⟩
  have two : ∀ {n : Nat} {c : Cell} {q : Addr × Addr}, (st ++ [Cell.lst ds])[n]? = some c → (W.φ ++ [(p, p)])[n]? = some q → (st[n]? = some c ∧ W.φ[n]? = some q) ∨ (n = st.length ∧ c = .lst ds ∧ q = (p, p)) := fun {n c q} h1 h2 => by
    rcases get_snoc h1 with ⟨h1, k1⟩ | ⟨k1, h1⟩
    · rcases get_snoc h2 with ⟨h2, _⟩ | ⟨k2, _⟩
      · exact .inl ⟨h1, h2⟩
      · rw [s.len] at k2; omega
    · rcases get_snoc h2 with ⟨_, k2⟩ | ⟨_, h2⟩
      · rw [s.len] at k2; omega
      · exact .inr ⟨k1, h1, h2⟩
  refine ⟨le, ⟨fun b u e => ?_, ?_, fun n c q h1 h2 => ?_, fun n c q h1 h2 h3 => ?_, fun q hq => ⟨by rw [upd_ne (hh q hq)]; exact (s.held q hq).1, (s.held q hq).2.1, fun n c r h1 h2 h3 => ?_⟩, s.hnd, fun n m c d q1 q2 hnm h1 h2 h3 h4 h5 h6 => ?_⟩⟩
  · rw [upd_ne (ne_of_none e hf)]; exact s.sub _ _ e
  · show (W.φ ++ [(p, p)]).length = _; rw [List.length_append, List.length_append, s.len]; rfl
  · rcases two h1 h2 with ⟨h1, h2⟩ | ⟨_, rfl, rfl⟩
    · by_cases hl : c.live = true
      · obtain ⟨n1, n2⟩ := old h1 h2 hl
        exact ((s.cell n c q h1 h2).sub le.1).heap (by rw [upd_ne n1]) (by rw [upd_ne n2])
      · cases c <;> first | trivial | exact absurd rfl hl
    · exact ⟨xs, upd_same, r.mono le, rfl⟩
  · rcases two h1 h2 with ⟨h1, h2⟩ | ⟨_, rfl, rfl⟩
    · obtain ⟨o1, o2, o3, o4⟩ := s.own n c q h1 h2 h3
      obtain ⟨n1, n2⟩ := old h1 h2 h3
      exact ⟨o1, o2, by rw [upd_ne n1]; exact o3, by rw [upd_ne n2]; exact o4⟩
    · exact ⟨hf, hf, (by rw [upd_same]; exact fun z => nomatch z), (by rw [upd_same]; exact fun z => nomatch z)⟩
  · rcases two h1 h2 with ⟨h1, h2⟩ | ⟨_, rfl, rfl⟩
    · exact (s.held q hq).2.2 n c r h1 h2 h3
    · exact ⟨fun z => hh q hq z.symm, fun z => hh q hq z.symm⟩
  · rcases two h1 h5 with ⟨h1, h5⟩ | ⟨k1, rfl, rfl⟩
    · rcases two h2 h6 with ⟨h2, h6⟩ | ⟨k2, rfl, rfl⟩
      · exact s.sep n m c d q1 q2 hnm h1 h2 h3 h4 h5 h6
      · obtain ⟨n1, n2⟩ := old h1 h5 h3
        exact ⟨n1, n1, n2, n2⟩
    · rcases two h2 h6 with ⟨h2, h6⟩ | ⟨k2, rfl, rfl⟩
      · obtain ⟨n1, n2⟩ := old h2 h6 h4
        exact ⟨fun z => n1 z.symm, fun z => n2 z.symm, fun z => n1 z.symm, fun z => n2 z.symm⟩
      · omega
theorem set_get {α : Type} {l : List α} {n m : Nat} {x y : α} (h : (l.set n x)[m]? = some y) : (m = n ∧ y = x ∧ n < l.length) ∨ (m ≠ n ∧ l[m]? = some y) := by
  by_cases e : n = m
  · subst e
    have hl : n < (l.set n x).length := (List.getElem?_eq_some_iff.mp h).1
    rw [List.length_set] at hl
    rw [List.getElem?_set_self hl] at h
    exact .inl ⟨rfl, (Option.some.inj h).symm, hl⟩
  · rw [List.getElem?_set_ne e] at h
    exact .inr ⟨fun z => e z.symm, h⟩
/-- a list in a cell is changed -/
theorem Sim.write (s : Sim T W st H) {n : Nat} {p : Addr × Addr} {ds es : List D} {xs : List V} (hn : st[n]? = some (.lst ds)) (hp : W.φ[n]? = some p) (r : RepA T W es xs) : Sim T W (st.set n (.lst es)) (upd H p.1 (.lst xs)) := by
  obtain ⟨o1, o2, o3, o4⟩ := s.own n _ p hn hp rfl
  obtain ⟨_, _, _, e12⟩ := s.cell n _ p hn hp
  have back : ∀ {j : Nat} {c : Cell}, (st.set n (.lst es))[j]? = some c → c.live = true → ∃ c', st[j]? = some c' ∧ c'.live = true := fun {j c} h hl => by
    rcases set_get h with ⟨rfl, rfl, _⟩ | ⟨hm, h⟩
    · exact ⟨_, hn, rfl⟩
    · exact ⟨c, h, hl⟩
  have hh : ∀ q ∈ W.h, q.1 ≠ p.1 := fun q hq z => ((s.held q hq).2.2 n _ p hn hp rfl).1 z.symm
  refine ⟨fun b u e => ?_, by rw [List.length_set]; exact s.len, fun m c q h1 h2 => ?_, fun m c q h1 h2 h3 => ?_, fun q hq => ⟨by rw [upd_ne (hh q hq)]; exact (s.held q hq).1, (s.held q hq).2.1, fun m c r h1 h2 h3 => ?_⟩, s.hnd, fun m k c d q1 q2 hmk h1 h2 h3 h4 h5 h6 => ?_⟩
  · rw [upd_ne (ne_of_none e o1)]; exact s.sub _ _ e
  · rcases set_get h1 with ⟨rfl, rfl, _⟩ | ⟨hm, h1⟩
    · rw [hp] at h2; cases h2
      exact ⟨xs, upd_same, r, e12⟩
    · by_cases hl : c.live = true
      · obtain ⟨a1, a2, a3, a4⟩ := s.sep m n c _ q p hm h1 hn hl rfl h2 hp
        exact (s.cell m c q h1 h2).heap (by rw [upd_ne a1]) (by rw [upd_ne a3])
      · cases c <;> first | trivial | exact absurd rfl hl
  · rcases set_get h1 with ⟨rfl, rfl, _⟩ | ⟨hm, h1⟩
    · rw [hp] at h2; cases h2
      exact ⟨o1, o2, (by rw [upd_same]; exact fun z => nomatch z), (by rw [e12, upd_same]; exact fun z => nomatch z)⟩
    · obtain ⟨b1, b2, b3, b4⟩ := s.own m c q h1 h2 h3
      obtain ⟨a1, a2, a3, a4⟩ := s.sep m n c _ q p hm h1 hn h3 rfl h2 hp
      exact ⟨b1, b2, by rw [upd_ne a1]; exact b3, by rw [upd_ne a3]; exact b4⟩
  · obtain ⟨c', g1, g2⟩ := back h1 h3
    exact (s.held q hq).2.2 m c' r g1 h2 g2
  · obtain ⟨c', g1, g2⟩ := back h1 h3
    obtain ⟨d', g3, g4⟩ := back h2 h4
    exact s.sep m k c' d' q1 q2 hmk g1 g3 g2 g4 h5 h6
/-- a cell is given up: its list stays as it is from now on -/
theorem Sim.freeze (s : Sim T W st H) {n : Nat} {p : Addr × Addr} {ds : List D} (hn : st[n]? = some (.lst ds)) (hp : W.φ[n]? = some p) :
    ∃ W', W.le W' ∧ Sim T W' (st.set n .dead) H ∧ Rep T W' (.lst ds) (.ref p.1) := by
  obtain ⟨o1, o2, o3, o4⟩ := s.own n _ p hn hp rfl
  obtain ⟨xs, hx, r, e12⟩ := s.cell n _ p hn hp
  have le : W.le ⟨upd W.F p.1 (.lst xs), W.φ, W.h⟩ := ⟨⟨fun b u e => by rw [show (Wd.mk (upd W.F p.1 (.lst xs)) W.φ W.h).F = upd W.F p.1 (.lst xs) from rfl, upd_ne (ne_of_none e o1)]; exact e, [], by simp⟩, rfl⟩
  have back : ∀ {j : Nat} {c : Cell}, (st.set n .dead)[j]? = some c → c.live = true → st[j]? = some c := fun {j c} h hl => by
    rcases set_get h with ⟨rfl, rfl, _⟩ | ⟨hm, h⟩
    · cases hl
    · exact h
  have hh : ∀ q ∈ W.h, q.1 ≠ p.1 := fun q hq z => ((s.held q hq).2.2 n _ p hn hp rfl).1 z.symm
  refine ⟨⟨upd W.F p.1 (.lst xs), W.φ, W.h⟩, le, ⟨fun b u e => ?_, by rw [List.length_set]; exact s.len, fun m c q h1 h2 => ?_, fun m c q h1 h2 h3 => ?_, fun q hq => ⟨(s.held q hq).1, by show upd W.F p.1 _ q.1 = none; rw [upd_ne (hh q hq)]; exact (s.held q hq).2.1, fun m c r h1 h2 h3 => (s.held q hq).2.2 m c r (back h1 h3) h2 h3⟩, s.hnd, fun m k c d q1 q2 hmk h1 h2 h3 h4 h5 h6 => ?_⟩, .lst (SqL.of upd_same) (r.mono le)⟩
  · have e' : upd W.F p.1 (.lst xs) b = some u := e
    by_cases hb : b = p.1
    · rw [hb, upd_same] at e'; rw [hb, hx]; exact e'
    · rw [upd_ne hb] at e'; exact s.sub _ _ e'
  · rcases set_get h1 with ⟨rfl, rfl, _⟩ | ⟨hm, h1⟩
    · trivial
    · exact (s.cell m c q h1 h2).sub le.1
  · rcases set_get h1 with ⟨rfl, rfl, _⟩ | ⟨hm, h1⟩
    · cases h3
    · obtain ⟨b1, b2, b3, b4⟩ := s.own m c q h1 h2 h3
      obtain ⟨a1, a2, a3, a4⟩ := s.sep m n c _ q p hm h1 hn h3 rfl h2 hp
      refine ⟨?_, ?_, b3, b4⟩
      · show upd W.F p.1 _ q.1 = none; rw [upd_ne a1]; exact b1
      · show upd W.F p.1 _ q.2 = none; rw [upd_ne a3]; exact b2
  · exact s.sep m k c d q1 q2 hmk (back h1 h3) (back h2 h4) h3 h4 h5 h6
/-- a new object is held -/
theorem Sim.hold (s : Sim T W st H) {p : Addr} {o : HO} (hp : H p = none) : Sim T ⟨W.F, W.φ, (p, o) :: W.h⟩ st (upd H p o) := by
  have hf : W.F p = none := s.sub.free hp
  have hh : ∀ q ∈ W.h, q.1 ≠ p := fun q hq z => by
    have := (s.held q hq).1
    rw [z, hp] at this; cases this
  have old : ∀ {n : Nat} {c : Cell} {q : Addr × Addr}, st[n]? = some c → W.φ[n]? = some q → c.live = true → q.1 ≠ p ∧ q.2 ≠ p := fun h1 h2 h3 => by
    obtain ⟨_, _, o3, o4⟩ := s.own _ _ _ h1 h2 h3
    exact ⟨fun z => o3 (by rw [z]; exact hp), fun z => o4 (by rw [z]; exact hp)⟩
  refine ⟨fun b u e => by rw [upd_ne (ne_of_none e hf)]; exact s.sub _ _ e, s.len, fun n c q h1 h2 => ?_, fun n c q h1 h2 h3 => ?_, fun q hq => ?_, ?_, s.sep⟩
  · by_cases hl : c.live = true
    · obtain ⟨n1, n2⟩ := old h1 h2 hl
      exact (CellRep.sub (W := W) (W' := ⟨W.F, W.φ, (p, o) :: W.h⟩) ⟨Same.refl _, [], by simp⟩ (s.cell n c q h1 h2)).heap (by rw [upd_ne n1]) (by rw [upd_ne n2])
    · cases c <;> first | trivial | exact absurd rfl hl
  · obtain ⟨o1, o2, o3, o4⟩ := s.own n c q h1 h2 h3
    obtain ⟨n1, n2⟩ := old h1 h2 h3
    exact ⟨o1, o2, by rw [upd_ne n1]; exact o3, by rw [upd_ne n2]; exact o4⟩
  · rcases List.mem_cons.mp hq with rfl | hq
    · exact ⟨upd_same, hf, fun n c r h1 h2 h3 => old h1 h2 h3⟩
    · exact ⟨by rw [upd_ne (hh q hq)]; exact (s.held q hq).1, (s.held q hq).2.1, (s.held q hq).2.2⟩
  · show (p :: W.h.map (·.1)).Nodup
    exact List.nodup_cons.mpr ⟨fun hm => by
      obtain ⟨q, hq, e⟩ := List.mem_map.mp hm
      exact hh q hq e, s.hnd⟩
/-- what is held is changed by its holder -/
theorem Sim.rehold {p : Addr} {o o' : HO} {hs : List (Addr × HO)} (s : Sim T W st H) (e : W.h = (p, o) :: hs) : Sim T ⟨W.F, W.φ, (p, o') :: hs⟩ st (upd H p o') := by
  have hm : (p, o) ∈ W.h := by rw [e]; exact List.mem_cons_self
  obtain ⟨k1, k2, k3⟩ := s.held _ hm
  have nd := s.hnd
  rw [e] at nd
  have nd' : (p :: hs.map (·.1)).Nodup := nd
  have hh : ∀ q ∈ hs, q.1 ≠ p := fun q hq z => (List.nodup_cons.mp nd').1 (List.mem_map.mpr ⟨q, hq, z⟩)
  refine ⟨fun b u e => by rw [upd_ne (ne_of_none e k2)]; exact s.sub _ _ e, s.len, fun n c q h1 h2 => ?_, fun n c q h1 h2 h3 => ?_, fun q hq => ?_, nd', s.sep⟩
  · by_cases hl : c.live = true
    · obtain ⟨n1, n2⟩ := k3 n c q h1 h2 hl
      exact (CellRep.sub (W := W) (W' := ⟨W.F, W.φ, (p, o') :: hs⟩) ⟨Same.refl _, [], by simp⟩ (s.cell n c q h1 h2)).heap (by rw [upd_ne n1]) (by rw [upd_ne n2])
    · cases c <;> first | trivial | exact absurd rfl hl
  · obtain ⟨o1, o2, o3, o4⟩ := s.own n c q h1 h2 h3
    obtain ⟨n1, n2⟩ := k3 n c q h1 h2 h3
    exact ⟨o1, o2, by rw [upd_ne n1]; exact o3, by rw [upd_ne n2]; exact o4⟩
  · rcases List.mem_cons.mp hq with rfl | hq
    · exact ⟨upd_same, k2, k3⟩
    · have hq' : q ∈ W.h := by rw [e]; exact List.mem_cons_of_mem _ hq
      exact ⟨by rw [upd_ne (hh q hq)]; exact (s.held q hq').1, (s.held q hq').2.1, (s.held q hq').2.2⟩
/-- a list that was held stays as it is, or is a cell -/
theorem Sim.settle {p : Addr} {xs : List V} {ds : List D} {hs : List (Addr × HO)} (s : Sim T W st H) (e : W.h = (p, .lst xs) :: hs) (r : RepA T W ds xs) :
    ∃ W', W.Sub W' ∧ W'.h = hs ∧ Sim T W' st H ∧ Rep T W' (.lst ds) (.ref p) := by
  have hm : (p, HO.lst xs) ∈ W.h := by rw [e]; exact List.mem_cons_self
  obtain ⟨k1, k2, k3⟩ := s.held _ hm
  have nd := s.hnd
  rw [e] at nd
  have nd' : (p :: hs.map (·.1)).Nodup := nd
  have hh : ∀ q ∈ hs, q.1 ≠ p := fun q hq z => (List.nodup_cons.mp nd').1 (List.mem_map.mpr ⟨q, hq, z⟩)
  have sub : W.Sub ⟨upd W.F p (.lst xs), W.φ, hs⟩ := ⟨fun b u e => by rw [show (Wd.mk (upd W.F p (.lst xs)) W.φ hs).F = upd W.F p (.lst xs) from rfl, upd_ne (ne_of_none e k2)]; exact e, [], by simp⟩
  refine ⟨_, sub, rfl, ⟨fun b u e => ?_, s.len, fun n c q h1 h2 => (s.cell n c q h1 h2).sub sub, fun n c q h1 h2 h3 => ?_, fun q hq => ?_, (List.nodup_cons.mp nd').2, s.sep⟩, .lst (SqL.of upd_same) (r.sub sub)⟩
  · have e' : upd W.F p (.lst xs) b = some u := e
    by_cases hb : b = p
    · rw [hb, upd_same] at e'; rw [hb, k1]; exact e'
    · rw [upd_ne hb] at e'; exact s.sub _ _ e'
  · obtain ⟨o1, o2, o3, o4⟩ := s.own n c q h1 h2 h3
    obtain ⟨n1, n2⟩ := k3 n c q h1 h2 h3
    refine ⟨?_, ?_, o3, o4⟩
    · show upd W.F p _ q.1 = none; rw [upd_ne n1]; exact o1
    · show upd W.F p _ q.2 = none; rw [upd_ne n2]; exact o2
  · have hq' : q ∈ W.h := by rw [e]; exact List.mem_cons_of_mem _ hq
    refine ⟨(s.held q hq').1, ?_, (s.held q hq').2.2⟩
    show upd W.F p _ q.1 = none; rw [upd_ne (hh q hq)]; exact (s.held q hq').2.1
theorem Sim.settleCell {p : Addr} {xs : List V} {ds : List D} {hs : List (Addr × HO)} (s : Sim T W st H) (e : W.h = (p, .lst xs) :: hs) (r : RepA T W ds xs) :
    ∃ W', W.Sub W' ∧ W'.h = hs ∧ Sim T W' (st ++ [.lst ds]) H ∧ Rep T W' (.ref st.length) (.ref p) := by
  have hm : (p, HO.lst xs) ∈ W.h := by rw [e]; exact List.mem_cons_self
  obtain ⟨k1, k2, k3⟩ := s.held _ hm
  have nd := s.hnd
  rw [e] at nd
  have nd' : (p :: hs.map (·.1)).Nodup := nd
  have hh : ∀ q ∈ hs, q.1 ≠ p := fun q hq z => (List.nodup_cons.mp nd').1 (List.mem_map.mpr ⟨q, hq, z⟩)
  have sub : W.Sub ⟨W.F, W.φ ++ [(p, p)], hs⟩ := ⟨Same.refl _, [(p, p)], rfl⟩
  have two : ∀ {n : Nat} {c : Cell} {q : Addr × Addr}, (st ++ [Cell.lst ds])[n]? = some c → (W.φ ++ [(p, p)])[n]? = some q → (st[n]? = some c ∧ W.φ[n]? = some q) ∨ (n = st.length ∧ c = .lst ds ∧ q = (p, p)) := fun {n c q} h1 h2 => by
    rcases get_snoc h1 with ⟨h1, k1⟩ | ⟨k1, h1⟩
    · rcases get_snoc h2 with ⟨h2, _⟩ | ⟨k2, _⟩
      · exact .inl ⟨h1, h2⟩
      · rw [s.len] at k2; omega
    · rcases get_snoc h2 with ⟨_, k2⟩ | ⟨_, h2⟩
      · rw [s.len] at k2; omega
      · exact .inr ⟨k1, h1, h2⟩
  refine ⟨_, sub, rfl, ⟨s.sub, ?_, fun n c q h1 h2 => ?_, fun n c q h1 h2 h3 => ?_, fun q hq => ?_, (List.nodup_cons.mp nd').2, fun n m c d q1 q2 hnm h1 h2 h3 h4 h5 h6 => ?_⟩, .ref (p := (p, p)) (by show (W.φ ++ [(p, p)])[st.length]? = _; rw [← s.len]; simp)⟩
  · show (W.φ ++ [(p, p)]).length = _; rw [List.length_append, List.length_append, s.len]; rfl
  · rcases two h1 h2 with ⟨h1, h2⟩ | ⟨_, rfl, rfl⟩
    · exact (s.cell n c q h1 h2).sub sub
    · exact ⟨xs, k1, r.sub sub, rfl⟩
  · rcases two h1 h2 with ⟨h1, h2⟩ | ⟨_, rfl, rfl⟩
    · exact s.own n c q h1 h2 h3
    · exact ⟨k2, k2, (by rw [k1]; exact fun z => nomatch z), (by rw [k1]; exact fun z => nomatch z)⟩
  · have hq' : q ∈ W.h := by rw [e]; exact List.mem_cons_of_mem _ hq
    refine ⟨(s.held q hq').1, (s.held q hq').2.1, fun n c r h1 h2 h3 => ?_⟩
    rcases two h1 h2 with ⟨h1, h2⟩ | ⟨_, rfl, rfl⟩
    · exact (s.held q hq').2.2 n c r h1 h2 h3
    · exact ⟨fun z => hh q hq z.symm, fun z => hh q hq z.symm⟩
  · rcases two h1 h5 with ⟨h1, h5⟩ | ⟨k1, rfl, rfl⟩
    · rcases two h2 h6 with ⟨h2, h6⟩ | ⟨k2, rfl, rfl⟩
      · exact s.sep n m c d q1 q2 hnm h1 h2 h3 h4 h5 h6
      · obtain ⟨n1, n2⟩ := k3 n c q1 h1 h5 h3
        exact ⟨n1, n1, n2, n2⟩
    · rcases two h2 h6 with ⟨h2, h6⟩ | ⟨k2, rfl, rfl⟩
      · obtain ⟨n1, n2⟩ := k3 m d q2 h2 h6 h4
        exact ⟨fun z => n1 z.symm, fun z => n2 z.symm, fun z => n1 z.symm, fun z => n2 z.symm⟩
      · omega
end

/-! ### environments -/
structure RepS (T : Tb) (W : Wd) (σ : L2.St) (σd : EnvD) : Prop where
  len : σd.length = σ.length
  get : ∀ (i : Nat) d, σd[i]? = some (some d) → ∃ v, σ[i]? = some (some v) ∧ Rep T W d v
theorem RepS.sub {T : Tb} {W W' : Wd} {σ : L2.St} {σd : EnvD} (le : W.Sub W') (r : RepS T W σ σd) : RepS T W' σ σd :=
  ⟨r.len, fun i d e => let ⟨v, h1, h2⟩ := r.get i d e; ⟨v, h1, h2.sub le⟩⟩
theorem RepS.mono {T : Tb} {W W' : Wd} {σ : L2.St} {σd : EnvD} (le : W.le W') (r : RepS T W σ σd) : RepS T W' σ σd := r.sub le.1
theorem RepS.set {T : Tb} {W : Wd} {σ : L2.St} {σd : EnvD} (r : RepS T W σ σd) (i : Nat) {d : D} {v : V} (h : Rep T W d v) : RepS T W (σ.set i (some v)) (σd.set i (some d)) := by
  refine ⟨by rw [List.length_set, List.length_set]; exact r.len, fun j e q => ?_⟩
  rcases set_get q with ⟨rfl, h2, hl⟩ | ⟨hm, q⟩
  · cases h2
    exact ⟨v, List.getElem?_set_self (by rw [← r.len]; exact hl), h⟩
  · obtain ⟨w, h1, h2⟩ := r.get j e q
    exact ⟨w, by rw [List.getElem?_set_ne (fun z => hm z.symm)]; exact h1, h2⟩
theorem RepS.setNone {T : Tb} {W : Wd} {σ : L2.St} {σd : EnvD} (r : RepS T W σ σd) (i : Nat) : RepS T W (σ.set i none) (σd.set i none) := by
  refine ⟨by rw [List.length_set, List.length_set]; exact r.len, fun j e q => ?_⟩
  rcases set_get q with ⟨rfl, h2, hl⟩ | ⟨hm, q⟩
  · cases h2
  · obtain ⟨w, h1, h2⟩ := r.get j e q
    exact ⟨w, by rw [List.getElem?_set_ne (fun z => hm z.symm)]; exact h1, h2⟩
theorem RepS.wipe {T : Tb} {W : Wd} {σ : L2.St} {σd : EnvD} (r : RepS T W σ σd) : ∀ vs : List Nat, RepS T W (L2.wipe σ vs) (wipeD σd vs)
  | [] => r
  | v :: vs => (r.wipe vs).setNone v

/-! ### what is wanted behind an outcome -/
/-- an exception by its class and dict -/
def RepX (T : Tb) (W : Wd) (x : Ex) (cls : Value) (dd : Option Addr) : Prop :=
  cls = T.xa x.c ∧ match x.vs with
    | [] => True
    | [d] => ∃ a v, dd = some a ∧ W.F a = some (.xd [(T.xf x.c, v)]) ∧ Rep T W d v
    | _ => False
theorem RepX.mono {T : Tb} {W W' : Wd} {x : Ex} {cls : Value} {dd : Option Addr} (le : W.le W') (h : RepX T W x cls dd) : RepX T W' x cls dd := by
  obtain ⟨h1, h2⟩ := h
  refine ⟨h1, ?_⟩
  split at h2
  · trivial
  · obtain ⟨a, v, e, f, r⟩ := h2
    exact ⟨a, v, e, le.1.1 _ _ f, r.mono le⟩
  · exact h2.elim
def Pst {α β : Type} (T : Tb) (XW : WX) (σ : L2.St) (W : Wd) (R : Wd → α → β → Prop) (o : Out α) (Q : β → Hp → Prop) : Prop := match o with
  | .ok a st => ∀ b W' H', W.le W' → Sim T W' st H' → R W' a b → Q b H'
  | .raise x st => ∀ cls dd W' H', W.le W' → Sim T W' st H' → RepX T W' x cls dd → XW cls dd σ H'
  | .stuck => False
section
variable {α β γ δ : Type} {T : Tb} {XW : WX} {σ : L2.St} {W W' : Wd} {R : Wd → α → β → Prop} {S : Wd → γ → δ → Prop}
theorem Pst.mono {o : Out α} {Q : β → Hp → Prop} (le : W.le W') (h : Pst T XW σ W R o Q) : Pst T XW σ W' R o Q := by
  cases o with
  | ok a st => exact fun b W'' H' l => h b W'' H' (le.trans l)
  | raise x st => exact fun cls dd W'' H' l => h cls dd W'' H' (le.trans l)
  | stuck => exact h
theorem Pst.imp {o : Out α} {Q Q' : β → Hp → Prop} (h : Pst T XW σ W R o Q) (k : ∀ b H, Q b H → Q' b H) : Pst T XW σ W R o Q' := by
  cases o with
  | ok a st => exact fun b W'' H' l s r => k _ _ (h b W'' H' l s r)
  | raise x st => exact h
  | stuck => exact h
theorem Pst.bind {o : Out α} {f : α → Store → Out γ} {Q : δ → Hp → Prop} (R : Wd → α → β → Prop) (h : Pst T XW σ W S (o.bind f) Q) :
    Pst T XW σ W R o (fun b H => ∃ W1 a st1, W.le W1 ∧ Sim T W1 st1 H ∧ R W1 a b ∧ Pst T XW σ W1 S (f a st1) Q) := by
  cases o with
  | ok a st => exact fun b W' H' le s r => ⟨W', a, st, le, s, r, Pst.mono le h⟩
  | raise x st => exact h
  | stuck => exact h
/-- an outcome that is there -/
theorem Pst.here {a : α} {b : β} {st : Store} {H : Hp} {Q : β → Hp → Prop} (h : Pst T XW σ W R (.ok a st) Q) (le : W.le W') (s : Sim T W' st H) (r : R W' a b) : Q b H := h b W' H le s r
end
/-- the reading of a term -/
def tI (T : Tb) (XW : WX) (e : IE) : TE := fun σ H Q => ∃ W st σd, Sim T W st H ∧ RepS T W σ σd ∧ Pst T XW σ W (Rep T) (ev e σd st) Q
def tIs (T : Tb) (XW : WX) (es : IEs) : TA := fun σ H Q => ∃ W st σd, Sim T W st H ∧ RepS T W σ σd ∧ Pst T XW σ W (RepA T) (evs es σd st) Q
def tIt (T : Tb) (XW : WX) (e : IE) : TT := fun σ H Q => ∃ W st σd, Sim T W st H ∧ RepS T W σ σd ∧ Pst T XW σ W (fun _ (a b : Bool) => a = b) (evt e σd st) Q
end Ip
set_option Elab.async false
set_option linter.all false
set_option maxRecDepth 100000
set_option maxHeartbeats 4000000
/-! Operations by values: what the machine gives where the interpreter's functions give something. -/
namespace Ip
open PySem PySem.Spec PyProof.Rows L2

theorem szOk.le {n : Nat} (h : szOk n = true) : n ≤ sizeLine := Nat.le_trans (of_decide_eq_true h) (by decide)

section
variable {X : Cx}
/-- list + list, also lists that are only read -/
def rCatL (K : PySem.W.Frag) : R2 := fun x y H Q => ∃ l b xs zs, x = .ref l ∧ y = .ref b ∧ SqL K H l xs ∧ SqL K H b zs ∧ xs.length + zs.length ≤ sizeLine ∧ ∀ p, H p = none → Q (.ref p) (upd H p (.lst (xs ++ zs)))
theorem op_catL : OpR X (binaryOp .Add) (rCatL X.K) := by
  intro pins s σ H x y v u Q I rx ry h
  obtain ⟨l, b, xs, zs, rfl, rfl, hH, hB, hz, q⟩ := h
  cases rx
  cases ry
  obtain ⟨its, r, ⟨⟨cls, dd, data, sl⟩, n, ho, hc, hdd, hd⟩, z⟩ := I.list hH
  obtain ⟨its2, r2, ⟨⟨cls2, dd2, data2, sl2⟩, n2, ho2, hc2, hdd2, hd2⟩, z2⟩ := I.list hB
  simp only at hc hd hc2 hd2
  subst hc hd hc2 hd2
  have e : its.toArray ++ its2.toArray = (its ++ its2).toArray := by simp
  have l1 := r.length
  have l2 := r2.length
  refine concat_meets ⟨_, ho, rfl⟩ ⟨_, ho2, rfl⟩ noFill_list_add seq_list_add PySem.F.slot_list_add PySem.F.entry_list_add (PySem.F.args_list_add_2 _ _) (list_addW l b its.toArray its2.toArray n n2 dd dd2 sl sl2 (by rw [List.size_toArray, List.size_toArray]; omega)) ⟨ho, ho2, ?_⟩
  rw [e]
  exact ⟨.ref _, _, I.lnew (t' := s.toks) (r.append r2) (by rw [List.length_append]; omega), rfl, q _ I.fresh⟩
/-- // by any divisor that is not too long -/
theorem op_fdivA : OpR X (binaryOp .FloorDiv) (rI (fun _ j => j ≠ 0 ∧ j.natAbs.log2 < 9000) fun i j => .int (i.fdiv j)) := opI fun i j _ _ _ _ _ hc q =>
  floordiv_int hc.1 q (.inl (PyProof.noPylong_of_log2 hc.2))
theorem op_powA : OpR X (binaryOp .Pow) (rI (fun i j => 0 ≤ j ∧ (Builtin.Int.intBits i : Int) * j ≤ 2 ^ 27) fun i j => .int (i ^ j.toNat)) := opI fun i j _ _ _ _ _ hc q =>
  pow_int hc.1 hc.2 q
end

/-- a two-place operation that only makes objects -/
def rV2 (T : Tb) (g : Store → D → D → Option D) : R2 := fun x y H Q => ∃ W st a b, Sim T W st H ∧ Rep T W a x ∧ Rep T W b y ∧ ∃ d, g st a b = some d ∧ ∀ v W' H', W.le W' → Sim T W' st H' → Rep T W' d v → Q v H'
section
variable {X : Cx} {T : Tb}
theorem rep_bl {W : Wd} {x : V} {b : Bool} (h : Rep T W (.bl b) x) : x = .bl b := by cases h; rfl
theorem rep_int {W : Wd} {x : V} {b : Int} (h : Rep T W (.int b) x) : x = .int b := by cases h; rfl
theorem rep_str {W : Wd} {x : V} {b : Str} (h : Rep T W (.str b) x) : x = .str b := by cases h; rfl
theorem rep_non {W : Wd} {x : V} (h : Rep T W .non x) : x = .non := by cases h; rfl
theorem rep_lst {W : Wd} {x : V} {ds : List D} (h : Rep T W (.lst ds) x) : ∃ a xs, x = .ref a ∧ SqL T.K W.F a xs ∧ RepA T W ds xs := by cases h with | lst h r => exact ⟨_, _, rfl, h, r⟩
theorem rep_tup {W : Wd} {x : V} {ds : List D} (h : Rep T W (.tup ds) x) : ∃ a xs, x = .ref a ∧ SqT T.K W.F a xs ∧ RepA T W ds xs := by cases h with | tup h r => exact ⟨_, _, rfl, h, r⟩
theorem rep_ref {W : Wd} {x : V} {n : Nat} (h : Rep T W (.ref n) x) : ∃ p, x = .ref p.1 ∧ W.φ[n]? = some p := by cases h with | ref h => exact ⟨_, rfl, h⟩
/-- a new list that stays -/
theorem Sim.newL {W : Wd} {st : Store} {H : Hp} {p : Addr} {xs : List V} {ds : List D} (s : Sim T W st H) (hp : H p = none) (r : RepA T W ds xs) :
    ∃ W', W.le W' ∧ Sim T W' st (upd H p (.lst xs)) ∧ Rep T W' (.lst ds) (.ref p) := by
  obtain ⟨le, s'⟩ := s.new (o := .lst xs) hp
  exact ⟨_, le, s', .lst (SqL.of upd_same) (r.mono le)⟩
theorem Sim.newT {W : Wd} {st : Store} {H : Hp} {p : Addr} {xs : List V} {ds : List D} (s : Sim T W st H) (hp : H p = none) (r : RepA T W ds xs) :
    ∃ W', W.le W' ∧ Sim T W' st (upd H p (.tup xs)) ∧ Rep T W' (.tup ds) (.ref p) := by
  obtain ⟨le, s'⟩ := s.new (o := .tup xs) hp
  exact ⟨_, le, s', .tup (SqT.of upd_same) (r.mono le)⟩
/-- a list or tuple of the store, or that stays -/
theorem seqOf_rep {W : Wd} {st : Store} {H : Hp} {d : D} {x : V} {ds : List D} (s : Sim T W st H) (h : Rep T W d x) (e : seqOf st d = some ds) : ∃ a xs, x = .ref a ∧ (SqL T.K H a xs ∨ SqT T.K H a xs) ∧ RepA T W ds xs := by
  unfold seqOf at e
  split at e
  · cases e
    obtain ⟨a, xs, rfl, h, r⟩ := rep_lst h
    exact ⟨a, xs, rfl, .inl (s.sub.seq h), r⟩
  · cases e
    obtain ⟨a, xs, rfl, h, r⟩ := rep_tup h
    exact ⟨a, xs, rfl, .inr (Same.tup s.sub h), r⟩
  · split at e
    · cases e
      obtain ⟨p, rfl, hp⟩ := rep_ref h
      rename_i hn
      obtain ⟨xs, hx, r, _⟩ := s.cell _ _ p hn hp
      exact ⟨p.1, xs, rfl, .inl (SqL.of hx), r⟩
    · cases e
  · cases e
def BO.op : BO → Operator
  | .add => .Add | .sub => .Sub | .mul => .Mult | .fdiv => .FloorDiv | .mod => .Mod | .pow => .Pow
theorem RepA.nil_iff {W : Wd} {ds : List D} {xs : List V} (r : RepA T W ds xs) : ds = [] ↔ xs = [] := by cases r <;> simp
theorem op_bin (hK : T.K = X.K) (o : BO) : OpR X (binaryOp o.op) (rV2 T (binD o)) := by
  intro pins s σ H x y v u Q I rx ry h
  obtain ⟨W, st, a, b, sim, ra, rb, d, e, q⟩ := h
  have fin : ∀ {d' : D} {v' : V}, d = d' → Rep T W d' v' → Q v' H := fun e1 r => by subst e1; exact q _ W H (.refl _) sim r
  unfold binD at e
  split at e
  all_goals try (cases e; done)
  · cases rep_int ra; cases rep_int rb
    exact op_add pins s σ H _ _ v u Q I rx ry ⟨_, _, rfl, rfl, fin (Option.some.inj e).symm (.int _)⟩
  · cases rep_int ra; cases rep_int rb
    exact op_sub pins s σ H _ _ v u Q I rx ry ⟨_, _, rfl, rfl, fin (Option.some.inj e).symm (.int _)⟩
  · cases rep_int ra; cases rep_int rb
    split at e
    · rename_i hm
      exact op_mulW pins s σ H _ _ v u Q I rx ry ⟨_, _, rfl, rfl, (of_decide_eq_true hm : _ < 1000000), fin (Option.some.inj e).symm (.int _)⟩
    · cases e
  · cases rep_int ra; cases rep_int rb
    split at e
    · rename_i hm
      exact op_fdivA pins s σ H _ _ v u Q I rx ry ⟨_, _, rfl, rfl, of_decide_eq_true hm, fin (Option.some.inj e).symm (.int _)⟩
    · cases e
  · cases rep_int ra; cases rep_int rb
    split at e
    · rename_i hm
      exact op_modN pins s σ H _ _ v u Q I rx ry ⟨_, _, rfl, rfl, hm, fin (Option.some.inj e).symm (.int _)⟩
    · cases e
  · cases rep_int ra; cases rep_int rb
    split at e
    · rename_i hm
      exact op_powA pins s σ H _ _ v u Q I rx ry ⟨_, _, rfl, rfl, of_decide_eq_true hm, fin (Option.some.inj e).symm (.int _)⟩
    · cases e
  · cases rep_str ra; cases rep_str rb
    split at e
    · rename_i hm
      exact op_add_str pins s σ H _ _ v u Q I rx ry ⟨_, _, rfl, rfl, szOk.le hm, fin (Option.some.inj e).symm (.str _)⟩
    · cases e
  · obtain ⟨l, xs, rfl, hx, r1⟩ := rep_lst ra
    obtain ⟨b, zs, rfl, hz, r2⟩ := rep_lst rb
    split at e
    · rename_i hm
      refine op_catL pins s σ H _ _ v u Q I rx ry ⟨_, _, xs, zs, rfl, rfl, hK ▸ sim.sub.seq hx, hK ▸ sim.sub.seq hz, (by rw [← r1.length, ← r2.length]; exact szOk.le hm), fun p hp => ?_⟩
      obtain ⟨W', le, s', r'⟩ := sim.newL hp (r1.append r2)
      exact q _ W' _ le s' (Option.some.inj e ▸ r')
    · cases e
  · obtain ⟨l, xs, rfl, hx, r1⟩ := rep_tup ra
    obtain ⟨b, zs, rfl, hz, r2⟩ := rep_tup rb
    split at e
    · rename_i hm
      refine op_catA pins s σ H _ _ v u Q I rx ry ⟨_, _, xs, zs, rfl, rfl, hK ▸ Same.tup sim.sub hx, hK ▸ Same.tup sim.sub hz, (by rw [← r1.length, ← r2.length]; exact szOk.le hm), fun z => ?_, fun _ z => ?_, fun _ _ p hp => ?_⟩
      · have z1 := r1.nil_iff.mpr z
        subst z1
        exact fin (Option.some.inj e).symm rb
      · have z1 := r2.nil_iff.mpr z
        subst z1
        exact fin (Option.some.inj e).symm (by rw [List.append_nil]; exact ra)
      · obtain ⟨W', le, s', r'⟩ := sim.newT hp (r1.append r2)
        exact q _ W' _ le s' (Option.some.inj e ▸ r')
    · cases e

/-! ### comparisons -/
mutual
def toPy : D → PyData
  | .non => .none
  | .bl b => .bool b
  | .int i => .int i
  | .str x => .str x
  | .lst xs => .list (toPys xs)
  | .tup xs => .tuple (toPys xs)
  | _ => .none
def toPys : List D → List PyData
  | [] => []
  | x :: xs => toPy x :: toPys xs
end
mutual
theorem pure_py : ∀ (n : Nat) (d : D), pureD n d = true → (toPy d).canLay0 = true ∧ (toPy d).depth ≤ n
  | n, .non, _ => by simp [toPy, PyData.canLay0, PyData.depth]
  | n, .bl _, _ => by simp [toPy, PyData.canLay0, PyData.depth]
  | n, .int _, _ => by simp [toPy, PyData.canLay0, PyData.depth]
  | n, .str x, h => by simp [toPy, PyData.canLay0, PyData.depth]; simpa [pureD] using h
  | n + 1, .lst xs, h => by
    obtain ⟨h1, h2⟩ := pures_py n xs (by simpa [pureD] using h)
    simp only [toPy, PyData.canLay0, PyData.depth]
    exact ⟨h1, by omega⟩
  | n + 1, .tup xs, h => by
    obtain ⟨h1, h2⟩ := pures_py n xs (by simpa [pureD] using h)
    simp only [toPy, PyData.canLay0, PyData.depth]
    exact ⟨h1, by omega⟩
  | 0, .lst _, h => by simp [pureD] at h
  | 0, .tup _, h => by simp [pureD] at h
  | 0, .dct _ _, h => by simp [pureD] at h
  | _ + 1, .dct _ _, h => by simp [pureD] at h
  | 0, .obj _ _, h => by simp [pureD] at h
  | _ + 1, .obj _ _, h => by simp [pureD] at h
  | 0, .cls _, h => by simp [pureD] at h
  | _ + 1, .cls _, h => by simp [pureD] at h
  | 0, .ref _, h => by simp [pureD] at h
  | _ + 1, .ref _, h => by simp [pureD] at h
theorem pures_py : ∀ (n : Nat) (ds : List D), pureDs n ds = true → PyData.canLayAll0 (toPys ds) = true ∧ PyData.depthAll (toPys ds) ≤ n
  | n, [], _ => by simp [toPys, PyData.canLayAll0, PyData.depthAll]
  | n, x :: xs, h => by
    have h' : pureD n x = true ∧ pureDs n xs = true := by simpa [pureDs] using h
    obtain ⟨a1, a2⟩ := pure_py n x h'.1
    obtain ⟨b1, b2⟩ := pures_py n xs h'.2
    simp only [toPys, PyData.canLayAll0, PyData.depthAll, a1, b1]
    exact ⟨rfl, Nat.max_le.mpr ⟨a2, b2⟩⟩
end
theorem pure_shaped {n : Nat} (hn : n ≤ 64) {d : D} (h : pureD n d = true) : SeqAt.shaped (toPy d) = true := by
  obtain ⟨h1, h2⟩ := pure_py n d h
  unfold SeqAt.shaped
  rw [h1, Bool.true_and]
  exact decide_eq_true (by omega)
mutual
theorem eqv_eqD : ∀ (m n : Nat) (a b : D), pureD m a = true → pureD n b = true → PyData.eqv (toPy a) (toPy b) = eqD a b := by
  intro m n a b ha hb
  cases a with
  | lst xs => cases b with
    | lst ys =>
      cases m with
      | zero => simp [pureD] at ha
      | succ m =>
      cases n with
      | zero => simp [pureD] at hb
      | succ n =>
        have := eqvs_eqDs m n xs ys (by simpa [pureD] using ha) (by simpa [pureD] using hb)
        simpa [toPy, PyData.eqv, eqD] using this
    | dct _ _ => cases n <;> simp [pureD] at hb
    | obj _ _ => cases n <;> simp [pureD] at hb
    | cls _ => cases n <;> simp [pureD] at hb
    | ref _ => cases n <;> simp [pureD] at hb
    | _ => simp [toPy, PyData.eqv, eqD]
  | tup xs => cases b with
    | tup ys =>
      cases m with
      | zero => simp [pureD] at ha
      | succ m =>
      cases n with
      | zero => simp [pureD] at hb
      | succ n =>
        have := eqvs_eqDs m n xs ys (by simpa [pureD] using ha) (by simpa [pureD] using hb)
        simpa [toPy, PyData.eqv, eqD] using this
    | dct _ _ => cases n <;> simp [pureD] at hb
    | obj _ _ => cases n <;> simp [pureD] at hb
    | cls _ => cases n <;> simp [pureD] at hb
    | ref _ => cases n <;> simp [pureD] at hb
    | _ => simp [toPy, PyData.eqv, eqD]
  | dct _ _ => cases m <;> simp [pureD] at ha
  | obj _ _ => cases m <;> simp [pureD] at ha
  | cls _ => cases m <;> simp [pureD] at ha
  | ref _ => cases m <;> simp [pureD] at ha
  | _ => cases b with
    | dct _ _ => cases n <;> simp [pureD] at hb
    | obj _ _ => cases n <;> simp [pureD] at hb
    | cls _ => cases n <;> simp [pureD] at hb
    | ref _ => cases n <;> simp [pureD] at hb
    | _ => simp [toPy, PyData.eqv, eqD]
theorem eqvs_eqDs : ∀ (m n : Nat) (a b : List D), pureDs m a = true → pureDs n b = true → PyData.eqvAll (toPys a) (toPys b) = eqDs a b
  | m, n, [], [], _, _ => by simp [toPys, PyData.eqvAll, eqDs]
  | m, n, [], _ :: _, _, _ => by simp [toPys, PyData.eqvAll, eqDs]
  | m, n, _ :: _, [], _, _ => by simp [toPys, PyData.eqvAll, eqDs]
  | m, n, x :: xs, y :: ys, ha, hb => by
    have ha' : pureD m x = true ∧ pureDs m xs = true := by simpa [pureDs] using ha
    have hb' : pureD n y = true ∧ pureDs n ys = true := by simpa [pureDs] using hb
    have e1 := eqv_eqD m n x y ha'.1 hb'.1
    have e2 := eqvs_eqDs m n xs ys ha'.2 hb'.2
    simp only [toPys, PyData.eqvAll, eqDs, e1, e2]
end
mutual
theorem rep_dp {W : Wd} {H : Hp} (sub : Same W.F H) : ∀ (n : Nat) (d : D) (x : V), pureD n d = true → Rep T W d x → Dp T.K H x (toPy d)
  | _, .non, _, _, r => by cases r; exact .non
  | _, .bl _, _, _, r => by cases r; exact .bl _
  | _, .int _, _, _, r => by cases r; exact .int _
  | _, .str _, _, _, r => by cases r; exact .str _
  | n + 1, .lst ds, _, h, r => by
    obtain ⟨a, xs, rfl, hx, r⟩ := rep_lst r
    rw [toPy]
    exact .lst (sub.seq hx) (rep_dps sub n ds xs (by simpa [pureD] using h) r)
  | n + 1, .tup ds, _, h, r => by
    obtain ⟨a, xs, rfl, hx, r⟩ := rep_tup r
    rw [toPy]
    exact .tup (Same.tup sub hx) (rep_dps sub n ds xs (by simpa [pureD] using h) r)
  | 0, .lst _, _, h, _ => by simp [pureD] at h
  | 0, .tup _, _, h, _ => by simp [pureD] at h
  | 0, .dct _ _, _, h, _ => by simp [pureD] at h
  | _ + 1, .dct _ _, _, h, _ => by simp [pureD] at h
  | 0, .obj _ _, _, h, _ => by simp [pureD] at h
  | _ + 1, .obj _ _, _, h, _ => by simp [pureD] at h
  | 0, .cls _, _, h, _ => by simp [pureD] at h
  | _ + 1, .cls _, _, h, _ => by simp [pureD] at h
  | 0, .ref _, _, h, _ => by simp [pureD] at h
  | _ + 1, .ref _, _, h, _ => by simp [pureD] at h
theorem rep_dps {W : Wd} {H : Hp} (sub : Same W.F H) : ∀ (n : Nat) (ds : List D) (xs : List V), pureDs n ds = true → RepA T W ds xs → DpAll T.K H xs (toPys ds)
  | _, [], _, _, r => by cases r; exact .nil
  | n, d :: ds, _, h, r => by
    cases r with
    | cons r1 r2 =>
      have h' : pureD n d = true ∧ pureDs n ds = true := by simpa [pureDs] using h
      exact .cons (rep_dp sub n d _ h'.1 r1) (rep_dps sub n ds _ h'.2 r2)
end
def CO.op : CO → CmpOp
  | .lt => .Lt | .le => .LtE | .gt => .Gt | .ge => .GtE | .eq => .Eq | .ne => .NotEq | .is => .Is | .isnot => .IsNot | .isin => .In | .notin => .NotIn
theorem Rep.non_iff {W : Wd} {d : D} {x : V} (r : Rep T W d x) : decide (x = .non) = isNonD d := by
  cases r <;> simp [isNonD]
theorem op_cmp (hK : T.K = X.K) (hu : X.A.units + 64 < cLine) (o : CO) : OpR X (compareOp o.op) (rV2 T (fun st a b => (cmpD o st a b).map .bl)) := by
  intro pins s σ H x y v u Q I rx ry h
  obtain ⟨W, st, a, b, sim, ra, rb, d, e, q⟩ := h
  obtain ⟨k, e1, e2⟩ := Option.map_eq_some_iff.mp e
  subst e2
  have fin : ∀ {k' : Bool}, k = k' → Q (.bl k') H := fun e1 => by subst e1; exact q _ W H (.refl _) sim (.bl _)
  unfold cmpD at e1
  split at e1
  all_goals try (cases e1; done)
  · cases rep_int ra; cases rep_int rb
    exact op_lt pins s σ H _ _ v u Q I rx ry ⟨_, _, rfl, rfl, fin (Option.some.inj e1).symm⟩
  · cases rep_int ra; cases rep_int rb
    exact op_le pins s σ H _ _ v u Q I rx ry ⟨_, _, rfl, rfl, fin (Option.some.inj e1).symm⟩
  · cases rep_int ra; cases rep_int rb
    exact op_gt pins s σ H _ _ v u Q I rx ry ⟨_, _, rfl, rfl, fin (Option.some.inj e1).symm⟩
  · cases rep_int ra; cases rep_int rb
    exact op_ge pins s σ H _ _ v u Q I rx ry ⟨_, _, rfl, rfl, fin (Option.some.inj e1).symm⟩
  · cases rep_str ra; cases rep_str rb
    refine op_eq pins s σ H _ _ v u Q I rx ry ⟨rfl, fin ?_⟩
    rw [dec_str]
    exact (Option.some.inj e1).symm
  · cases rep_str ra; cases rep_str rb
    refine op_ne pins s σ H _ _ v u Q I rx ry ⟨rfl, fin ?_⟩
    rw [dec_str]
    exact (Option.some.inj e1).symm
  · split at e1
    · rename_i hp
      obtain ⟨p1, p2⟩ := Bool.and_eq_true_iff.mp hp
      refine op_eqD hu pins s σ H _ _ v u Q I rx ry ⟨toPy a, toPy b, hK ▸ rep_dp sim.sub 60 a x p1 ra, hK ▸ rep_dp sim.sub 60 b y p2 rb, pure_shaped (by decide) p1, pure_shaped (by decide) p2, fin ?_⟩
      rw [eqv_eqD 60 60 a b p1 p2]
      exact (Option.some.inj e1).symm
    · cases e1
  · split at e1
    · rename_i hp
      obtain ⟨p1, p2⟩ := Bool.and_eq_true_iff.mp hp
      refine op_neD hu pins s σ H _ _ v u Q I rx ry ⟨toPy a, toPy b, hK ▸ rep_dp sim.sub 60 a x p1 ra, hK ▸ rep_dp sim.sub 60 b y p2 rb, pure_shaped (by decide) p1, pure_shaped (by decide) p2, fin ?_⟩
      rw [eqv_eqD 60 60 a b p1 p2]
      exact (Option.some.inj e1).symm
    · cases e1
  · cases rep_non rb
    refine op_isN pins s σ H _ _ v u Q I rx ry ⟨rfl, fin ?_⟩
    rw [ra.non_iff]
    exact (Option.some.inj e1).symm
  · cases rep_non rb
    refine op_notN pins s σ H _ _ v u Q I rx ry ⟨rfl, fin ?_⟩
    rw [ra.non_iff]
    exact (Option.some.inj e1).symm
  · cases rep_bl ra; cases rep_bl rb
    refine op_is_bl pins s σ H _ _ v u Q I rx ry ⟨_, _, rfl, rfl, fin (Option.some.inj e1).symm⟩
  · cases rep_bl ra; cases rep_bl rb
    refine op_isnot_bl pins s σ H _ _ v u Q I rx ry ⟨_, _, rfl, rfl, fin (Option.some.inj e1).symm⟩
  · cases rep_str ra; cases rep_str rb
    exact op_in_str pins s σ H _ _ v u Q I rx ry ⟨_, _, rfl, rfl, fin (Option.some.inj e1).symm⟩
  · cases rep_str ra; cases rep_str rb
    exact op_notIn_str pins s σ H _ _ v u Q I rx ry ⟨_, _, rfl, rfl, fin (Option.some.inj e1).symm⟩
end
end Ip
set_option Elab.async false
set_option linter.all false
set_option maxRecDepth 100000
set_option maxHeartbeats 4000000
/-! repr and str of plain values. -/
namespace Ip
open PySem PySem.Spec PyProof.Rows L2

section
variable {X : Cx} {T : Tb} {W : Wd} {pins : List (Addr × Obj)} {σ : L2.St} {H : Hp} {s : Shared}
theorem reprDs_some {x : D} {xs : List D} {ts : List Str} (h : reprDs (x :: xs) = some ts) : ∃ t r, reprD x = some t ∧ reprDs xs = some r ∧ ts = t :: r := by
  rw [reprDs] at h
  split at h
  · rename_i t r e1 e2
    exact ⟨t, r, e1, e2, (Option.some.inj h).symm⟩
  · cases h
theorem reprD_lst {xs : List D} {t : Str} (h : reprD (.lst xs) = some t) : ∃ ts, reprDs xs = some ts ∧ (listText ts).length ≤ sizeLine ∧ t = listText ts := by
  rw [reprD] at h
  split at h
  · rename_i ts e
    split at h
    · rename_i hz
      exact ⟨ts, e, szOk.le hz, (Option.some.inj h).symm⟩
    · cases h
  · cases h
theorem reprD_tup {xs : List D} {t : Str} (h : reprD (.tup xs) = some t) : ∃ ts, reprDs xs = some ts ∧ (tupleText ts).length ≤ sizeLine ∧ t = tupleText ts := by
  rw [reprD] at h
  split at h
  · rename_i ts e
    split at h
    · rename_i hz
      exact ⟨ts, e, szOk.le hz, (Option.some.inj h).symm⟩
    · cases h
  · cases h
/-- an empty dict in the heap -/
theorem dct0_at (I : Inv X pins σ H s) {a : Addr} (h : H a = some (.dK [])) : ∃ o n, s.heap.get? a = some o ∧ o.cls = .type "dict" ∧ o.data = .dict #[] n ∧ (a == sysModules) = false := by
  obtain ⟨_, h2, vs, kv, o, es, ep, h3, h4, h5, h6, h7⟩ := dk_of I.hok h
  cases kv
  have he : es = #[] := by
    have z := h7.1.length
    simpa using z
  subst he
  exact ⟨o, ep, h3, h4.1, h5, h2⟩
mutual
/-- a value's data is known by it -/
theorem rep_inj (hK : T.K = X.K) (I : Inv X pins σ H s) (sub : Same W.F H) : ∀ (d d' : D) (x : V), reprD d ≠ none → reprD d' ≠ none → Rep T W d x → Rep T W d' x → d = d' := by
  intro d d' x h h' r r'
  cases r with
  | non => cases r'; rfl
  | bl _ => cases r'; rfl
  | int _ => cases r'; rfl
  | str _ => cases r'; rfl
  | ref _ => exact absurd (by simp [reprD]) h
  | cls _ => exact absurd (by simp [reprD]) h
  | lst hx rx => cases r' with
    | lst hy ry =>
      rename_i ds a xs es ys
      obtain ⟨t, e⟩ := Option.ne_none_iff_exists'.mp h
      obtain ⟨t', e'⟩ := Option.ne_none_iff_exists'.mp h'
      obtain ⟨ts, e1, _⟩ := reprD_lst e
      obtain ⟨ts', e1', _⟩ := reprD_lst e'
      have := I.list_inj (hK ▸ sub.seq hx) (hK ▸ sub.seq hy)
      subst this
      rw [reps_inj hK I sub ds es xs (by rw [e1]; exact fun z => nomatch z) (by rw [e1']; exact fun z => nomatch z) rx ry]
    | tup hy ry =>
      obtain ⟨_, _, ⟨o, _, g1, g2, _⟩, _⟩ := I.list (hK ▸ sub.seq hx)
      obtain ⟨_, _, ⟨o2, g3, g4, _⟩, _⟩ := I.tuple (hK ▸ Same.tup sub hy)
      rw [g1] at g3; cases g3
      rw [g2] at g4; simp at g4
    | ref _ => exact absurd (by simp [reprD]) h'
    | cls _ => exact absurd (by simp [reprD]) h'
    | dct0 hy =>
      obtain ⟨_, _, ⟨o, _, g1, g2, _⟩, _⟩ := I.list (hK ▸ sub.seq hx)
      obtain ⟨o2, _, g3, g4, _⟩ := dct0_at I (sub _ _ hy)
      rw [g1] at g3; cases g3
      rw [g2] at g4; simp at g4
  | dct0 hx => cases r' with
    | dct0 hy => rfl
    | lst hy ry =>
      obtain ⟨_, _, ⟨o, _, g1, g2, _⟩, _⟩ := I.list (hK ▸ sub.seq hy)
      obtain ⟨o2, _, g3, g4, _⟩ := dct0_at I (sub _ _ hx)
      rw [g1] at g3; cases g3
      rw [g2] at g4; simp at g4
    | tup hy ry =>
      obtain ⟨_, _, ⟨o, g1, g2, _⟩, _⟩ := I.tuple (hK ▸ Same.tup sub hy)
      obtain ⟨o2, _, g3, g4, _⟩ := dct0_at I (sub _ _ hx)
      rw [g1] at g3; cases g3
      rw [g2] at g4; simp at g4
    | ref _ => exact absurd (by simp [reprD]) h'
    | cls _ => exact absurd (by simp [reprD]) h'
  | tup hx rx => cases r' with
    | tup hy ry =>
      rename_i ds a xs es ys
      obtain ⟨t, e⟩ := Option.ne_none_iff_exists'.mp h
      obtain ⟨t', e'⟩ := Option.ne_none_iff_exists'.mp h'
      obtain ⟨ts, e1, _⟩ := reprD_tup e
      obtain ⟨ts', e1', _⟩ := reprD_tup e'
      have := I.tuple_inj (hK ▸ Same.tup sub hx) (hK ▸ Same.tup sub hy)
      subst this
      rw [reps_inj hK I sub ds es xs (by rw [e1]; exact fun z => nomatch z) (by rw [e1']; exact fun z => nomatch z) rx ry]
    | lst hy ry =>
      obtain ⟨_, _, ⟨o, _, g1, g2, _⟩, _⟩ := I.list (hK ▸ sub.seq hy)
      obtain ⟨_, _, ⟨o2, g3, g4, _⟩, _⟩ := I.tuple (hK ▸ Same.tup sub hx)
      rw [g1] at g3; cases g3
      rw [g2] at g4; simp at g4
    | ref _ => exact absurd (by simp [reprD]) h'
    | cls _ => exact absurd (by simp [reprD]) h'
    | dct0 hy =>
      obtain ⟨_, _, ⟨o, g1, g2, _⟩, _⟩ := I.tuple (hK ▸ Same.tup sub hx)
      obtain ⟨o2, _, g3, g4, _⟩ := dct0_at I (sub _ _ hy)
      rw [g1] at g3; cases g3
      rw [g2] at g4; simp at g4
theorem reps_inj (hK : T.K = X.K) (I : Inv X pins σ H s) (sub : Same W.F H) : ∀ (d d' : List D) (x : List V), reprDs d ≠ none → reprDs d' ≠ none → RepA T W d x → RepA T W d' x → d = d' := by
  intro d d' x h h' r r'
  cases r with
  | nil => cases r'; rfl
  | cons r1 r2 => cases r' with
    | cons r1' r2' =>
      obtain ⟨t, e⟩ := Option.ne_none_iff_exists'.mp h
      obtain ⟨t', e'⟩ := Option.ne_none_iff_exists'.mp h'
      obtain ⟨_, _, a1, a2, _⟩ := reprDs_some e
      obtain ⟨_, _, b1, b2, _⟩ := reprDs_some e'
      rw [rep_inj hK I sub _ _ _ (by rw [a1]; exact fun z => nomatch z) (by rw [b1]; exact fun z => nomatch z) r1 r1',
        reps_inj hK I sub _ _ _ (by rw [a2]; exact fun z => nomatch z) (by rw [b2]; exact fun z => nomatch z) r2 r2']
end
/-- the objects below a value -/
def UnderV (T : Tb) (W : Wd) (n : Nat) (as : List Addr) : Prop := ∀ b ∈ as, ∃ d', reprD d' ≠ none ∧ Rep T W d' (.ref b) ∧ sizeOf d' ≤ n
theorem rak_more {prog : Program} {w : World} {as as' : List Addr} {h₀ : Heap} {d d' : Nat} (hsub : ∀ b ∈ as, b ∈ as') (hd : d ≤ d') : ∀ {l : List Value} {ts : List Str}, ReprAllK prog w as h₀ d l ts → ReprAllK prog w as' h₀ d' l ts
  | _, _, .nil => .nil
  | _, _, .cons h r => .cons ((h.more hsub).level_le hd) (rak_more hsub hd r)
theorem rak_get {prog : Program} {w : World} {as : List Addr} {h₀ : Heap} {d : Nat} : ∀ {l : List Value} {ts : List Str}, ReprAllK prog w as h₀ d l ts → ∀ (i : Nat) (x : Value), l[i]? = some x → ∃ t, ts[i]? = some t ∧ ReprK prog w as h₀ d x t
  | _, _, .nil, i, x, e => by simp at e
  | _, _, .cons h r, 0, x, e => by simp at e; subst e; exact ⟨_, by simp, h⟩
  | _, _, .cons h r, i + 1, x, e => by simpa using rak_get r i x (by simpa using e)
variable {pg : Program} {wd : World}
mutual
theorem repr_at (hK : T.K = X.K) (I : Inv X pins σ H s) (sub : Same W.F H) : ∀ (d : D) (x : V) (u : Value) (t : Str), reprD d = some t → Rep T W d x → RelV x u → ∃ as, UnderV T W (sizeOf d) as ∧ ReprK pg wd as s.heap (depthD d) u t
  | .non, _, _, _, h, r, ru => by
    cases r; cases ru
    rw [reprD] at h; cases h
    exact ⟨[], (fun _ z => nomatch z), ReprK.of_is .none _ _ _⟩
  | .bl b, _, _, _, h, r, ru => by
    cases r; cases ru
    rw [reprD] at h; cases h
    exact ⟨[], (fun _ z => nomatch z), ReprK.of_is (.bool b) _ _ _⟩
  | .int i, _, _, _, h, r, ru => by
    cases r; obtain ⟨tk, rfl⟩ := ru
    rw [reprD] at h
    split at h
    · rename_i hz
      cases h
      exact ⟨[], (fun _ z => nomatch z), ReprK.of_is (.int tk hz) _ _ _⟩
    · cases h
  | .str y, _, _, _, h, r, ru => by
    cases r; obtain ⟨tk, rfl⟩ := ru
    rw [reprD] at h
    split at h
    · rename_i hz
      cases h
      exact ⟨[], (fun _ z => nomatch z), ReprK.of_is (.str y tk (szOk.le hz)) _ _ _⟩
    · cases h
  | .lst ds, _, _, _, h, r, ru => by
    have hne : reprD (.lst ds) ≠ none := by rw [h]; exact fun z => nomatch z
    have r0 := r
    obtain ⟨a, xs, rfl, hx, rx⟩ := rep_lst r
    cases ru
    obtain ⟨ts, e, hz, rfl⟩ := reprD_lst h
    obtain ⟨its, rv, ⟨o, n, g1, g2, _, g3⟩, _⟩ := I.list (hK ▸ sub.seq hx)
    obtain ⟨as, hb, hr⟩ := reprs_at hK I sub ds xs its ts e rx rv
    have hna : a ∉ as := fun ha => by
      obtain ⟨d', e1, e2, e3⟩ := hb a ha
      have := rep_inj hK I sub _ _ _ hne e1 r0 e2
      subst this
      simp at e3
      omega
    refine ⟨a :: as, fun b hm => ?_, ?_⟩
    · rcases List.mem_cons.mp hm with rfl | hm
      · exact ⟨.lst ds, hne, r0, Nat.le_refl _⟩
      · obtain ⟨d', e1, e2, e3⟩ := hb b hm
        exact ⟨d', e1, e2, by simp; omega⟩
    · cases its with
      | nil =>
        cases rv
        cases rx
        rw [reprDs] at e; cases e
        exact ReprK.listEmpty g1 g2 g3
      | cons v l =>
        rw [depthD]
        exact ReprK.list g1 g2 g3 hna (by rw [List.size_toArray]; exact hr.length_eq) fun i y hy => rak_get hr i y (by simpa using hy)
  | .tup ds, _, _, _, h, r, ru => by
    have hne : reprD (.tup ds) ≠ none := by rw [h]; exact fun z => nomatch z
    have r0 := r
    obtain ⟨a, xs, rfl, hx, rx⟩ := rep_tup r
    cases ru
    obtain ⟨ts, e, hz, rfl⟩ := reprD_tup h
    obtain ⟨its, rv, ⟨o, g1, g2, n, g3⟩, _⟩ := I.tuple (hK ▸ Same.tup sub hx)
    obtain ⟨as, hb, hr⟩ := reprs_at hK I sub ds xs its ts e rx rv
    have hna : a ∉ as := fun ha => by
      obtain ⟨d', e1, e2, e3⟩ := hb a ha
      have := rep_inj hK I sub _ _ _ hne e1 r0 e2
      subst this
      simp at e3
      omega
    refine ⟨a :: as, fun b hm => ?_, ?_⟩
    · rcases List.mem_cons.mp hm with rfl | hm
      · exact ⟨.tup ds, hne, r0, Nat.le_refl _⟩
      · obtain ⟨d', e1, e2, e3⟩ := hb b hm
        exact ⟨d', e1, e2, by simp; omega⟩
    · rw [depthD]
      exact ReprK.tuple g1 g2 g3 hna (by simpa using hr)
  | .dct [] [], _, _, _, h, r, ru => by
    have r0 := r
    cases r with
    | dct0 hx =>
      cases ru
      rw [reprD] at h
      cases h
      obtain ⟨o, n, g1, g2, g3, g4⟩ := dct0_at I (sub _ _ hx)
      exact ⟨[_], (fun b hb => by rw [List.mem_singleton.mp hb]; exact ⟨_, by simp [reprD], r0, Nat.le_refl _⟩), ReprK.dict g1 g2 g3 g4 (by simp) .nil⟩
  | .dct (_ :: _) _, _, _, _, h, _, _ => by simp [reprD] at h
  | .dct [] (_ :: _), _, _, _, h, _, _ => by simp [reprD] at h
  | .obj _ _, _, _, _, h, _, _ => by simp [reprD] at h
  | .cls _, _, _, _, h, _, _ => by simp [reprD] at h
  | .ref _, _, _, _, h, _, _ => by simp [reprD] at h
theorem reprs_at (hK : T.K = X.K) (I : Inv X pins σ H s) (sub : Same W.F H) : ∀ (ds : List D) (xs : List V) (us : List Value) (ts : List Str), reprDs ds = some ts → RepA T W ds xs → Vals xs us → ∃ as, UnderV T W (sizeOf ds) as ∧ ReprAllK pg wd as s.heap (depthDs ds) us ts
  | [], _, _, _, h, r, ru => by
    cases r; cases ru
    rw [reprDs] at h; cases h
    exact ⟨[], (fun _ z => nomatch z), .nil⟩
  | d :: ds, _, _, _, h, r, ru => by
    obtain ⟨t, tr, e1, e2, rfl⟩ := reprDs_some h
    cases r with
    | cons r1 r2 => cases ru with
      | cons q1 q2 =>
        obtain ⟨as, b1, k1⟩ := repr_at hK I sub d _ _ t e1 r1 q1
        obtain ⟨bs, b2, k2⟩ := reprs_at hK I sub ds _ _ tr e2 r2 q2
        refine ⟨as ++ bs, fun b hm => ?_, ?_⟩
        · rcases List.mem_append.mp hm with hm | hm
          · obtain ⟨d', f1, f2, f3⟩ := b1 b hm
            exact ⟨d', f1, f2, by simp; omega⟩
          · obtain ⟨d', f1, f2, f3⟩ := b2 b hm
            exact ⟨d', f1, f2, by simp; omega⟩
        · rw [depthDs]
          exact .cons ((k1.more fun b hb => List.mem_append_left _ hb).level_le (Nat.le_max_left _ _)) (rak_more (fun b hb => List.mem_append_right _ hb) (Nat.le_max_right _ _) k2)
end
/-- how an object shows itself, whatever runs -/
structure ShowsD (pg : Program) (wd : World) (h₀ : Heap) (a : Addr) (t : Str) (Ty idr : String) : Prop where
  slotRepr : SlotG Ty "__repr__" idr
  slotStr : Slot Ty "__str__" "object.__str__"
  typeIs : ∀ s : Shared, (∀ b o, h₀.get? b = some o → s.heap.get? b = some o) → s.TypeIs (.ref a) Ty
  call : ∀ (A : Around) (E : Value → Shared → Prop) (s : Shared) (Q : Value → Shared → Prop), A.guards = some [] → A.units + 61 < cLine → (∀ b o, h₀.get? b = some o → s.heap.get? b = some o) →
    (∀ h' u tk, (∀ b o, s.heap.get? b = some o → h'.get? b = some o) → Q (.str t u) { s with heap := h', toks := tk }) → wpAny (model pg wd) A (call (.builtin idr) [.ref a]) Q E s
theorem shows_ref (hK : T.K = X.K) (I : Inv X pins σ H s) (sub : Same W.F H) {d : D} {a : Addr} {t : Str} (e : reprD d = some t) (hd : depthD d ≤ 60) (r : Rep T W d (.ref a)) : ∃ Ty idr, ShowsD pg wd s.heap a t Ty idr := by
  have hne : reprD d ≠ none := by rw [e]; exact fun z => nomatch z
  have r0 := r
  cases d with
  | lst ds =>
    obtain ⟨b, xs, eb, hx, rx⟩ := rep_lst r
    cases eb
    obtain ⟨ts, e1, hz, rfl⟩ := reprD_lst e
    obtain ⟨its, rv, ⟨o, n, g1, g2, _, g3⟩, _⟩ := I.list (hK ▸ sub.seq hx)
    obtain ⟨as, hb, hr⟩ := reprs_at (pg := pg) (wd := wd) hK I sub ds xs its ts e1 rx rv
    have hna : a ∉ as := fun ha => by
      obtain ⟨d', f1, f2, f3⟩ := hb a ha
      have := rep_inj hK I sub _ _ _ hne f1 r0 f2
      subst this
      simp at f3
      omega
    have hd' : depthDs ds + 1 ≤ 60 := by rw [depthD] at hd; exact hd
    refine ⟨"list", "list.__repr__", ⟨PySem.F.slot_list_repr.toG, PySem.F.slot_list_str, fun s' k => ⟨o, k _ _ g1, g2⟩, fun A E s' Q hg hu k q => ?_⟩⟩
    cases its with
    | nil =>
      cases rv
      cases rx
      rw [reprDs] at e1; cases e1
      exact call_list_repr_empty ⟨o, k _ _ g1, g2⟩ (k _ _ g1) g3 (q s'.heap _ _ fun _ _ z => z)
    | cons v l => exact call_list_reprK g1 g2 g3 hna (by rw [List.size_toArray]; exact hr.length_eq) (fun i y hy => rak_get hr i y (by simpa using hy)) (g := []) hg (fun b _ => Clear.nil b) (by omega) k q hz
  | tup ds =>
    obtain ⟨b, xs, eb, hx, rx⟩ := rep_tup r
    cases eb
    obtain ⟨ts, e1, hz, rfl⟩ := reprD_tup e
    obtain ⟨its, rv, ⟨o, g1, g2, n, g3⟩, _⟩ := I.tuple (hK ▸ Same.tup sub hx)
    obtain ⟨as, hb, hr⟩ := reprs_at (pg := pg) (wd := wd) hK I sub ds xs its ts e1 rx rv
    have hna : a ∉ as := fun ha => by
      obtain ⟨d', f1, f2, f3⟩ := hb a ha
      have := rep_inj hK I sub _ _ _ hne f1 r0 f2
      subst this
      simp at f3
      omega
    have hd' : depthDs ds + 1 ≤ 60 := by rw [depthD] at hd; exact hd
    refine ⟨"tuple", "tuple.__repr__", ⟨PySem.F.slot_tuple_repr, PySem.F.slot_tuple_str, fun s' k => ⟨o, k _ _ g1, g2⟩, fun A E s' Q hg hu k q => ?_⟩⟩
    exact call_tuple_reprK g1 g2 g3 hna (by simpa using hr) (g := []) hg (fun b _ => Clear.nil b) (by omega) k q hz
  | dct ks vs => cases r with
    | dct0 hx =>
      rw [reprD] at e
      cases e
      obtain ⟨o, n, g1, g2, g3, g4⟩ := dct0_at I (sub _ _ hx)
      refine ⟨"dict", "dict.__repr__", ⟨PySem.F.slot_dict_repr, PySem.F.slot_dict_str, fun s' k => ⟨o, k _ _ g1, g2⟩, fun A E s' Q hg hu k q => ?_⟩⟩
      exact call_dict_reprK (as := []) (d := 0) g1 g2 g3 g4 (by simp) .nil (g := []) hg (fun b _ => Clear.nil b) (by omega) k q (by decide)
  | non => cases r
  | bl _ => cases r
  | int _ => cases r
  | str _ => cases r
  | obj _ _ => cases r
  | cls _ => exact absurd (by simp [reprD]) hne
  | ref _ => exact absurd (by simp [reprD]) hne
end
end Ip
set_option Elab.async false
set_option linter.all false
set_option maxRecDepth 100000
set_option maxHeartbeats 4000000
/-! Built-in functions by values. -/
namespace Ip
open PySem PySem.Spec PyProof.Rows L2

theorem intsOf_map : ∀ {ds : List D} {ns : List Int}, intsOf ds = some ns → ds = ns.map D.int
  | [], _, h => by rw [intsOf] at h; cases h; rfl
  | .int i :: r, ns, h => by
    rw [intsOf] at h
    obtain ⟨m, e1, e2⟩ := Option.map_eq_some_iff.mp h
    subst e2
    rw [intsOf_map e1]; rfl
  | .non :: _, _, h => by simp [intsOf] at h
  | .bl _ :: _, _, h => by simp [intsOf] at h
  | .str _ :: _, _, h => by simp [intsOf] at h
  | .tup _ :: _, _, h => by simp [intsOf] at h
  | .lst _ :: _, _, h => by simp [intsOf] at h
  | .dct _ _ :: _, _, h => by simp [intsOf] at h
  | .obj _ _ :: _, _, h => by simp [intsOf] at h
  | .cls _ :: _, _, h => by simp [intsOf] at h
  | .ref _ :: _, _, h => by simp [intsOf] at h
theorem blsOf_map : ∀ {ds : List D} {ns : List Bool}, blsOf ds = some ns → ds = ns.map D.bl
  | [], _, h => by rw [blsOf] at h; cases h; rfl
  | .bl i :: r, ns, h => by
    rw [blsOf] at h
    obtain ⟨m, e1, e2⟩ := Option.map_eq_some_iff.mp h
    subst e2
    rw [blsOf_map e1]; rfl
  | .non :: _, _, h => by simp [blsOf] at h
  | .int _ :: _, _, h => by simp [blsOf] at h
  | .str _ :: _, _, h => by simp [blsOf] at h
  | .tup _ :: _, _, h => by simp [blsOf] at h
  | .lst _ :: _, _, h => by simp [blsOf] at h
  | .dct _ _ :: _, _, h => by simp [blsOf] at h
  | .obj _ _ :: _, _, h => by simp [blsOf] at h
  | .cls _ :: _, _, h => by simp [blsOf] at h
  | .ref _ :: _, _, h => by simp [blsOf] at h
section
variable {T : Tb} {W : Wd}
theorem rep_ints : ∀ {ns : List Int} {xs : List V}, RepA T W (ns.map D.int) xs → xs = ns.map V.int
  | [], _, .nil => rfl
  | n :: r, _, .cons h t => by rw [rep_int h, rep_ints t]; rfl
theorem rep_bls : ∀ {ns : List Bool} {xs : List V}, RepA T W (ns.map D.bl) xs → xs = ns.map V.bl
  | [], _, .nil => rfl
  | n :: r, _, .cons h t => by rw [rep_bl h, rep_bls t]; rfl
theorem repA1 {d : D} {xs : List V} (r : RepA T W [d] xs) : ∃ x, xs = [x] ∧ Rep T W d x := by
  cases r with | cons h t => cases t; exact ⟨_, rfl, h⟩
theorem repA2 {d e : D} {xs : List V} (r : RepA T W [d, e] xs) : ∃ x y, xs = [x, y] ∧ Rep T W d x ∧ Rep T W e y := by
  cases r with | cons h t => cases t with | cons h2 t2 => cases t2; exact ⟨_, _, rfl, h, h2⟩
end
/-- the value that a built-in's name means -/
def Blt.val : Blt → Value
  | .abs => .builtin "abs" | .int => .type "int" | .len => .builtin "len" | .max => .builtin "max" | .min => .builtin "min" | .str => .type "str" | .repr => .builtin "repr" | .sum => .builtin "sum"
  | .tuple => .type "tuple" | .all => .builtin "all" | .any => .builtin "any" | .gcd => .builtin "math.gcd" | .bool => .type "bool"
def rBl (T : Tb) (b : Blt) : List V → Hp → VK → Prop := fun xs H Q => ∃ W st ds, Sim T W st H ∧ RepA T W ds xs ∧ ∃ d, bltD b st ds = some d ∧ ∀ v W' H', W.le W' → Sim T W' st H' → Rep T W' d v → Q v H'

section
variable {X : Cx} {T : Tb}
theorem call_reprD (hK : T.K = X.K) (hg : X.A.guards = some []) (hu : X.A.units + 80 < cLine) {d : D} {t : Str} (e : reprD d = some t) (hd : depthD d ≤ 60) {W : Wd} {pins : List (Addr × Obj)} {σ : L2.St} {H : Hp} {s : Shared} {x : V} {u : Value} {Q : VK}
    (I : Inv X pins σ H s) (sub : Same W.F H) (r : Rep T W d x) (ru : RelV x u) (q : Q (.str t) H) : wpAny (model X.prog X.w) X.A (call (.builtin "repr") [u]) (EP X pins σ Q) X.xe s := by
  have fin : ∀ {h' : Heap} {tk tk2 : Tok}, (∀ b o, s.heap.get? b = some o → h'.get? b = some o) → EP X pins σ Q (.str t tk2) { s with heap := h', toks := tk } := fun {h' tk tk2} k =>
    ⟨.str t, H, I.kept (h' := h') (t' := tk) k, ⟨_, rfl⟩, q⟩
  have clr : ∀ {as : List Addr}, ∀ b ∈ as, Clear [] b := fun b _ => Clear.nil b
  cases d with
  | non => cases r; cases ru; rw [reprD] at e; cases e; exact PySem.P.repr_of_none (fin fun _ _ k => k)
  | bl b =>
    cases r; cases ru; rw [reprD] at e
    have e' := Option.some.inj e
    subst e'
    exact PySem.P.repr_of_bool (fin fun _ _ k => k)
  | int i =>
    cases r; obtain ⟨tk, rfl⟩ := ru; rw [reprD] at e
    split at e
    · rename_i hz; cases e; exact PySem.P.repr_of_int hz (fin fun _ _ k => k)
    · cases e
  | str y =>
    cases r; obtain ⟨tk, rfl⟩ := ru; rw [reprD] at e
    split at e
    · rename_i hz; cases e; exact PySem.P.repr_of_str (fin fun _ _ k => k) (szOk.le hz)
    · cases e
  | lst ds =>
    have hne : reprD (.lst ds) ≠ none := by rw [e]; exact fun z => nomatch z
    have r0 := r
    obtain ⟨a, xs, rfl, hx, rx⟩ := rep_lst r
    cases ru
    obtain ⟨ts, e1, hz, rfl⟩ := reprD_lst e
    obtain ⟨its, rv, ⟨o, n, g1, g2, _, g3⟩, _⟩ := I.list (hK ▸ sub.seq hx)
    obtain ⟨as, hb, hr⟩ := reprs_at hK I sub ds xs its ts e1 rx rv
    have hna : a ∉ as := fun ha => by
      obtain ⟨d', f1, f2, f3⟩ := hb a ha
      have := rep_inj hK I sub _ _ _ hne f1 r0 f2
      subst this
      simp at f3
      omega
    have hd' : depthDs ds + 1 ≤ 60 := by rw [depthD] at hd; exact hd
    refine call_repr_slot (by omega) ⟨o, g1, g2⟩ PySem.F.slot_list_repr.toG ?_
    cases its with
    | nil =>
      cases rv
      cases rx
      rw [reprDs] at e1; cases e1
      exact call_list_repr_empty ⟨o, g1, g2⟩ g1 g3 ⟨_, _, rfl, fin fun _ _ k => k⟩
    | cons v l =>
      exact call_list_reprK g1 g2 g3 hna (by rw [List.size_toArray]; exact hr.length_eq) (fun i y hy => rak_get hr i y (by simpa using hy)) (A := X.A.in1) (g := []) hg clr (by show X.A.units + 1 + _ < cLine; omega) (fun _ _ k => k) (fun h' u tk k => ⟨_, _, rfl, fin k⟩) hz
  | tup ds =>
    have hne : reprD (.tup ds) ≠ none := by rw [e]; exact fun z => nomatch z
    have r0 := r
    obtain ⟨a, xs, rfl, hx, rx⟩ := rep_tup r
    cases ru
    obtain ⟨ts, e1, hz, rfl⟩ := reprD_tup e
    obtain ⟨its, rv, ⟨o, g1, g2, n, g3⟩, _⟩ := I.tuple (hK ▸ Same.tup sub hx)
    obtain ⟨as, hb, hr⟩ := reprs_at hK I sub ds xs its ts e1 rx rv
    have hna : a ∉ as := fun ha => by
      obtain ⟨d', f1, f2, f3⟩ := hb a ha
      have := rep_inj hK I sub _ _ _ hne f1 r0 f2
      subst this
      simp at f3
      omega
    have hd' : depthDs ds + 1 ≤ 60 := by rw [depthD] at hd; exact hd
    refine call_repr_slot (by omega) ⟨o, g1, g2⟩ PySem.F.slot_tuple_repr ?_
    exact call_tuple_reprK g1 g2 g3 hna (by simpa using hr) (A := X.A.in1) (g := []) hg clr (by show X.A.units + 1 + _ < cLine; omega) (fun _ _ k => k) (fun h' u tk k => ⟨_, _, rfl, fin k⟩) hz
  | dct ks vs => cases r with
    | dct0 hx =>
      cases ru
      rw [reprD] at e
      cases e
      obtain ⟨o, n, g1, g2, g3, g4⟩ := dct0_at I (sub _ _ hx)
      refine call_repr_slot (by omega) ⟨o, g1, g2⟩ PySem.F.slot_dict_repr ?_
      exact call_dict_reprK (as := []) (d := 0) g1 g2 g3 g4 (by simp) .nil (A := X.A.in1) (g := []) hg (fun b _ => clr (as := [b]) b (by simp)) (by show X.A.units + 1 + _ < cLine; omega) (fun _ _ k => k) (fun h' u tk k => ⟨_, _, rfl, fin k⟩) (by decide)
  | obj _ _ => simp [reprD] at e
  | cls _ => simp [reprD] at e
  | ref _ => simp [reprD] at e

/-- str(x), whatever runs -/
theorem str_any {pg : Program} {wd : World} {A : Around} {E : Value → Shared → Prop} {s' : Shared} {Q : Value → Shared → Prop} (hK : T.K = X.K) {W : Wd} {pins : List (Addr × Obj)} {σ : L2.St} {H : Hp} {s : Shared} {d : D} {x : V} {u : Value} {t : Str}
    (I : Inv X pins σ H s) (sub : Same W.F H) (e : strD d = some t) (hd : depthD d ≤ 60) (r : Rep T W d x) (ru : RelV x u) (hg : A.guards = some []) (hu : A.units + 70 < cLine) (k : ∀ b o, s.heap.get? b = some o → s'.heap.get? b = some o)
    (q : ∀ h' tk tk2, (∀ b o, s'.heap.get? b = some o → h'.get? b = some o) → Q (.str t tk2) { s' with heap := h', toks := tk }) : wpAny (model pg wd) A (call (.type "str") [u]) Q E s' := by
  have byRef : ∀ {a : Addr}, reprD d = some t → Rep T W d (.ref a) → wpAny (model pg wd) A (call (.type "str") [.ref a]) Q E s' := fun {a} e r => by
    refine callType_new PySem.F.called_str (by decide) (PySem.F.typeCall_str_1 _) (PySem.F.newCall_str_1 _) (fun obj => PySem.F.args_object_init_2 obj _) PySem.F.entry_str_new
      (meets_str_new (S := fun A' R s1 => A'.guards = some [] ∧ A'.units + 65 < cLine ∧ (∀ b o, s.heap.get? b = some o → s1.heap.get? b = some o) ∧ ∀ h' u tk, (∀ b o, s1.heap.get? b = some o → h'.get? b = some o) → R (.ok (.ret (.str t u))) { s1 with heap := h', toks := tk })
        fun pg' wd' A' R s1 h => ?_) ⟨hg, (by show A.units + 1 + 65 < cLine; omega), k, fun h' u tk hk => ⟨typeIs_str _ _ _, q h' tk u hk⟩⟩
    obtain ⟨h1, h2, h3, h4⟩ := h
    obtain ⟨Ty, idr, S⟩ := shows_ref (pg := pg') (wd := wd') hK I sub e hd r
    exact wpAny_strOf_slot rfl (by show A'.units + 1 + 1 < cLine; omega) (S.typeIs s1 h3) S.slotStr S.slotRepr (S.call A'.in1.in1 _ s1 _ h1 (by show A'.units + 1 + 1 + 61 < cLine; omega) h3 fun h' u tk hk => ⟨_, _, rfl, h4 h' u tk hk⟩)
  cases d with
  | non => cases r; cases ru; replace e : reprD .non = some t := e; rw [reprD] at e; cases e; exact PySem.P.str_of_none (q _ _ _ fun _ _ z => z)
  | bl b =>
    cases r; cases ru
    replace e : reprD (.bl b) = some t := e
    rw [reprD] at e
    have e' := Option.some.inj e
    subst e'
    exact PySem.P.str_of_bool (q _ _ _ fun _ _ z => z)
  | int i =>
    cases r; obtain ⟨tk, rfl⟩ := ru
    replace e : reprD (.int i) = some t := e
    rw [reprD] at e
    split at e
    · rename_i hz; cases e; exact PySem.P.str_of_int hz (q _ _ _ fun _ _ z => z)
    · cases e
  | str y =>
    cases r; obtain ⟨tk, rfl⟩ := ru
    cases e
    exact PySem.P.str_of_str (q s'.heap s'.toks tk fun _ _ z => z)
  | lst ds => obtain ⟨a, xs, rfl, _, _⟩ := rep_lst r; cases ru; exact byRef e r
  | tup ds => obtain ⟨a, xs, rfl, _, _⟩ := rep_tup r; cases ru; exact byRef e r
  | dct ks vs => cases r with
    | dct0 hx => cases ru; exact byRef e (.dct0 hx)
  | obj _ _ => simp [strD, reprD] at e
  | cls _ => simp [strD, reprD] at e
  | ref _ => simp [strD, reprD] at e
/-- a tuple is itself -/
theorem tup_same (hK : T.K = X.K) {W : Wd} {st : Store} {pins : List (Addr × Obj)} {σ : L2.St} {H : Hp} {s : Shared} (I : Inv X pins σ H s) (sim : Sim T W st H) {d : D} {a : Addr} {ys : List D} {zs : List V} (r : Rep T W d (.ref a)) (e : seqOf st d = some ys) (hs : SqT T.K H a zs) (r2 : RepA T W ys zs) : Rep T W (.tup ys) (.ref a) := by
  have no : ∀ {xs : List V}, SqL T.K H a xs → False := fun {xs} h => by
    obtain ⟨_, _, ⟨o, _, g1, g2, _⟩, _⟩ := I.list (hK ▸ h)
    obtain ⟨_, _, ⟨o2, g3, g4, _⟩, _⟩ := I.tuple (hK ▸ hs)
    rw [g1] at g3; cases g3
    rw [g2] at g4; simp at g4
  unfold seqOf at e
  split at e
  · obtain ⟨b, xs, e1, h, _⟩ := rep_lst r
    cases e1
    exact (no (sim.sub.seq h)).elim
  · cases e
    exact r
  · split at e
    · obtain ⟨p, e1, hp⟩ := rep_ref r
      rename_i hn
      obtain ⟨xs, hx, _⟩ := sim.cell _ _ p hn hp
      cases e1
      exact (no (SqL.of hx)).elim
    · cases e
  · cases e
theorem call_blt (hK : T.K = X.K) (hc : X.calm = true) (hg : X.A.guards = some []) (hu : X.A.units + 80 < cLine) (b : Blt) : CallR X b.val (rBl T b) := by
  intro pins s σ H xs us Q I rx h
  obtain ⟨W, st, ds, sim, ra, d, e, q⟩ := h
  have fin : ∀ {d' : D} {v' : V}, d = d' → Rep T W d' v' → Q v' H := fun e1 r => by subst e1; exact q _ W H (.refl _) sim r
  unfold bltD at e
  split at e
  all_goals try (cases e; done)
  · obtain ⟨x, rfl, r⟩ := repA1 ra
    cases rep_int r
    exact call_abs pins s σ H _ us Q I rx ⟨_, rfl, fin (Option.some.inj e).symm (.int _)⟩
  · obtain ⟨x, rfl, r⟩ := repA1 ra
    cases rep_int r
    exact call_int1 pins s σ H _ us Q I rx (.inl ⟨_, rfl, fin (Option.some.inj e).symm (.int _)⟩)
  · obtain ⟨x, rfl, r⟩ := repA1 ra
    cases rep_bl r
    exact call_int1 pins s σ H _ us Q I rx (.inr ⟨_, rfl, fin (Option.some.inj e).symm (.int _)⟩)
  · obtain ⟨x, rfl, r⟩ := repA1 ra
    cases rep_int r
    exact call_bool1 pins s σ H _ us Q I rx (.inl ⟨_, rfl, fin (Option.some.inj e).symm (.bl _)⟩)
  · obtain ⟨x, rfl, r⟩ := repA1 ra
    cases rep_bl r
    exact call_bool1 pins s σ H _ us Q I rx (.inr ⟨_, rfl, fin (Option.some.inj e).symm (.bl _)⟩)
  · obtain ⟨x, rfl, r⟩ := repA1 ra
    obtain ⟨n, e1, e2⟩ := Option.map_eq_some_iff.mp e
    refine call_len pins s σ H _ us Q I rx ⟨_, n, rfl, ?_, fin e2.symm (.int _)⟩
    unfold lenD at e1
    split at e1
    · cases rep_str r
      split at e1
      · rename_i hz; exact ⟨szOk.le hz, (Option.some.inj e1).symm⟩
      · cases e1
    · obtain ⟨ys, e3, e4⟩ := Option.map_eq_some_iff.mp e1
      obtain ⟨a, zs, rfl, hs, r2⟩ := seqOf_rep sim r e3
      rcases hs with hs | hs
      · exact .inl ⟨zs, hK ▸ hs, by rw [← e4, r2.length]⟩
      · exact .inr ⟨zs, hK ▸ hs, by rw [← e4, r2.length]⟩
  · obtain ⟨x, y, rfl, r1, r2⟩ := repA2 ra
    cases rep_int r1; cases rep_int r2
    exact call_max2 hc pins s σ H _ us Q I rx ⟨_, _, rfl, fin (Option.some.inj e).symm (.int _)⟩
  · obtain ⟨x, y, rfl, r1, r2⟩ := repA2 ra
    cases rep_int r1; cases rep_int r2
    exact call_min2 hc pins s σ H _ us Q I rx ⟨_, _, rfl, fin (Option.some.inj e).symm (.int _)⟩
  · obtain ⟨x, y, rfl, r1, r2⟩ := repA2 ra
    cases rep_int r1; cases rep_int r2
    exact cr_gcd pins s σ H _ us Q I rx ⟨_, _, rfl, fin (Option.some.inj e).symm (.int _)⟩
  · obtain ⟨x, rfl, r⟩ := repA1 ra
    split at e
    · rename_i hd
      obtain ⟨t, e1, e2⟩ := Option.map_eq_some_iff.mp e
      obtain ⟨u, rfl, ru⟩ := vals1 rx
      exact str_any hK I sim.sub e1 hd r ru hg (by omega) (fun _ _ z => z) fun h' tk tk2 k => ⟨.str t, H, I.kept (h' := h') (t' := tk) k, ⟨_, rfl⟩, fin e2.symm (.str _)⟩
    · cases e
  · obtain ⟨x, rfl, r⟩ := repA1 ra
    split at e
    · rename_i hd
      obtain ⟨t, e1, e2⟩ := Option.map_eq_some_iff.mp e
      obtain ⟨u, rfl, ru⟩ := vals1 rx
      exact call_reprD hK hg hu e1 hd I sim.sub r ru (fin e2.symm (.str _))
    · cases e
  · obtain ⟨x, rfl, r⟩ := repA1 ra
    obtain ⟨a, zs, rfl, hs, r2⟩ := rep_lst r
    obtain ⟨ns, e1, e2⟩ := Option.map_eq_some_iff.mp e
    have e3 := intsOf_map e1
    subst e3
    have e4 := rep_ints r2
    subst e4
    exact cr_sum hc pins s σ H _ us Q I rx ⟨a, ns, rfl, hK ▸ sim.sub.seq hs, fin e2.symm (.int _)⟩
  · obtain ⟨x, rfl, r⟩ := repA1 ra
    obtain ⟨a, zs, rfl, hs, r2⟩ := rep_lst r
    obtain ⟨ns, e1, e2⟩ := Option.map_eq_some_iff.mp e
    have e3 := blsOf_map e1
    subst e3
    have e4 := rep_bls r2
    subst e4
    exact cr_all hc pins s σ H _ us Q I rx ⟨a, ns, rfl, hK ▸ sim.sub.seq hs, fin e2.symm (.bl _)⟩
  · obtain ⟨x, rfl, r⟩ := repA1 ra
    obtain ⟨a, zs, rfl, hs, r2⟩ := rep_lst r
    obtain ⟨ns, e1, e2⟩ := Option.map_eq_some_iff.mp e
    have e3 := blsOf_map e1
    subst e3
    have e4 := rep_bls r2
    subst e4
    exact cr_any hc pins s σ H _ us Q I rx ⟨a, ns, rfl, hK ▸ sim.sub.seq hs, fin e2.symm (.bl _)⟩
  · obtain ⟨x, rfl, r⟩ := repA1 ra
    obtain ⟨ys, e1, e2⟩ := Option.map_eq_some_iff.mp e
    obtain ⟨a, zs, e3, hs, r2⟩ := seqOf_rep sim r e1
    subst e3
    refine call_tuple_of pins s σ H _ us Q I rx ⟨a, zs, rfl, ?_⟩
    rcases hs with hs | hs
    · refine .inl ⟨hK ▸ hs, fun p hp => ?_⟩
      obtain ⟨W', le, s', r'⟩ := sim.newT hp r2
      exact q _ W' _ le s' (e2 ▸ r')
    · refine .inr ⟨hK ▸ hs, ?_⟩
      exact fin e2.symm (tup_same hK I sim r e1 hs r2)
end
end Ip
set_option Elab.async false
set_option linter.all false
set_option maxRecDepth 100000
set_option maxHeartbeats 4000000
/-! Terms against the text: the check, and what the machine does where the interpreter gives an outcome. -/
namespace Ip
open PySem PySem.Spec PyProof.Rows L2

/-! ### what of the text is fixed -/
structure Cfg where
  N : List Str
  sc : Scope
  wr : Scope
  fn : Nat → Str
  gl : Nat → Str
  bk : Blt → Bool
  tk : Ty → Bool
  ik : Bool
  rk : Bool
  xn : Nat → Str := fun _ => ""
  hn : Nat → Str := fun _ => ""
  hf : Nat → Str := fun _ => ""

def visB (sc : Scope) (x : Str) : Bool := match sc.names.lookup x with
  | some .local => true
  | some .cell => true
  | some .free => true
  | _ => false
theorem visB.vis {sc : Scope} {x : Str} (h : visB sc x = true) : Vis sc x := by
  unfold visB at h
  split at h
  · exact .inl (by assumption)
  · exact .inr (.inl (by assumption))
  · exact .inr (.inr (by assumption))
  · cases h
def locB (sc : Scope) (x : Str) : Bool := match sc.names.lookup x with
  | some .local => true
  | some .cell => true
  | _ => false
theorem locB.loc {sc : Scope} {x : Str} (h : locB sc x = true) : Loc sc x := by
  unfold locB at h
  split at h
  · exact .inl (by assumption)
  · exact .inr (by assumption)
  · cases h
def glB (sc : Scope) (x : Str) : Bool := decide (sc.names.lookup x = some .globalImplicit)
def nmOk (x : Str) : Bool := !(x == ("__debug__" : Str)) && !(x == ("__classdict__" : Str))
theorem nmOk.l {x : Str} (h : nmOk x = true) : (x == ("__debug__" : Str)) = false := by
  unfold nmOk at h; simp only [Bool.and_eq_true, Bool.not_eq_true'] at h; exact h.1
theorem nmOk.r {x : Str} (h : nmOk x = true) : (x == ("__classdict__" : Str)) = false := by
  unfold nmOk at h; simp only [Bool.and_eq_true, Bool.not_eq_true'] at h; exact h.2
def noStar : Expr → Bool
  | .Starred _ _ => false
  | _ => true
def noSlice : Expr → Bool
  | .Slice _ _ _ _ => false
  | _ => true
def stripB : Expr → Expr
  | .BoolOp _ [x] _ => x
  | e => e
def Blt.nm : Blt → Str
  | .abs => "abs" | .int => "int" | .len => "len" | .max => "max" | .min => "min" | .str => "str" | .repr => "repr" | .sum => "sum" | .tuple => "tuple" | .all => "all" | .any => "any" | .gcd => "gcd" | .bool => "bool"
def Ty.nm : Ty → Str
  | .int => "int" | .bool => "bool" | .str => "str" | .tuple => "tuple" | .list => "list" | .dict => "dict"
def Ty.id : Ty → String
  | .int => "int" | .bool => "bool" | .str => "str" | .tuple => "tuple" | .list => "list" | .dict => "dict"
def Mth.nm : Mth → Str
  | .append => "append" | .popAt => "pop" | .pop => "pop"
def conB : D → Const → Bool
  | .non, .none => true
  | .bl a, .bool b => a == b
  | .int i, .int j => i == j
  | .str x, .str y => decide (x = y)
  | _, _ => false
/-- a target: its names may be stored, and are (where told) among the block's own -/
def chkN (c : Cfg) (own : Option (List Nat)) (i : Nat) (x : Str) : Bool := decide (c.N[i]? = some x) && locB c.wr x && (match own with | none => true | some l => l.contains i)
def chkTs (c : Cfg) (own : Option (List Nat)) : List Nat → List Expr → Bool
  | [], [] => true
  | i :: is, .Name x _ :: es => chkN c own i x && chkTs c own is es
  | _, _ => false
def chkT (c : Cfg) (own : Option (List Nat)) : IT → Expr → Bool
  | .nm i, .Name x _ => chkN c own i x
  | .tp is, .Tuple es _ _ => chkTs c own is es
  | _, _ => false

def notCall : Expr → Bool
  | .Call _ _ _ _ => false
  | _ => true
def notSet : Expr → Bool
  | .Set _ _ _ => false
  | _ => true
def plainT : Expr → Bool
  | .UnaryOp .Not _ _ => false
  | .BoolOp _ _ _ => false
  | .IfExp _ _ _ _ => false
  | .Compare _ _ _ _ => false
  | _ => true
def ownOf (N : List Str) (own : List Nat) : List (Str × Nat) := own.map fun i => (N.getD i "", i)
def Cfg.blk (c : Cfg) (scope : Scope) : Cfg := { c with sc := relS scope c.sc, wr := scope }
def isNo : IE → Bool
  | .no => true
  | _ => false
def isYes : IE → Bool
  | .con (.bl true) => true
  | _ => false
mutual
def chkE (c : Cfg) : IE → Expr → Bool
  | .var i, .Name x _ => decide (c.N[i]? = some x) && visB c.sc x && nmOk x
  | .con d, .Constant k _ _ => conB d k
  | .glob i _, .Name x _ => decide (c.gl i = x) && glB c.sc x && nmOk x
  | .bin o a b, .BinOp x op y _ => decide (o.op = op) && chkE c a x && chkE c b y
  | .un .neg a, .UnaryOp .USub x _ => chkE c a x
  | .cmp o a b, .Compare x [op] [y] _ => decide (o.op = op) && chkE c a x && chkE c b y && !behindInMarks op y
  | .chain o1 o2 a b d, .Compare x [p1, p2] [y, z] _ => decide (o1.op = p1) && decide (o2.op = p2) && chkE c a x && chkE c b y && chkE c d z && !lastMarks [p1, p2] [y, z]
  | .and a b, .BoolOp .And (x :: y :: r) p => chkE c a x && chkE c b (stripB (.BoolOp .And (y :: r) p))
  | .or a b, .BoolOp .Or (x :: y :: r) p => chkE c a x && chkE c b (stripB (.BoolOp .Or (y :: r) p))
  | .not a, .UnaryOp .Not x _ => chkE c a x
  | .ife t a b, .IfExp u x y _ => chkE c t u && chkE c a x && chkE c b y
  | .tup es, .Tuple xs _ _ => chkEs c es xs
  | .lst _ es, .List xs _ => chkEs c es xs
  | .dct0, .Dict [] [] _ => true
  | .sub a b, .Subscript x y _ => chkE c a x && chkE c b y && noSlice y
  | .slice a lo hi, .Subscript x (.Slice l h none _) _ => chkE c a x && (match l with
      | none => isNo lo
      | some u => chkE c lo u) && (match h with
      | none => isNo hi
      | some u => chkE c hi u)
  | .rev a, .Subscript x (.Slice none none (some (.UnaryOp .USub (.Constant (.int k) _ _) _)) _) _ => decide (k = 1) && chkE c a x
  | .call f _ _ es, .Call (.Name x _) (y :: ys) [] _ => decide (c.fn f = x) && glB c.sc x && nmOk x && chkEs c es (y :: ys)
  | .blt b es, .Call (.Name x _) (y :: ys) [] _ => c.bk b && decide (b.nm = x) && glB c.sc x && nmOk x && chkEs c es (y :: ys)
  | .isi t e, .Call (.Name x _) [y, .Name z _] [] _ => c.ik && c.tk t && decide (x = "isinstance") && glB c.sc x && decide (t.nm = z) && glB c.sc z && chkE c e y && noStar y
  | .mth m o es, .Call (.Attribute x n ap) (y :: ys) [] cp => decide (m ≠ .pop) && decide (m.nm = n) && chkE c o x && chkEs c es (y :: ys) && decide (ys.length < 9) && (ap.endLine == cp.line) && notCall x
  | .mth .pop o .nil, .Call (.Attribute x n ap) [] [] cp => decide (n = "pop") && chkE c o x && (ap.endLine == cp.line) && notCall x
  | .comp _ own it tg cond elt, .ListComp y [⟨t, i, ifs, asy⟩] scope _ =>
      decide (asy = 0) && chkI c it i && notSet i && blkC c.N c.sc scope (ownOf c.N own) && chkT (c.blk scope) (some own) tg t && chkE (c.blk scope) elt y &&
      (match ifs with
        | [] => isYes cond
        | [u] => chkE (c.blk scope) cond u
        | _ => false)
  | .fz e, x => chkE c e x && plainT x
  | _, _ => false
def chkEs (c : Cfg) : IEs → List Expr → Bool
  | .nil, [] => true
  | .cons e es, x :: xs => chkE c e x && noStar x && chkEs c es xs
  | _, _ => false
def chkI (c : Cfg) : IIt → Expr → Bool
  | .val e, x => chkE c e x
  | .range es, .Call (.Name x _) ys [] _ => c.rk && decide (x = "range") && glB c.sc x && chkEs c es ys && (decide (ys.length = 1) || decide (ys.length = 2))
  | _, _ => false
end
end Ip
set_option Elab.async false
set_option linter.all false
set_option maxRecDepth 100000
set_option maxHeartbeats 400000
/-! Defs: what a def keeps, where no repr is under way. -/
namespace Ip
open PySem PySem.Spec PyProof.Rows L2

/-- a def keeps its promise, called where no repr is under way -/
structure FnG (P : Program) (w : World) (K : PySem.W.Frag) (mg : Str → Option Value) (base : Heap) (k : Nat) (f : Addr) (fd : FuncData) (ps : List Str) (sp : Sp) : Prop where
  len : ∀ vs H Q E, sp vs H Q E → vs.length = ps.length
  run : ∀ (A : Around) (out : List Env) (s : Shared) (H : Hp) (ag : Args) (us : List Value) (vs : List V) (Q : VK) (E : XK), Room k A → A.guards = some [] → Env0 P w K mg base A out s H → BindsTo s fd ag (ps.zip us) → Vals vs us → sp vs H Q E →
    codeAny (model P w) A (.call (.ref f) ag) (CR (L2.CX P w) out P w H s Q E) s
theorem FnG.mono {P : Program} {w : World} {K : PySem.W.Frag} {mg : Str → Option Value} {base : Heap} {j k : Nat} {f : Addr} {fd : FuncData} {ps : List Str} {sp : Sp} (F : FnG P w K mg base j f fd ps sp) (h : j ≤ k) : FnG P w K mg base k f fd ps sp where
  len := F.len
  run := fun A out s H ag us vs Q E hr => F.run A out s H ag us vs Q E (hr.mono h)
/-- the callee runs, from the body X -/
theorem run_fnG {X : Cx} {k : Nat} {f : Addr} {fd : FuncData} {ps : List Str} {sp : Sp} {ds : List Value} {dvs : List V} {E : XK} {pins : List (Addr × Obj)} {σ : L2.St} {H : Hp} {s : Shared} {Q : VK} {us : List Value} {vs : List V}
    (F : FnG X.prog X.w X.K X.mg X.base k f fd ps sp) (hr : Room k X.A) (hg : X.A.guards = some []) (hb : Binds X.K fd ps ds) (hd : Vals dvs ds) (hx : PassesAt (L2.CX X.prog X.w) X σ E) (I : Inv X pins σ H s) (r : Vals vs us) (h : sp (vs ++ dvs) H Q E) :
    wpAny (model X.prog X.w) X.A (call (.ref f) us) (EP X pins σ Q) X.xe s := by
  have rr : Vals (vs ++ dvs) (us ++ ds) := r.append hd
  have ll : (us ++ ds).length = ps.length := rr.length ▸ F.len _ _ _ _ h
  refine wpAny_call (codeAny_mono (F.run X.A X.stack s H ⟨us, []⟩ _ _ Q E hr hg I.env0 (hb s us I.kIn ll) rr h) fun res st2 hq => ?_)
  rcases res with er | fl
  · exact hx pins H s er st2 I hq
  · cases fl <;> first | exact I.after hq | exact (hq : False).elim
/-- a def's promise by its body -/
theorem fn_ofG {P : Program} {w : World} {K : PySem.W.Frag} {mg : Str → Option Value} {base : Heap} {k : Nat} {f : Addr} {name qual : Str} {params : Arguments} {body : List Stmt} {scope : Scope} {dV kV doc pm cdv ct oc : Value} {an od : Option Addr}
    {osl : Array (Option Value)} {N ps : List Str} {sp : Sp} (lk : K.lookup f = some ⟨oc, od, .func (PySem.W.fnOf name qual params body scope dV kV doc pm an cdv ct), osl⟩) (hcd : PySem.W.codeIn K cdv qual = true) (S : FnScope N ps scope) (len : ∀ vs H Q E, sp vs H Q E → vs.length = ps.length)
    (hbody : ∀ (A : Around) (out : List Env) (s : Shared) (H : Hp) (vs : List V) (Q : VK) (E : XK), Room k (A.deeper (envOfC qual scope s.heap.objs.size f cdv)) → A.guards = some [] → sp vs H Q E →
      ∃ t, PSs (cxOf (L2.CX P w) P w K mg base N qual scope f cdv A out s H E) body t ∧ t { nx := fun _ H' => Q .non H', rt := Q } (start N vs) H) : FnG P w K mg base (k + 1) f (PySem.W.fnOf name qual params body scope dV kV doc pm an cdv ct) ps sp := by
  refine ⟨len, fun A out s H ag us vs Q E hr hg e0 hb r hsp => ?_⟩
  have hk0 : ∀ b o, base.get? b = some o → s.heap.get? b = some o := fun b o e => (e0.bs b o e).1
  have KX : K.In s.heap := e0.mod.kin.keeps hk0
  have kinds : ∀ y ∈ ps.zip us, scope.names.lookup y.1 = some .local ∨ (scope.names.lookup y.1 = some .cell ∧ ((cellsFrom (s.heap.objs.size + 1) scope.names []).lookup y.1).isSome = true) := by
    intro y hy
    have hm := (List.of_mem_zip (a := y.1) (b := y.2) hy).1
    exact (S.par y.1 hm).imp id fun q => ⟨q, PySem.W.cellsFrom_some _ _ _ (.inl q)⟩
  refine codeAny_call_function hr.depth (KX _ _ lk) rfl S.co S.gen rfl (PySem.W.codeRec_of KX hcd) (hb _ _ _ _ (wpAny_newFunctionEnv_cells S.kind kinds fun env he s1 x => ?_))
  subst he
  refine ⟨(e0.mod.nolimit.keeps hk0).keeps x.toInCall.keep, codeAny_func ?_⟩
  obtain ⟨t, ht, hq⟩ := hbody A out s H vs Q E (hr.deeper _) hg hsp
  have I0 := inv_start (CX := L2.CX P w) (P := P) (w := w) (K := K) (mg := mg) (base := base) (qual := qual) (f := f) (cd := cdv) (A := A) (outer := out) (E := E) S hr.hd e0 (len _ _ _ _ hsp) r x
  refine wpAny_mono (ht.run [] s1 (start N vs) H _ I0 hq) (fun fl st2 hs => ?_) fun _ _ hs => hs
  cases fl
  · obtain ⟨σ', H', J, q⟩ := hs
    exact ⟨V.non, H', J.os, J.bare, J.base, J.hok, rfl, q⟩
  · exact (let ⟨_, _, _, q⟩ := hs; q : False).elim
  · exact (let ⟨_, _, _, q⟩ := hs; q : False).elim
  · obtain ⟨v, σ', H', J, rv, q⟩ := hs
    exact ⟨v, H', J.os, J.bare, J.base, J.hok, rv, q⟩
/-- the promise of a def by what the interpreter makes of it -/
def spOf (T : Tb) (sm : Fn) : Sp := fun vs H Q E => ∃ W st ds, Sim T W st H ∧ RepA T W ds vs ∧ Pst T (fun cls dd _ H => E cls dd H) [] W (Rep T) (sm ds st) Q
/-- a call's facts -/
structure CallOk (T : Tb) (nm : Str) (X : Cx) (dv : List D) (sm : Fn) : Prop where
  ex : ∃ (k : Nat) (f : Addr) (fd : FuncData) (ps : List Str) (ds : List Value) (dvs : List V), FnG X.prog X.w X.K X.mg X.base k f fd ps (spOf T sm) ∧ X.mg nm = some (.ref f) ∧ PySem.W.keepIn X.K (.ref f) = true ∧ Binds X.K fd ps ds ∧ Vals dvs ds ∧ (∀ W, RepA T W dv dvs) ∧ Room k X.A

/-! ### argument lists -/
theorem star_cons {e : Expr} {es : List Expr} {env : Env} (h : noStar e = true) : starEach (e :: es) env = (false, eval e env) :: starEach es env := by
  cases e <;> first | rfl | cases h
theorem plain_args : ∀ {es : List Expr} {env : Env} {pos : Pos} {c : Cfg} {irs : IEs}, chkEs c irs es = true → (backTo pos (starEach es env)).any (·.1) = false
  | [], _, _, _, _, _ => rfl
  | e :: es, env, pos, c, irs, h => by
    cases irs with
    | nil => simp [chkEs] at h
    | cons i is =>
      simp only [chkEs, Bool.and_eq_true] at h
      rw [star_cons h.1.2]
      show (false || (backTo pos (starEach es env)).any (·.1)) = false
      rw [plain_args h.2, Bool.or_false]
end Ip
set_option Elab.async false
set_option linter.all false
set_option maxRecDepth 100000
set_option maxHeartbeats 400000
/-! Terms, one by one: the parts' readings give the whole's. -/
namespace Ip
open PySem PySem.Spec PyProof.Rows L2

theorem PE.imp {X : Cx} {e : Expr} {t t' : TE} (h : PE X e t) (k : ∀ σ H Q, t' σ H Q → t σ H Q) : PE X e t' := ⟨fun pins s σ H Q I q => h.run pins s σ H Q I (k σ H Q q)⟩
theorem PT.imp {X : Cx} {e : Expr} {t t' : TT} (h : PT X e t) (k : ∀ σ H Q, t' σ H Q → t σ H Q) : PT X e t' := ⟨fun pins s σ H Q I q => h.run pins s σ H Q I (k σ H Q q)⟩
theorem PW.imp {X : Cx} {e : Expr} {t t' : TT} (h : PW X e t) (k : ∀ σ H Q, t' σ H Q → t σ H Q) : PW X e t' := ⟨fun wh pins s σ H Q I q => h.run wh pins s σ H Q I (k σ H Q q)⟩
theorem PA.imp {X : Cx} {e : List Expr} {t t' : TA} (h : PA X e t) (k : ∀ σ H Q, t' σ H Q → t σ H Q) : PA X e t' := ⟨fun pos pins s σ H Q I q => h.run pos pins s σ H Q I (k σ H Q q)⟩
theorem PI.imp {X : Cx} {tg e : Expr} {t t' : TI} (h : PI X tg e t) (k : ∀ σ H Q, t' σ H Q → t σ H Q) : PI X tg e t' := ⟨fun pins s σ H Q I q => h.run pins s σ H Q I (k σ H Q q)⟩
theorem PI.or {X : Cx} {tg e : Expr} {t t' : TI} (h : PI X tg e t) (h' : PI X tg e t') : PI X tg e (fun σ H R => t σ H R ∨ t' σ H R) := ⟨fun pins s σ H Q I q => q.elim (h.run pins s σ H Q I) (h'.run pins s σ H Q I)⟩

/-- what holds of a running body -/
structure Cond (T : Tb) (XW : WX) (P : Nat → List D → Fn → Prop) (G : Nat → D → Prop) (c : Cfg) (X : Cx) : Prop where
  hK : T.K = X.K
  sc : X.env.scope = c.sc
  N : X.N = c.N
  nd : X.N.Nodup
  calm : X.calm = true
  gd : X.A.guards = some []
  room : Room 0 X.A
  tk : Takes X XW
  wr : ∀ x, locB c.wr x = true → Loc X.env.scope x ∧ (X.fn x = true ∨ X.env.scope.names.lookup x = some .local)
  bl : ∀ b : Blt, c.bk b = true → if b = .gcd then X.mg b.nm = some b.val else X.mg b.nm = none
  isi : c.ik = true → X.mg "isinstance" = none
  ty : ∀ t : Ty, c.tk t = true → X.mg t.nm = none
  rg : c.rk = true → X.mg "range" = none
  fn : ∀ i dv sm, P i dv sm → CallOk T (c.fn i) X dv sm
  gl : ∀ i d, G i d → ∃ u v, X.mg (c.gl i) = some u ∧ RelV v u ∧ ∀ W, Rep T W d v

section
variable {T : Tb} {XW : WX} {P : Nat → List D → Fn → Prop} {G : Nat → D → Prop} {c : Cfg} {X : Cx} {e x y z : Expr} {a b d : IE} {pos : Pos}
theorem Cond.hu (C : Cond T XW P G c X) : X.A.units + 80 < cLine := by have := C.room.un; omega
theorem Cond.hu64 (C : Cond T XW P G c X) : X.A.units + 64 < cLine := by have := C.room.un; omega
theorem Cond.gl' (C : Cond T XW P G c X) {n : Str} (h : glB c.sc n = true) : Gl X n := by
  show X.env.scope.names.lookup n = _
  rw [C.sc]; exact of_decide_eq_true h
theorem Cond.vis (C : Cond T XW P G c X) {n : Str} (h : visB c.sc n = true) : Vis X.env.scope n := by rw [C.sc]; exact visB.vis h
/-! ### truth -/
theorem tru_rep (hK : T.K = X.K) {W : Wd} {st : Store} {H : Hp} {d : D} {v : V} {k : Bool} (sim : Sim T W st H) (r : Rep T W d v) (e : truD st d = some k) : TruV X.K v H k := by
  unfold truD at e
  split at e
  all_goals try (cases e; done)
  · cases r; exact (Option.some.inj e).symm
  · cases r; exact (Option.some.inj e).symm
  · cases r; exact (Option.some.inj e).symm
  · cases r
    split at e
    · rename_i hz; exact ⟨szOk.le hz, (Option.some.inj e).symm⟩
    · cases e
  · obtain ⟨p, xs, rfl, h, r2⟩ := rep_lst r
    exact .inl ⟨xs, hK ▸ sim.sub.seq h, by rw [r2.isEmpty]; exact (Option.some.inj e).symm⟩
  · obtain ⟨p, xs, rfl, h, r2⟩ := rep_tup r
    exact .inr (.inl ⟨xs, hK ▸ Same.tup sim.sub h, by rw [r2.isEmpty]; exact (Option.some.inj e).symm⟩)
  · split at e
    · obtain ⟨p, rfl, hp⟩ := rep_ref r
      rename_i hn
      obtain ⟨xs, hx, r2, _⟩ := sim.cell _ _ p hn hp
      exact .inl ⟨xs, SqL.of hx, by rw [r2.isEmpty]; exact (Option.some.inj e).symm⟩
    · cases e
theorem ofO_ok {α β : Type} {W : Wd} {R : Wd → α → β → Prop} {o : Option α} {st : Store} {σ : L2.St} {Q : β → Hp → Prop} (h : Pst T XW σ W R (ofO o st) Q) : ∃ r, o = some r ∧ Pst T XW σ W R (.ok r st) Q := by
  cases o with
  | none => exact h.elim
  | some r => exact ⟨r, rfl, h⟩
theorem isTrue_of_plain (h : plainT e = true) (env : PySem.Env) (whole : PySem.Sem Value) : isTrue e env whole = (do let v ← whole; standAt e.pos; holding [v] (truthy v)) := by
  cases e with
  | UnaryOp op x p => cases op <;> first | rfl | cases h
  | BoolOp _ _ _ => cases h
  | IfExp _ _ _ _ => cases h
  | Compare _ _ _ _ => cases h
  | _ => rfl
theorem t_plain (C : Cond T XW P G c X) (he : PE X e (tI T XW a)) (hp : plainT e = true) : PT X e (tIt T XW a) := by
  refine PT.imp (pt_truth he (isTrue_of_plain hp X.env)) ?_
  rintro σ H Q ⟨W, st, σd, sim, rs, h⟩
  refine ⟨W, st, σd, sim, rs, (h.bind (Rep T)).imp ?_⟩
  rintro v H1 ⟨W1, d1, st1, le1, sim1, r1, h1⟩
  obtain ⟨k, e1, h2⟩ := ofO_ok h1
  exact ⟨k, tru_rep C.hK sim1 r1 e1, h2 k W1 H1 (.refl _) sim1 rfl⟩

/-! ### the rules -/
theorem c_var (C : Cond T XW P G c X) {i : Nat} {n : Str} (h1 : c.N[i]? = some n) (h2 : visB c.sc n = true) (h3 : nmOk n = true) : PE X (.Name n pos) (tI T XW (.var i)) := by
  refine PE.imp (pe_var (i := i) (by rw [C.N]; exact h1) (C.vis h2) (nmOk.l h3) (nmOk.r h3)) ?_
  rintro σ H Q ⟨W, st, σd, sim, rs, h⟩
  simp only [ev] at h
  split at h
  · rename_i d hd
    obtain ⟨v, e1, r⟩ := rs.get i d hd
    exact ⟨v, e1, h v W H (.refl _) sim r⟩
  · exact h.elim
theorem c_con {d : D} {v : V} (hv : ∀ W, Rep T W d v) (he : PE X e (tC v)) : PE X e (tI T XW (.con d)) := by
  refine PE.imp he ?_
  rintro σ H Q ⟨W, st, σd, sim, rs, h⟩
  simp only [ev] at h
  exact h v W H (.refl _) sim (hv W)
theorem c_glob (C : Cond T XW P G c X) {i : Nat} {d : D} {n : Str} (hg : G i d) (h1 : c.gl i = n) (h2 : glB c.sc n = true) (h3 : nmOk n = true) : PE X (.Name n pos) (tI T XW (.glob i d)) := by
  obtain ⟨u, v, m, r, hv⟩ := C.gl i d hg
  subst h1
  refine PE.imp (pe_glob (C.gl' h2) m r (nmOk.l h3)) ?_
  rintro σ H Q ⟨W, st, σd, sim, rs, h⟩
  simp only [ev] at h
  exact h v W H (.refl _) sim (hv W)
/-- a two-place operation -/
theorem two {g : Store → D → D → Option D} {t : IE} (ha : PE X x (tI T XW a)) (hb : PE X y (tI T XW b)) {e : Expr} (he : PE X e (tOp (rV2 T g) (tI T XW a) (tI T XW b)))
    (hev : ∀ σ st, ev t σ st = (ev a σ st).bind fun x st => (ev b σ st).bind fun y st => ofO (g st x y) st) : PE X e (tI T XW t) := by
  refine PE.imp he ?_
  rintro σ H Q ⟨W, st, σd, sim, rs, h⟩
  rw [hev] at h
  refine ⟨W, st, σd, sim, rs, (h.bind (Rep T)).imp ?_⟩
  rintro v H1 ⟨W1, d1, st1, le1, sim1, r1, h1⟩
  refine ⟨W1, st1, σd, sim1, rs.mono le1, (h1.bind (Rep T)).imp ?_⟩
  rintro u H2 ⟨W2, d2, st2, le2, sim2, r2, h2⟩
  obtain ⟨d, e, h3⟩ := ofO_ok h2
  exact ⟨W2, st2, d1, d2, sim2, r1.mono le2, r2, d, e, h3⟩
theorem c_bin (C : Cond T XW P G c X) {o : BO} (ha : PE X x (tI T XW a)) (hb : PE X y (tI T XW b)) : PE X (.BinOp x o.op y pos) (tI T XW (.bin o a b)) :=
  two (g := binD o) ha hb (pe_op (op_bin C.hK o) ha hb) fun σ st => by simp only [ev]
theorem c_neg (ha : PE X x (tI T XW a)) : PE X (.UnaryOp .USub x pos) (tI T XW (.un .neg a)) := by
  refine PE.imp (pe_un un_neg ha) ?_
  rintro σ H Q ⟨W, st, σd, sim, rs, h⟩
  simp only [ev] at h
  refine ⟨W, st, σd, sim, rs, (h.bind (Rep T)).imp ?_⟩
  rintro v H1 ⟨W1, d1, st1, le1, sim1, r1, h1⟩
  obtain ⟨d, e, h3⟩ := ofO_ok h1
  cases d1 <;> simp only [unD] at e <;> first | (cases e; done) | skip
  cases e
  cases rep_int r1
  exact ⟨_, rfl, h3 _ W1 H1 (.refl _) sim1 (.int _)⟩
theorem c_cmp (C : Cond T XW P G c X) {o : CO} (ha : PE X x (tI T XW a)) (hb : PE X y (tI T XW b)) (hm : behindInMarks o.op y = false) : PE X (.Compare x [o.op] [y] pos) (tI T XW (.cmp o a b)) :=
  two (g := fun st x y => (cmpD o st x y).map .bl) ha hb (pe_cmpR (op_cmp C.hK C.hu64 o) ha hb hm) fun σ st => by simp only [ev]
theorem t_cmp (C : Cond T XW P G c X) {o : CO} (ha : PE X x (tI T XW a)) (hb : PE X y (tI T XW b)) (hm : behindInMarks o.op y = false) : PT X (.Compare x [o.op] [y] pos) (tIt T XW (.cmp o a b)) := by
  refine PT.imp (pt_cmpR (op_cmp C.hK C.hu64 o) ha hb hm) ?_
  rintro σ H Q ⟨W, st, σd, sim, rs, h⟩
  simp only [evt, ev] at h
  have e0 : ∀ {α β γ : Type} (o : Out α) (f : α → Store → Out β) (g : β → Store → Out γ), (o.bind f).bind g = o.bind fun a st => (f a st).bind g := fun o f g => by cases o <;> rfl
  rw [e0] at h
  refine ⟨W, st, σd, sim, rs, (h.bind (Rep T)).imp ?_⟩
  rintro v H1 ⟨W1, d1, st1, le1, sim1, r1, h1⟩
  rw [e0] at h1
  refine ⟨W1, st1, σd, sim1, rs.mono le1, (h1.bind (Rep T)).imp ?_⟩
  rintro u H2 ⟨W2, d2, st2, le2, sim2, r2, h2⟩
  cases hk : cmpD o st2 d1 d2 with
  | none => rw [hk] at h2; exact h2.elim
  | some k =>
    rw [hk] at h2
    refine ⟨W2, st2, d1, d2, sim2, r1.mono le2, r2, .bl k, (by show (cmpD o st2 d1 d2).map _ = _; rw [hk]; rfl), fun v W' H' le' sim' r' => ?_⟩
    cases rep_bl r'
    exact ⟨k, rfl, h2 k W' H' le' sim' rfl⟩
theorem bind_assoc {α β γ : Type} (o : Out α) (f : α → Store → Out β) (g : β → Store → Out γ) : (o.bind f).bind g = o.bind fun a st => (f a st).bind g := by cases o <;> rfl
/-- as a test, then the ways -/
theorem Pst.bindT {σ : L2.St} {W : Wd} {γ δ : Type} {S : Wd → γ → δ → Prop} {Q : δ → Hp → Prop} {σd : EnvD} {st : Store} {f : D → Bool → Store → Out γ}
    (h : Pst T XW σ W S ((ev a σd st).bind fun x st => (ofO (truD st x) st).bind fun k st => f x k st) Q) :
    Pst T XW σ W (Rep T) (ev a σd st) (fun v H => ∃ W1 d1 st1 k, W.le W1 ∧ Sim T W1 st1 H ∧ Rep T W1 d1 v ∧ truD st1 d1 = some k ∧ Pst T XW σ W1 S (f d1 k st1) Q) := by
  refine (h.bind (Rep T)).imp ?_
  rintro v H1 ⟨W1, d1, st1, le1, sim1, r1, h1⟩
  cases hk : truD st1 d1 with
  | none => rw [hk] at h1; exact h1.elim
  | some k => rw [hk] at h1; exact ⟨W1, d1, st1, k, le1, sim1, r1, hk, h1⟩
theorem c_and (C : Cond T XW P G c X) {r : List Expr} (ha : PE X x (tI T XW a)) (hb : PE X (.BoolOp .And (y :: r) pos) (tI T XW b)) : PE X (.BoolOp .And (x :: y :: r) pos) (tI T XW (.and a b)) := by
  refine PE.imp (pe_andT ha hb) ?_
  rintro σ H Q ⟨W, st, σd, sim, rs, h⟩
  simp only [ev] at h
  refine ⟨W, st, σd, sim, rs, h.bindT.imp ?_⟩
  rintro v H1 ⟨W1, d1, st1, k, le1, sim1, r1, hk, h1⟩
  refine ⟨k, tru_rep C.hK sim1 r1 hk, ?_⟩
  split at h1
  · rename_i e; rw [if_pos e]; exact ⟨W1, st1, σd, sim1, rs.mono le1, h1⟩
  · rename_i e; rw [if_neg e]; exact h1 v W1 H1 (.refl _) sim1 r1
theorem c_or (C : Cond T XW P G c X) {r : List Expr} (ha : PE X x (tI T XW a)) (hb : PE X (.BoolOp .Or (y :: r) pos) (tI T XW b)) : PE X (.BoolOp .Or (x :: y :: r) pos) (tI T XW (.or a b)) := by
  refine PE.imp (pe_orT ha hb) ?_
  rintro σ H Q ⟨W, st, σd, sim, rs, h⟩
  simp only [ev] at h
  refine ⟨W, st, σd, sim, rs, h.bindT.imp ?_⟩
  rintro v H1 ⟨W1, d1, st1, k, le1, sim1, r1, hk, h1⟩
  refine ⟨k, tru_rep C.hK sim1 r1 hk, ?_⟩
  split at h1
  · rename_i e; rw [if_pos e]; exact h1 v W1 H1 (.refl _) sim1 r1
  · rename_i e; rw [if_neg e]; exact ⟨W1, st1, σd, sim1, rs.mono le1, h1⟩
theorem c_not (C : Cond T XW P G c X) (ha : PE X x (tI T XW a)) : PE X (.UnaryOp .Not x pos) (tI T XW (.not a)) := by
  refine PE.imp (pe_notT ha) ?_
  rintro σ H Q ⟨W, st, σd, sim, rs, h⟩
  simp only [ev] at h
  refine ⟨W, st, σd, sim, rs, h.bindT.imp ?_⟩
  rintro v H1 ⟨W1, d1, st1, k, le1, sim1, r1, hk, h1⟩
  exact ⟨k, tru_rep C.hK sim1 r1 hk, h1 _ W1 H1 (.refl _) sim1 (.bl _)⟩
/-- a test, by its term's truth -/
theorem evt_bind {γ δ : Type} {S : Wd → γ → δ → Prop} {Q : δ → Hp → Prop} {σ : L2.St} {W : Wd} {σd : EnvD} {st : Store} {f : Bool → Store → Out γ}
    (h : Pst T XW σ W S ((ev a σd st).bind fun x st => (ofO (truD st x) st).bind fun k st => f k st) Q) :
    Pst T XW σ W (fun _ (a b : Bool) => a = b) (evt a σd st) (fun k H => ∃ W1 st1, W.le W1 ∧ Sim T W1 st1 H ∧ Pst T XW σ W1 S (f k st1) Q) := by
  have h' : Pst T XW σ W S ((evt a σd st).bind f) Q := by unfold evt; rw [bind_assoc]; exact h
  refine (h'.bind (fun _ (a b : Bool) => a = b)).imp ?_
  rintro k H1 ⟨W1, k', st1, le1, sim1, rfl, h1⟩
  exact ⟨W1, st1, le1, sim1, h1⟩
theorem c_ife (hc : PT X e (tIt T XW d)) (ha : PE X x (tI T XW a)) (hb : PE X y (tI T XW b)) : PE X (.IfExp e x y pos) (tI T XW (.ife d a b)) := by
  refine PE.imp (pe_ifExp hc ha hb) ?_
  rintro σ H Q ⟨W, st, σd, sim, rs, h⟩
  simp only [ev] at h
  refine ⟨W, st, σd, sim, rs, (evt_bind h).imp ?_⟩
  rintro k H1 ⟨W1, st1, le1, sim1, h1⟩
  split at h1
  · rename_i e; rw [if_pos e]; exact ⟨W1, st1, σd, sim1, rs.mono le1, h1⟩
  · rename_i e; rw [if_neg e]; exact ⟨W1, st1, σd, sim1, rs.mono le1, h1⟩
theorem t_not (ha : PT X x (tIt T XW a)) : PT X (.UnaryOp .Not x pos) (tIt T XW (.not a)) := by
  refine PT.imp (pt_not ha) ?_
  rintro σ H Q ⟨W, st, σd, sim, rs, h⟩
  simp only [evt, ev, bind_assoc] at h
  refine ⟨W, st, σd, sim, rs, (evt_bind h).imp ?_⟩
  rintro k H1 ⟨W1, st1, le1, sim1, h1⟩
  exact h1 _ W1 H1 (.refl _) sim1 rfl
theorem t_and {r : List Expr} (ha : PT X x (tIt T XW a)) (hb : PW X (.BoolOp .And (y :: r) pos) (tIt T XW b)) : PW X (.BoolOp .And (x :: y :: r) pos) (tIt T XW (.and a b)) := by
  refine PW.imp (pw_and ha hb) ?_
  rintro σ H Q ⟨W, st, σd, sim, rs, h⟩
  have h' : Pst T XW σ W (fun _ (a b : Bool) => a = b) ((evt a σd st).bind fun k st => if k = true then evt b σd st else .ok false st) Q := by
    have e : (evt (.and a b) σd st) = ((evt a σd st).bind fun k st => if k = true then evt b σd st else .ok false st) := by
      simp only [evt, ev, bind_assoc]
      congr 1
      funext x st1
      cases hk : truD st1 x with
      | none => rfl
      | some k =>
        cases k with
        | false => show ofO (truD st1 x) st1 = .ok false st1; rw [hk]; rfl
        | true => rfl
    rw [← e]; exact h
  refine ⟨W, st, σd, sim, rs, (h'.bind (fun _ (a b : Bool) => a = b)).imp ?_⟩
  rintro k H1 ⟨W1, k', st1, le1, sim1, rfl, h1⟩
  split at h1
  · rename_i e; rw [if_pos e]; exact ⟨W1, st1, σd, sim1, rs.mono le1, h1⟩
  · rename_i e; rw [if_neg e]; exact h1 _ W1 H1 (.refl _) sim1 rfl
theorem t_or {r : List Expr} (ha : PT X x (tIt T XW a)) (hb : PW X (.BoolOp .Or (y :: r) pos) (tIt T XW b)) : PW X (.BoolOp .Or (x :: y :: r) pos) (tIt T XW (.or a b)) := by
  refine PW.imp (pw_or ha hb) ?_
  rintro σ H Q ⟨W, st, σd, sim, rs, h⟩
  have h' : Pst T XW σ W (fun _ (a b : Bool) => a = b) ((evt a σd st).bind fun k st => if k = true then .ok true st else evt b σd st) Q := by
    have e : (evt (.or a b) σd st) = ((evt a σd st).bind fun k st => if k = true then .ok true st else evt b σd st) := by
      simp only [evt, ev, bind_assoc]
      congr 1
      funext x st1
      cases hk : truD st1 x with
      | none => rfl
      | some k =>
        cases k with
        | true => show ofO (truD st1 x) st1 = .ok true st1; rw [hk]; rfl
        | false => rfl
    rw [← e]; exact h
  refine ⟨W, st, σd, sim, rs, (h'.bind (fun _ (a b : Bool) => a = b)).imp ?_⟩
  rintro k H1 ⟨W1, k', st1, le1, sim1, rfl, h1⟩
  split at h1
  · rename_i e; rw [if_pos e]; exact h1 _ W1 H1 (.refl _) sim1 rfl
  · rename_i e; rw [if_neg e]; exact ⟨W1, st1, σd, sim1, rs.mono le1, h1⟩
end
end Ip
set_option Elab.async false
set_option linter.all false
set_option maxRecDepth 100000
set_option maxHeartbeats 400000
/-! Terms, one by one: chains, displays, subscripts, calls, comprehensions. -/
namespace Ip
open PySem PySem.Spec PyProof.Rows L2

section
variable {T : Tb} {XW : WX} {P : Nat → List D → Fn → Prop} {G : Nat → D → Prop} {c : Cfg} {X : Cx} {e x y z : Expr} {a b d : IE} {pos : Pos}
/-! ### chains -/
theorem chain_read (C : Cond T XW P G c X) {o1 o2 : CO} {σ : L2.St} {H : Hp} {Q : VK} (h : tI T XW (.chain o1 o2 a b d) σ H Q) :
    tChain (rV2 T (fun st a b => (cmpD o1 st a b).map .bl)) (rV2 T (fun st a b => (cmpD o2 st a b).map .bl)) (tI T XW a) (tI T XW b) (tI T XW d) σ H Q := by
  obtain ⟨W, st, σd, sim, rs, h⟩ := h
  simp only [ev] at h
  refine ⟨W, st, σd, sim, rs, (h.bind (Rep T)).imp ?_⟩
  rintro v H1 ⟨W1, d1, st1, le1, sim1, r1, h1⟩
  refine ⟨W1, st1, σd, sim1, rs.mono le1, (h1.bind (Rep T)).imp ?_⟩
  rintro u H2 ⟨W2, d2, st2, le2, sim2, r2, h2⟩
  cases hk : cmpD o1 st2 d1 d2 with
  | none => rw [hk] at h2; exact h2.elim
  | some k =>
    rw [hk] at h2
    refine ⟨W2, st2, d1, d2, sim2, r1.mono le2, r2, .bl k, (by show (cmpD o1 st2 d1 d2).map _ = _; rw [hk]; rfl), fun v' W3 H3 le3 sim3 r3 => ?_⟩
    cases rep_bl r3
    refine ⟨k, rfl, ?_⟩
    have h3 := Pst.mono le3 h2
    change Pst T XW σ W3 (Rep T) (if k = true then _ else _) Q at h3
    split at h3
    · rename_i e
      rw [if_pos e]
      refine ⟨W3, st2, σd, sim3, ((rs.mono le1).mono le2).mono le3, (h3.bind (Rep T)).imp ?_⟩
      rintro w H4 ⟨W4, d4, st4, le4, sim4, r4, h4⟩
      obtain ⟨dd, e, h5⟩ := ofO_ok h4
      exact ⟨W4, st4, d2, d4, sim4, (r2.mono le3).mono le4, r4, dd, e, h5⟩
    · rename_i e
      rw [if_neg e]
      exact h3 _ W3 H3 (.refl _) sim3 (.bl _)
theorem c_chain (C : Cond T XW P G c X) {o1 o2 : CO} (ha : PE X x (tI T XW a)) (hb : PE X y (tI T XW b)) (hd : PE X z (tI T XW d)) (hm : lastMarks [o1.op, o2.op] [y, z] = false) : PE X (.Compare x [o1.op, o2.op] [y, z] pos) (tI T XW (.chain o1 o2 a b d)) :=
  PE.imp (pe_chain (op_cmp C.hK C.hu64 o1) (op_cmp C.hK C.hu64 o2) ha hb hd hm) fun σ H Q h => chain_read C h
/-- from a value's reading to a test's, where the value is a bool -/
theorem t_of_bl {t : IE} {σ : L2.St} {H : Hp} {Q : Bool → Hp → Prop} (h : tIt T XW t σ H Q) (hb : ∀ σd st d st', ev t σd st = .ok d st' → ∃ k, d = .bl k) : tI T XW t σ H (fun x H' => ∃ k, x = .bl k ∧ Q k H') := by
  obtain ⟨W, st, σd, sim, rs, h⟩ := h
  refine ⟨W, st, σd, sim, rs, ?_⟩
  unfold evt at h
  cases e : ev t σd st with
  | stuck => rw [e] at h; exact h
  | raise x st' => rw [e] at h; exact h
  | ok d st' =>
    obtain ⟨k, rfl⟩ := hb σd st d st' e
    rw [e] at h
    intro v W' H' le s r
    cases rep_bl r
    exact ⟨k, rfl, h k W' H' le s rfl⟩
theorem bind_ok {α β : Type} {o : Out α} {f : α → Store → Out β} {b : β} {st : Store} (h : o.bind f = .ok b st) : ∃ a st', o = .ok a st' ∧ f a st' = .ok b st := by
  cases o with
  | ok a st' => exact ⟨a, st', rfl, h⟩
  | raise x s => cases h
  | stuck => cases h
theorem ofO_bl {o : Option Bool} {st st' : Store} {d : D} (h : ofO (o.map D.bl) st = .ok d st') : ∃ k, d = .bl k := by
  cases o with
  | none => cases h
  | some k => cases h; exact ⟨k, rfl⟩
theorem t_chain (C : Cond T XW P G c X) {o1 o2 : CO} (ha : PE X x (tI T XW a)) (hb : PE X y (tI T XW b)) (hd : PE X z (tI T XW d)) (hm : lastMarks [o1.op, o2.op] [y, z] = false) : PT X (.Compare x [o1.op, o2.op] [y, z] pos) (tIt T XW (.chain o1 o2 a b d)) := by
  refine PT.imp (pt_chain (op_cmp C.hK C.hu64 o1) (op_cmp C.hK C.hu64 o2) ha hb hd hm) fun σ H Q h => ?_
  refine chain_read C (t_of_bl h fun σd st dd st' e => ?_)
  simp only [ev] at e
  obtain ⟨_, _, _, e⟩ := bind_ok e
  obtain ⟨_, _, _, e⟩ := bind_ok e
  obtain ⟨k, _, _, e⟩ := bind_ok e
  split at e
  · obtain ⟨_, _, _, e⟩ := bind_ok e
    exact ofO_bl e
  · cases e; exact ⟨_, rfl⟩

/-! ### argument lists, displays -/
theorem a_nil : PA X [] (tIs T XW .nil) := by
  refine PA.imp pa_nil ?_
  rintro σ H Q ⟨W, st, σd, sim, rs, h⟩
  simp only [evs] at h
  exact h [] W H (.refl _) sim .nil
theorem a_cons {es : List Expr} {is : IEs} (ha : PE X x (tI T XW a)) (hr : PA X es (tIs T XW is)) (hs : noStar x = true) : PA X (x :: es) (tIs T XW (.cons a is)) := by
  refine PA.imp (pa_cons ha hr (star_cons hs)) ?_
  rintro σ H Q ⟨W, st, σd, sim, rs, h⟩
  simp only [evs] at h
  refine ⟨W, st, σd, sim, rs, (h.bind (Rep T)).imp ?_⟩
  rintro v H1 ⟨W1, d1, st1, le1, sim1, r1, h1⟩
  refine ⟨W1, st1, σd, sim1, rs.mono le1, (h1.bind (RepA T)).imp ?_⟩
  rintro us H2 ⟨W2, d2, st2, le2, sim2, r2, h2⟩
  exact h2 _ W2 H2 (.refl _) sim2 (.cons (r1.mono le2) r2)
theorem c_tup {es : List Expr} {is : IEs} {x1} (ha : PA X es (tIs T XW is)) : PE X (.Tuple es x1 pos) (tI T XW (.tup is)) := by
  refine PE.imp (pe_tup ha) ?_
  rintro σ H Q ⟨W, st, σd, sim, rs, h⟩
  simp only [ev] at h
  refine ⟨W, st, σd, sim, rs, (h.bind (RepA T)).imp ?_⟩
  rintro vs H1 ⟨W1, ds, st1, le1, sim1, r1, h1⟩
  split at h1
  · rename_i hz
    refine ⟨by rw [← r1.length]; exact szOk.le hz, fun p hp => ?_⟩
    obtain ⟨W', le, s', r'⟩ := sim1.newT hp r1
    exact h1 _ W' _ le s' r'
  · exact h1.elim
theorem c_lst {es : List Expr} {is : IEs} {t : Bool} (ha : PA X es (tIs T XW is)) : PE X (.List es pos) (tI T XW (.lst t is)) := by
  refine PE.imp (pe_lst ha) ?_
  rintro σ H Q ⟨W, st, σd, sim, rs, h⟩
  simp only [ev] at h
  refine ⟨W, st, σd, sim, rs, (h.bind (RepA T)).imp ?_⟩
  rintro vs H1 ⟨W1, ds, st1, le1, sim1, r1, h1⟩
  split at h1
  · rename_i hz
    refine ⟨by rw [← r1.length]; exact szOk.le hz, fun p hp => ?_⟩
    unfold newLst at h1
    split at h1
    · obtain ⟨le, s'⟩ := sim1.newCell hp r1
      exact h1 _ _ _ le s' (.ref (p := (p, p)) (by show (W1.φ ++ [(p, p)])[st1.length]? = _; rw [← sim1.len]; simp))
    · obtain ⟨W', le, s', r'⟩ := sim1.newL hp r1
      exact h1 _ W' _ le s' r'
  · exact h1.elim

/-! ### subscripts -/
theorem plainIx_of {b : Expr} (h : noSlice b = true) : PlainIx b := by
  intro o i
  cases b <;> first | rfl | cases h
theorem atI_rep {W : Wd} {ds : List D} {xs : List V} {i : Int} {d : D} (r : RepA T W ds xs) (e : atI ds i = some d) : ∃ v, atI xs i = some v ∧ Rep T W d v := by
  unfold atI at e ⊢
  rw [r.length] at e
  obtain ⟨j, e1, e2⟩ := Option.bind_eq_some_iff.mp e
  obtain ⟨v, e3, r2⟩ := r.get e2
  exact ⟨v, by rw [e1]; exact e3, r2⟩
theorem ix_sub (hK : T.K = X.K) : IxR X (rV2 T subD) := by
  intro value slice pins s σ H x y v u Q I rx ry h hs
  obtain ⟨W, st, a, b, sim, ra, rb, d, e, q⟩ := h
  unfold subD at e
  split at e
  · rename_i i
    cases rep_int rb
    split at e
    · rename_i z
      cases rep_str ra
      split at e
      · rename_i hz
        obtain ⟨k, e1, e2⟩ := Option.map_eq_some_iff.mp e
        subst e2
        exact ix_str value slice pins s σ H _ _ v u Q I rx ry ⟨z, i, k, rfl, rfl, szOk.le hz, e1, q _ W H (.refl _) sim (.str _)⟩ hs
      · cases e
    · split at e
      · rename_i ds e1
        obtain ⟨p, xs, rfl, hx, r2⟩ := seqOf_rep sim ra e1
        obtain ⟨w, e2, r3⟩ := atI_rep r2 e
        rcases hx with hx | hx
        · exact ix_list value slice pins s σ H _ _ v u Q I rx ry ⟨p, xs, i, w, rfl, rfl, hK ▸ hx, e2, q w W H (.refl _) sim r3⟩ hs
        · exact ix_tup value slice pins s σ H _ _ v u Q I rx ry ⟨p, xs, i, w, rfl, rfl, hK ▸ hx, e2, q w W H (.refl _) sim r3⟩ hs
      · cases e
  · cases e
theorem c_sub (C : Cond T XW P G c X) (ha : PE X x (tI T XW a)) (hb : PE X y (tI T XW b)) (hs : noSlice y = true) : PE X (.Subscript x y pos) (tI T XW (.sub a b)) :=
  two (g := subD) ha hb (pe_ix (ix_sub C.hK) ha hb (plainIx_of hs)) fun σ st => by simp only [ev]
/-- a slice's bound -/
def tIo (T : Tb) (XW : WX) (a : IE) : TO := fun σ H Q => ∃ W st σd, Sim T W st H ∧ RepS T W σ σd ∧ Pst T XW σ W (fun _ (a b : Option Int) => a = b) (evo a σd st) Q
theorem PO.imp {e : Option Expr} {t t' : TO} (h : PO X e t) (k : ∀ σ H Q, t' σ H Q → t σ H Q) : PO X e t' := ⟨fun pins s σ H Q I q => h.run pins s σ H Q I (k σ H Q q)⟩
theorem o_none : PO X none (tIo T XW .no) := by
  refine PO.imp po_none ?_
  rintro σ H Q ⟨W, st, σd, sim, rs, h⟩
  simp only [evo] at h
  exact h none W H (.refl _) sim rfl
theorem o_some (ha : PE X x (tI T XW a)) (hn : a ≠ .no) : PO X (some x) (tIo T XW a) := by
  refine PO.imp (po_some ha) ?_
  rintro σ H Q ⟨W, st, σd, sim, rs, h⟩
  have h' : Pst T XW σ W (fun _ (a b : Option Int) => a = b) ((ev a σd st).bind fun x st => match x with
    | .int i => .ok (some i) st
    | _ => .stuck) Q := by
    cases a <;> first | (simp only [evo] at h; exact h) | exact absurd rfl hn
  refine ⟨W, st, σd, sim, rs, (h'.bind (Rep T)).imp ?_⟩
  rintro v H1 ⟨W1, d1, st1, le1, sim1, r1, h1⟩
  cases d1 <;> first | exact h1.elim | skip
  cases rep_int r1
  exact ⟨_, rfl, h1 _ W1 H1 (.refl _) sim1 rfl⟩
def rSl (T : Tb) : V → Option Int → Option Int → Hp → VK → Prop := fun x lo hi H Q => ∃ W st a, Sim T W st H ∧ Rep T W a x ∧ ∃ d, sliceD st a lo hi = some d ∧ ∀ v W' H', W.le W' → Sim T W' st H' → Rep T W' d v → Q v H'
theorem cutD_whole {α : Type} {xs : List α} {lo hi : Option Int} (h : HT.sIx xs.length 0 lo = 0 ∧ HT.sIx xs.length xs.length hi = xs.length) : cutD xs lo hi = xs := by
  unfold cutD
  rw [h.1, h.2]
  simp
theorem sl_all (hK : T.K = X.K) : SlR X (rSl T) := by
  intro pins s σ H x v vl vu lo hi sl Q I rx hs pl pu h
  obtain ⟨W, st, a, sim, ra, d, e, q⟩ := h
  unfold sliceD at e
  split at e
  · cases rep_str ra
    split at e
    · rename_i hz
      cases e
      exact sl_str pins s σ H _ v vl vu lo hi sl Q I rx hs pl pu ⟨_, rfl, szOk.le hz, q _ W H (.refl _) sim (.str _)⟩
    · cases e
  · obtain ⟨p, xs, rfl, hx, r2⟩ := rep_lst ra
    cases e
    refine sl_list pins s σ H _ v vl vu lo hi sl Q I rx hs pl pu ⟨p, xs, rfl, hK ▸ sim.sub.seq hx, fun p hp => ?_⟩
    obtain ⟨W', le, s', r'⟩ := sim.newL hp (r2.cut lo hi)
    exact q _ W' _ le s' r'
  · obtain ⟨p, xs, rfl, hx, r2⟩ := rep_tup ra
    cases e
    refine sl_tupA pins s σ H _ v vl vu lo hi sl Q I rx hs pl pu ⟨p, xs, rfl, hK ▸ Same.tup sim.sub hx, fun hw => ?_, fun _ p hp => ?_⟩
    · rw [← r2.length] at hw
      exact q _ W H (.refl _) sim (by rw [cutD_whole hw]; exact ra)
    · obtain ⟨W', le, s', r'⟩ := sim.newT hp (r2.cut lo hi)
      exact q _ W' _ le s' r'
  · split at e
    · obtain ⟨p, rfl, hp⟩ := rep_ref ra
      rename_i hn
      obtain ⟨xs, hx, r2, _⟩ := sim.cell _ _ p hn hp
      cases e
      refine sl_list pins s σ H _ v vl vu lo hi sl Q I rx hs pl pu ⟨p.1, xs, rfl, SqL.of hx, fun p hp => ?_⟩
      obtain ⟨W', le, s', r'⟩ := sim.newL hp (r2.cut lo hi)
      exact q _ W' _ le s' r'
    · cases e
  · cases e
theorem c_slice (C : Cond T XW P G c X) {lo hi : IE} {l h : Option Expr} {p2 : Pos} (ha : PE X x (tI T XW a)) (hl : PO X l (tIo T XW lo)) (hh : PO X h (tIo T XW hi)) : PE X (.Subscript x (.Slice l h none p2) pos) (tI T XW (.slice a lo hi)) := by
  refine PE.imp (pe_slice (sl_all C.hK) ha hl hh) ?_
  rintro σ H Q ⟨W, st, σd, sim, rs, h⟩
  simp only [ev] at h
  refine ⟨W, st, σd, sim, rs, (h.bind (Rep T)).imp ?_⟩
  rintro v H1 ⟨W1, d1, st1, le1, sim1, r1, h1⟩
  refine ⟨W1, st1, σd, sim1, rs.mono le1, (h1.bind (fun _ (a b : Option Int) => a = b)).imp ?_⟩
  rintro i H2 ⟨W2, i', st2, le2, sim2, rfl, h2⟩
  refine ⟨W2, st2, σd, sim2, (rs.mono le1).mono le2, (h2.bind (fun _ (a b : Option Int) => a = b)).imp ?_⟩
  rintro j H3 ⟨W3, j', st3, le3, sim3, rfl, h3⟩
  obtain ⟨dd, e, h4⟩ := ofO_ok h3
  exact ⟨W3, st3, d1, sim3, (r1.mono le2).mono le3, dd, e, h4⟩
theorem c_rev (C : Cond T XW P G c X) {k : Nat} {p1 p2 p3 : Pos} (ha : PE X x (tI T XW a)) : PE X (.Subscript x (.Slice none none (some (.UnaryOp .USub (.Constant (.int 1) k p1) p2)) p3) pos) (tI T XW (.rev a)) := by
  refine PE.imp (pe_revL ha) ?_
  rintro σ H Q ⟨W, st, σd, sim, rs, h⟩
  simp only [ev] at h
  refine ⟨W, st, σd, sim, rs, (h.bind (Rep T)).imp ?_⟩
  rintro v H1 ⟨W1, d1, st1, le1, sim1, r1, h1⟩
  split at h1
  · obtain ⟨p, xs, rfl, hx, r2⟩ := rep_lst r1
    refine ⟨p, xs, rfl, C.hK ▸ sim1.sub.seq hx, fun p hp => ?_⟩
    obtain ⟨W', le, s', r'⟩ := sim1.newL hp r2.reverse
    exact h1 _ W' _ le s' r'
  · split at h1
    · obtain ⟨p, rfl, hp⟩ := rep_ref r1
      rename_i hn
      obtain ⟨xs, hx, r2, _⟩ := sim1.cell _ _ p hn hp
      refine ⟨p.1, xs, rfl, SqL.of hx, fun p hp => ?_⟩
      obtain ⟨W', le, s', r'⟩ := sim1.newL hp r2.reverse
      exact h1 _ W' _ le s' r'
    · exact h1.elim
  · exact h1.elim

/-! ### calls -/
theorem c_call (C : Cond T XW P G c X) {i : Nat} {dv : List D} {sm : Fn} {n : Str} {p : Pos} {es : List Expr} {is : IEs} (hp : P i dv sm) (h1 : c.fn i = n) (h2 : glB c.sc n = true) (h3 : nmOk n = true) (ha : PA X (x :: es) (tIs T XW is)) (hc : chkEs c is (x :: es) = true) :
    PE X (.Call (.Name n p) (x :: es) [] pos) (tI T XW (.call i dv sm is)) := by
  obtain ⟨k, f, fd, ps, ds, dvs, F, hm, hkp, hb, hd, hdv, hr⟩ := (C.fn i dv sm hp).ex
  subst h1
  refine ⟨fun pins s σ H Q I h => ?_⟩
  obtain ⟨W, st, σd, sim, rs, h⟩ := h
  simp only [ev] at h
  have hst : noStar x = true := by cases is with
    | nil => simp [chkEs] at hc
    | cons _ _ => simp only [chkEs, Bool.and_eq_true] at hc; exact hc.1.2
  have hpl : (backTo pos (starEach es X.env)).any (·.1) = false := by cases is with
    | nil => simp [chkEs] at hc
    | cons _ _ => simp only [chkEs, Bool.and_eq_true] at hc; exact plain_args hc.2
  refine wpAny_Call_Name_kw (ld_glob I (C.gl' h2) hm ?_ (nmOk.l h3))
  refine PySem.W.callWith_K (h₀ := X.base) I.ok.mod.kin hkp (thn (ha.run pos pins s σ H _ I ⟨W, st, σd, sim, rs, h.bind (RepA T)⟩) fun us s1 ⟨vs, H1, I1, r, q⟩ => ⟨I1.kIn, ?_⟩) (star_cons hst) hpl
  obtain ⟨W1, xs, st1, le1, sim1, r1, h1⟩ := q
  refine run_fnG (E := WE XW σ) F hr C.gd hb hd (passAt C.tk σ) I1 r ⟨W1, st1, xs ++ dv, sim1, r1.append (hdv W1), ?_⟩
  cases e : sm (xs ++ dv) st1 with
  | ok a st => rw [e] at h1; exact h1
  | raise a st => rw [e] at h1; exact h1
  | stuck => rw [e] at h1; exact h1
theorem c_blt (C : Cond T XW P G c X) {b : Blt} {n : Str} {p : Pos} {es : List Expr} {is : IEs} (h0 : c.bk b = true) (h1 : b.nm = n) (h2 : glB c.sc n = true) (h3 : nmOk n = true) (ha : PA X (x :: es) (tIs T XW is)) (hc : chkEs c is (x :: es) = true) :
    PE X (.Call (.Name n p) (x :: es) [] pos) (tI T XW (.blt b is)) := by
  subst h1
  have hst : noStar x = true := by cases is with
    | nil => simp [chkEs] at hc
    | cons _ _ => simp only [chkEs, Bool.and_eq_true] at hc; exact hc.1.2
  have hpl : (backTo pos (starEach es X.env)).any (·.1) = false := by cases is with
    | nil => simp [chkEs] at hc
    | cons _ _ => simp only [chkEs, Bool.and_eq_true] at hc; exact plain_args hc.2
  have rd : ∀ σ H Q, tI T XW (.blt b is) σ H Q → tCB (rBl T b) (tIs T XW is) σ H Q := by
    rintro σ H Q ⟨W, st, σd, sim, rs, h⟩
    simp only [ev] at h
    refine ⟨W, st, σd, sim, rs, (h.bind (RepA T)).imp ?_⟩
    rintro vs H1 ⟨W1, ds, st1, le1, sim1, r1, h1⟩
    obtain ⟨dd, e, h2⟩ := ofO_ok h1
    exact ⟨W1, st1, ds, sim1, r1, dd, e, h2⟩
  have cb := call_blt C.hK C.calm C.gd C.hu b
  have m := C.bl b h0
  cases b
  case gcd => exact PE.imp (pe_callBfun (id := "math.gcd") cb (C.gl' h2) m ha (nmOk.l h3) (star_cons hst) hpl) rd
  case int => exact PE.imp (pe_callTy (T := "int") cb (C.gl' h2) m (by decide +kernel) ha (by decide) (nmOk.l h3) (star_cons hst) hpl) rd
  case str => exact PE.imp (pe_callTy (T := "str") cb (C.gl' h2) m (by decide +kernel) ha (by decide) (nmOk.l h3) (star_cons hst) hpl) rd
  case tuple => exact PE.imp (pe_callTy (T := "tuple") cb (C.gl' h2) m (by decide +kernel) ha (by decide) (nmOk.l h3) (star_cons hst) hpl) rd
  case bool => exact PE.imp (pe_callTy (T := "bool") cb (C.gl' h2) m (by decide +kernel) ha (by decide) (nmOk.l h3) (star_cons hst) hpl) rd
  all_goals exact PE.imp (pe_callB cb (C.gl' h2) m (by decide +kernel) ha (by decide) (nmOk.l h3) (star_cons hst) hpl) rd
theorem c_fz (ha : PE X x (tI T XW a)) : PE X x (tI T XW (.fz a)) := by
  refine PE.imp ha ?_
  rintro σ H Q ⟨W, st, σd, sim, rs, h⟩
  simp only [ev] at h
  refine ⟨W, st, σd, sim, rs, (h.bind (Rep T)).imp ?_⟩
  rintro v H1 ⟨W1, d1, st1, le1, sim1, r1, h1⟩
  split at h1
  · rename_i d2 st2 e
    unfold freeze at e
    split at e
    · split at e
      · rename_i hn
        cases e
        obtain ⟨p, rfl, hp⟩ := rep_ref r1
        obtain ⟨W2, le2, sim2, r2⟩ := sim1.freeze hn hp
        exact h1 _ W2 H1 le2 sim2 r2
      · cases e
    · cases e
      exact h1 _ W1 H1 (.refl _) sim1 r1
  · exact h1.elim
end
end Ip
set_option Elab.async false
set_option linter.all false
set_option maxRecDepth 100000
set_option maxHeartbeats 400000
/-! Targets, isinstance, methods, what is walked, comprehensions. -/
namespace Ip
open PySem PySem.Spec PyProof.Rows L2

section
variable {T : Tb} {XW : WX} {P : Nat → List D → Fn → Prop} {G : Nat → D → Prop} {c : Cfg} {X : Cx} {e x y z : Expr} {a b d : IE} {pos : Pos}
theorem t_ife (hc : PT X e (tIt T XW d)) (ha : PT X x (tIt T XW a)) (hb : PT X y (tIt T XW b)) : PT X (.IfExp e x y pos) (tIt T XW (.ife d a b)) := by
  refine ⟨fun pins s σ H Q I h => ?_⟩
  obtain ⟨W, st, σd, sim, rs, h⟩ := h
  simp only [evt, ev, bind_assoc] at h
  refine isTrue_IfExp (thn (hc.run pins s σ H _ I ⟨W, st, σd, sim, rs, evt_bind (f := fun k st => (if k = true then ev a σd st else ev b σd st).bind fun x st => ofO (truD st x) st) h⟩) fun k s1 ⟨H1, I1, W1, st1, le1, sim1, h1⟩ => ?_)
  cases k with
  | true => exact ha.run pins s1 σ H1 Q I1 ⟨W1, st1, σd, sim1, rs.mono le1, h1⟩
  | false => exact hb.run pins s1 σ H1 Q I1 ⟨W1, st1, σd, sim1, rs.mono le1, h1⟩
theorem c_dct0 : PE X (.Dict [] [] pos) (tI T XW .dct0) := by
  refine PE.imp pe_dnewK ?_
  rintro σ H Q ⟨W, st, σd, sim, rs, h⟩
  simp only [ev] at h
  intro p hp
  obtain ⟨le, s'⟩ := sim.new (o := .dK []) hp
  exact h _ _ _ le s' (.dct0 (by show upd W.F p _ p = _; rw [upd_same]))

/-! ### targets -/
def gT (T : Tb) (t : IT) : TG := fun v σ H Q => ∃ W st σd d σd', Sim T W st H ∧ RepS T W σ σd ∧ Rep T W d v ∧ asgT st t d σd = some σd' ∧
  ∀ σ', RepS T W σ' σd' → σ'.length = σ.length → (∀ j, j ∉ t.vars → σ'[j]? = σ[j]?) → Q σ' H
theorem PG.imp {tg : Expr} {t t' : TG} (h : PG X tg t) (k : ∀ v σ H Q, t' v σ H Q → t v σ H Q) : PG X tg t' := ⟨fun pins s σ H v u Q I r q => h.run pins s σ H v u Q I r (k v σ H Q q)⟩
def gAll : List Nat → TGs
  | [] => gNil
  | i :: is => gCons (gName i) (gAll is)
theorem chkTs_cons {own : Option (List Nat)} {is : List Nat} {e : Expr} {es : List Expr} (h : chkTs c own is (e :: es) = true) : ∃ i r n p, is = i :: r ∧ e = .Name n p ∧ chkN c own i n = true ∧ chkTs c own r es = true := by
  cases is with
  | nil => simp [chkTs] at h
  | cons i r =>
    cases e <;> first | (simp only [chkTs] at h; cases h; done) | skip
    simp only [chkTs, Bool.and_eq_true] at h
    exact ⟨_, _, _, _, rfl, rfl, h.1, h.2⟩
theorem chkTs_nil {own : Option (List Nat)} {is : List Nat} (h : chkTs c own is [] = true) : is = [] := by
  cases is with
  | nil => rfl
  | cons _ _ => simp [chkTs] at h
theorem names_len {own : Option (List Nat)} {env : Env} : ∀ {es : List Expr} {is : List Nat}, chkTs c own is es = true → es.length = is.length ∧ (assignEach es env).length = is.length ∧ (assignEach es env).findIdx? (·.1) = none := by
  intro es
  induction es with
  | nil => intro is h; rw [chkTs_nil h]; exact ⟨rfl, rfl, rfl⟩
  | cons e es ih =>
    intro is h
    obtain ⟨i, r, n, p, rfl, rfl, _, h⟩ := chkTs_cons h
    obtain ⟨h1, h2, h3⟩ := ih h
    refine ⟨by rw [List.length_cons, List.length_cons, h1], ?_, ?_⟩
    · show (_ :: assignEach es env).length = _
      rw [List.length_cons, List.length_cons, h2]
    · show List.findIdx? (·.1) ((false, _) :: assignEach es env) = none
      rw [List.findIdx?_cons, h3]
      rfl
theorem chkN.at (C : Cond T XW P G c X) {own : Option (List Nat)} {i : Nat} {n : Str} (h : chkN c own i n = true) : X.N[i]? = some n ∧ Loc X.env.scope n ∧ (X.fn n = true ∨ X.env.scope.names.lookup n = some .local) := by
  simp only [chkN, Bool.and_eq_true, decide_eq_true_eq] at h
  obtain ⟨h1, h2⟩ := C.wr n h.1.2
  exact ⟨by rw [C.N]; exact h.1.1, h1, h2⟩
theorem names_pg (C : Cond T XW P G c X) {own : Option (List Nat)} : ∀ {es : List Expr} {is : List Nat}, chkTs c own is es = true → PGs X es (gAll is) := by
  intro es
  induction es with
  | nil => intro is h; rw [chkTs_nil h]; exact pgs_nil
  | cons e es ih =>
    intro is h
    obtain ⟨i, r, n, p, rfl, rfl, h0, h⟩ := chkTs_cons h
    obtain ⟨h1, h2, h3⟩ := chkN.at C h0
    exact pgs_cons (pg_name C.nd h1 h2 h3) (ih h)
theorem gAll_of {W : Wd} {H : Hp} : ∀ {is : List Nat} {ds : List D} {vs : List V} {σ : L2.St} {σd σd' : EnvD} {Q : L2.St → Hp → Prop}, RepS T W σ σd → RepA T W ds vs → setAll is ds σd = some σd' →
    (∀ σ', RepS T W σ' σd' → σ'.length = σ.length → (∀ j, j ∉ is → σ'[j]? = σ[j]?) → Q σ' H) → gAll is vs σ H Q
  | [], [], _, σ, σd, σd', Q, rs, .nil, e, q => by
    cases e
    exact ⟨rfl, q σ rs rfl fun _ _ => rfl⟩
  | i :: is, d :: ds, _, σ, σd, σd', Q, rs, .cons r ra, e, q => by
    refine ⟨_, _, rfl, ?_⟩
    rw [setAll] at e
    refine gAll_of (rs.set i r) ra e fun σ' rs' hl hj => q σ' rs' (by rw [hl, List.length_set]) fun j hn => ?_
    simp only [List.mem_cons, not_or] at hn
    rw [hj j hn.2, List.getElem?_set_ne (fun z => hn.1 z.symm)]
  | [], _ :: _, _, _, _, _, _, _, _, e, _ => by simp [setAll] at e
  | _ :: _, [], _, _, _, _, _, _, _, e, _ => by simp [setAll] at e
theorem setAll_len : ∀ {is : List Nat} {ds : List D} {σ σ' : EnvD}, setAll is ds σ = some σ' → ds.length = is.length
  | [], [], _, _, _ => rfl
  | _ :: is, _ :: ds, _, _, e => by rw [setAll] at e; rw [List.length_cons, List.length_cons, setAll_len e]
  | [], _ :: _, _, _, e => by simp [setAll] at e
  | _ :: _, [], _, _, e => by simp [setAll] at e
theorem c_tgt (C : Cond T XW P G c X) {own : Option (List Nat)} {t : IT} {tg : Expr} (h : chkT c own t tg = true) : PG X tg (gT T t) := by
  cases t with
  | nm i =>
    cases tg <;> first | (simp [chkT] at h; done) | skip
    rw [chkT] at h
    obtain ⟨h1, h2, h3⟩ := chkN.at C h
    refine PG.imp (pg_name C.nd h1 h2 h3) ?_
    rintro v σ H Q ⟨W, st, σd, d, σd', sim, rs, r, e, q⟩
    cases e
    exact q _ (rs.set i r) (by rw [List.length_set]) fun j hn => by
      rw [List.getElem?_set_ne (fun z => hn (by rw [IT.vars, List.mem_singleton]; exact z.symm))]
  | tp is =>
    cases tg <;> first | (simp [chkT] at h; done) | skip
    rw [chkT] at h
    obtain ⟨h1, h2, h3⟩ := names_len (env := X.env) h
    refine PG.imp (pg_tup C.calm (names_pg C h) h2 h3) ?_
    rintro v σ H Q ⟨W, st, σd, d, σd', sim, rs, r, e, q⟩
    unfold asgT at e
    simp only at e
    split at e
    · obtain ⟨p, xs, rfl, hx, r2⟩ := rep_tup r
      exact ⟨p, xs, rfl, C.hK ▸ Same.tup sim.sub hx, by rw [← r2.length, setAll_len e], gAll_of rs r2 e q⟩
    · cases e

/-! ### isinstance -/
theorem kit_all (t : Ty) : ∀ {s : String} {b : Bool}, (s = "NoneType" ∧ b = false) ∨ (s = "bool" ∧ b = decide (t = .int ∨ t = .bool)) ∨ (s = "int" ∧ b = decide (t = .int)) ∨ (s = "str" ∧ b = decide (t = .str)) ∨ (s = "tuple" ∧ b = decide (t = .tuple)) ∨ (s = "list" ∧ b = decide (t = .list)) ∨ (s = "dict" ∧ b = decide (t = .dict)) →
    kitB s t.id = some b := by
  rintro s b (⟨rfl, rfl⟩ | ⟨rfl, rfl⟩ | ⟨rfl, rfl⟩ | ⟨rfl, rfl⟩ | ⟨rfl, rfl⟩ | ⟨rfl, rfl⟩ | ⟨rfl, rfl⟩) <;> cases t <;> decide +kernel
theorem boot_ty (t : Ty) : bootBuiltins t.nm = some (.type t.id) := by cases t <;> decide +kernel
theorem c_isi (C : Cond T XW P G c X) {t : Ty} {p1 p2 : Pos} (h1 : c.ik = true) (h2 : c.tk t = true) (h3 : glB c.sc "isinstance" = true) (h4 : glB c.sc t.nm = true) (ha : PE X y (tI T XW a)) (hs : noStar y = true) :
    PE X (.Call (.Name "isinstance" p1) [y, .Name t.nm p2] [] pos) (tI T XW (.isi t a)) := by
  have hz : PE X (.Name t.nm p2) (tC (.ty t.id)) := pe_bltn (C.gl' h4) (C.ty t h2) (boot_ty t) rfl (by cases t <;> decide) (by cases t <;> decide)
  refine PE.imp (pe_callB call_isi (C.gl' h3) (C.isi h1) (by decide +kernel) (pa_cons ha (pa_cons hz pa_nil) (star_cons hs)) (by decide) (by decide) (star_cons hs) rfl) ?_
  rintro σ H Q ⟨W, st, σd, sim, rs, h⟩
  simp only [ev] at h
  refine ⟨W, st, σd, sim, rs, (h.bind (Rep T)).imp ?_⟩
  rintro v H1 ⟨W1, d1, st1, le1, sim1, r1, h1⟩
  obtain ⟨dd, e, h2⟩ := ofO_ok h1
  obtain ⟨k, e, rfl⟩ := Option.map_eq_some_iff.mp e
  have fin : ∀ {s : String}, TyX X.K H1 v (.type s) → kitB s t.id = some k → rIsi X.K [v, .ty t.id] H1 Q := fun ty e => ⟨v, _, _, _, k, rfl, .ty _, ty, kit_ty e, h2 _ W1 H1 (.refl _) sim1 (.bl _)⟩
  show rIsi X.K [v, .ty t.id] H1 Q
  unfold isiD at e
  split at e
  all_goals try (cases e; done)
  · cases r1; cases e; exact fin (.base .non) (kit_all t (.inl ⟨rfl, rfl⟩))
  · cases r1; cases e; exact fin (.base (.bl _)) (kit_all t (.inr (.inl ⟨rfl, by cases t <;> rfl⟩)))
  · cases r1; cases e; exact fin (.base (.int _)) (kit_all t (.inr (.inr (.inl ⟨rfl, by cases t <;> rfl⟩))))
  · cases r1; cases e; exact fin (.base (.str _)) (kit_all t (.inr (.inr (.inr (.inl ⟨rfl, by cases t <;> rfl⟩)))))
  · obtain ⟨p, xs, rfl, hx, r2⟩ := rep_tup r1
    have hx' := C.hK ▸ Same.tup sim1.sub hx
    cases e
    refine fin ?_ (kit_all t (.inr (.inr (.inr (.inr (.inl ⟨rfl, by cases t <;> rfl⟩))))))
    rcases hx' with (q | ⟨o, q⟩) | ⟨o, _, _, q, q2, _⟩
    · exact .base (.tup q)
    · exact .fTuple q
    · exact .kTuple q q2
  · obtain ⟨p, xs, rfl, hx, r2⟩ := rep_lst r1
    have hx' := C.hK ▸ sim1.sub.seq hx
    cases e
    refine fin ?_ (kit_all t (.inr (.inr (.inr (.inr (.inr (.inl ⟨rfl, by cases t <;> rfl⟩)))))))
    rcases hx' with (q | ⟨o, q⟩) | ⟨o, _, _, q, q2, _⟩
    · exact .base (.lst q)
    · exact .base (.frz q)
    · exact .kList q q2
  · cases e
    cases r1 with
    | dct0 hx => exact fin (.base (.dK (sim1.sub _ _ hx))) (kit_all t (.inr (.inr (.inr (.inr (.inr (.inr ⟨rfl, by cases t <;> rfl⟩)))))))

/-! ### methods of lists -/
theorem type_ap : typeOf (.builtin "list.append") = pure (.type "method_descriptor") := by show builtinType _ = _; rw [builtinType_eq_fast]; kernel_rfl
theorem type_pop : typeOf (.builtin "list.pop") = pure (.type "method_descriptor") := by show builtinType _ = _; rw [builtinType_eq_fast]; kernel_rfl
theorem isLst_cell {st : Store} {d : D} (h : isLst st d = true) : ∃ n xs, d = .ref n ∧ st[n]? = some (.lst xs) := by
  unfold isLst at h
  split at h
  · split at h
    · exact ⟨_, _, rfl, by assumption⟩
    · cases h
  · cases h
theorem base_of (h : notCall x = true) (n : Str) (env : Env) (whole : PySem.Sem Value) : attributeBase x n env whole = whole := by
  cases x <;> first | rfl | cases h
theorem few_args : ∀ {es : List Expr} {env : Env} {pos : Pos} {c : Cfg} {irs : IEs}, chkEs c irs es = true → (backTo pos (starEach es env)).all (fun x => !x.1) = true
  | [], _, _, _, _, _ => rfl
  | e :: es, env, pos, c, irs, h => by
    cases irs with
    | nil => simp [chkEs] at h
    | cons i is =>
      simp only [chkEs, Bool.and_eq_true] at h
      rw [star_cons h.1.2]
      show (true && (backTo pos (starEach es env)).all (fun x => !x.1)) = true
      rw [few_args h.2, Bool.and_true]
theorem c_mth (C : Cond T XW P G c X) {m : Mth} {n : Str} {es : List Expr} {is : IEs} {ap : Pos} (h0 : m ≠ .pop) (h1 : m.nm = n) (ho : PE X x (tI T XW a)) (ha : PA X (y :: es) (tIs T XW is)) (hc : chkEs c is (y :: es) = true) (h9 : es.length < 9) (hl : (ap.endLine == pos.line) = true) (hn : notCall x = true) :
    PE X (.Call (.Attribute x n ap) (y :: es) [] pos) (tI T XW (.mth m a is)) := by
  have hst : noStar y = true := by cases is with
    | nil => simp [chkEs] at hc
    | cons _ _ => simp only [chkEs, Bool.and_eq_true] at hc; exact hc.1.2
  have hpl : (backTo pos (starEach es X.env)).any (·.1) = false := by cases is with
    | nil => simp [chkEs] at hc
    | cons _ _ => simp only [chkEs, Bool.and_eq_true] at hc; exact plain_args hc.2
  have hfew : ((backTo pos (starEach (y :: es) X.env)).all (fun x => !x.1) && (backToKw pos (keywordEach [] X.env)).all (fun x => x.1.isSome)
      && decide ((y :: es).length + ([] : List Keyword).length + (if ([] : List Keyword).isEmpty then 0 else 1) < 30)) = true := by
    rw [few_args hc]
    have : decide ((y :: es).length + ([] : List Keyword).length + (if ([] : List Keyword).isEmpty then 0 else 1) < 30) = true := by
      rw [decide_eq_true_eq, List.length_cons]
      simp
      omega
    rw [this]
    rfl
  subst h1
  have rd : ∀ {r : V → List V → Hp → VK → Prop}, (∀ (W : Wd) (st : Store) (p : Nat) (zs : List D) (q : Addr × Addr) (H : Hp) (ds : List D) (vs : List V) (dd : D) (st' : Store) (Q : VK), Sim T W st H → st[p]? = some (.lst zs) → W.φ[p]? = some q → RepA T W ds vs → mthD m st (.ref p) ds = some (dd, st') →
      (∀ b W' H', W.le W' → Sim T W' st' H' → Rep T W' dd b → Q b H') → r (.ref q.1) vs H Q) → ∀ σ H Q, tI T XW (.mth m a is) σ H Q → tBM X.K "list" r (tI T XW a) (tIs T XW is) σ H Q := by
    intro r hr σ H Q ⟨W, st, σd, sim, rs, h⟩
    simp only [ev] at h
    refine ⟨W, st, σd, sim, rs, (h.bind (Rep T)).imp ?_⟩
    rintro v H1 ⟨W1, d1, st1, le1, sim1, r1, h1⟩
    split at h1
    · rename_i hL
      obtain ⟨p, zs, rfl, hp⟩ := isLst_cell hL
      obtain ⟨q, rfl, hq⟩ := rep_ref r1
      obtain ⟨xs, hx, _, _⟩ := sim1.cell _ _ q hp hq
      refine ⟨.inl ⟨rfl, xs, SqL.of hx⟩, W1, st1, σd, sim1, rs.mono le1, (h1.bind (RepA T)).imp ?_⟩
      rintro vs H2 ⟨W2, ds, st2, le2, sim2, r2, h2⟩
      have hq2 := le2.1.at hq
      cases e : mthD m st2 (.ref p) ds with
      | none => rw [e] at h2; exact h2.elim
      | some q' =>
        obtain ⟨dd, st'⟩ := q'
        rw [e] at h2
        have hp2 : ∃ zs2, st2[p]? = some (.lst zs2) := by
          unfold mthD at e
          split at e
          all_goals try (cases e; done)
          all_goals
            rename_i e0
            cases e0
            split at e
            · exact ⟨_, by assumption⟩
            · cases e
        obtain ⟨zs2, hp2⟩ := hp2
        exact hr W2 st2 p zs2 q H2 ds vs dd st' Q sim2 hp2 hq2 r2 e h2
    · exact h1.elim
  cases m
  case append =>
    refine PE.imp (pe_bm PySem.F.plainAttrs_list PySem.F.slot_list_append type_ap (mt_append (X := X)) ho ha (base_of hn _ _ _) hfew hl (star_cons hst) hpl) (rd ?_)
    intro W st p zs q H ds vs dd st' Q sim hp hq ra e k
    cases ds with
    | nil => simp [mthD] at e
    | cons y0 r0 =>
      cases r0 with
      | cons _ _ => simp [mthD] at e
      | nil =>
        simp only [mthD, hp] at e
        split at e
        · rename_i hz
          cases e
          obtain ⟨v, rfl, r⟩ := repA1 ra
          obtain ⟨xs, hx, rz, _⟩ := sim.cell _ _ q hp hq
          refine ⟨q.1, xs, v, rfl, rfl, hx, ?_, ?_⟩
          · rw [← rz.length, sizeLine_eq]; omega
          · exact k _ W _ (.refl _) (sim.write hp hq (rz.append (.cons r .nil))) .non
        · cases e
  case pop => exact absurd rfl h0
  case popAt =>
    refine PE.imp (pe_bm PySem.F.plainAttrs_list PySem.F.slot_list_pop type_pop (mt_popAt (X := X)) ho ha (base_of hn _ _ _) hfew hl (star_cons hst) hpl) (rd ?_)
    intro W st p zs q H ds vs dd st' Q sim hp hq ra e k
    have hall : ∀ {i : Int}, ds = [.int i] → rPopAt (.ref q.1) vs H Q := fun {i} e0 => by
      subst e0
      simp only [mthD, hp] at e
      split at e
      case isFalse => cases e
      rename_i hz
      have hz := szOk.le hz
      rw [sizeLine_eq] at hz
      split at e
      · rename_i j hj
        obtain ⟨y0, hy, e2⟩ := Option.map_eq_some_iff.mp e
        cases e2
        obtain ⟨v, rfl, r⟩ := repA1 ra
        cases rep_int r
        obtain ⟨xs, hx, rz, _⟩ := sim.cell _ _ q hp hq
        obtain ⟨hj1, hj2, hj3, hj4⟩ := ixN_seq hj
        obtain ⟨w, hw, rw⟩ := rz.get hy
        refine ⟨q.1, xs, i, j, w, rfl, rfl, hx, ?_, ?_, by rw [← rz.length]; exact hj1, hw, ?_⟩
        · omega
        · omega
        · exact k _ W _ (.refl _) (sim.write hp hq (rz.erase j)) rw
      · cases e
    cases ds with
    | nil => simp [mthD] at e
    | cons y0 r0 =>
      cases r0 with
      | cons _ _ => simp [mthD] at e
      | nil => cases y0 <;> first | exact hall rfl | (simp [mthD] at e; done)
theorem c_pop (C : Cond T XW P G c X) {ap : Pos} (ho : PE X x (tI T XW a)) (hl : (ap.endLine == pos.line) = true) (hn : notCall x = true) :
    PE X (.Call (.Attribute x "pop" ap) [] [] pos) (tI T XW (.mth .pop a .nil)) := by
  refine PE.imp (pe_bm0 PySem.F.plainAttrs_list PySem.F.slot_list_pop type_pop (mt_pop (X := X)) ho (base_of hn _ _ _) hl) ?_
  rintro σ H Q ⟨W, st, σd, sim, rs, h⟩
  simp only [ev] at h
  refine ⟨W, st, σd, sim, rs, (h.bind (Rep T)).imp ?_⟩
  rintro v H1 ⟨W1, d1, st1, le1, sim1, r1, h1⟩
  split at h1
  · rename_i hL
    obtain ⟨p, zs, rfl, hp⟩ := isLst_cell hL
    obtain ⟨q, rfl, hq⟩ := rep_ref r1
    obtain ⟨xs, hx, rz, _⟩ := sim1.cell _ _ q hp hq
    refine ⟨.inl ⟨rfl, xs, SqL.of hx⟩, ?_⟩
    simp only [evs, Out.bind, mthD, hp] at h1
    cases e : zs[zs.length - 1]? with
    | none => rw [e] at h1; exact h1.elim
    | some y0 =>
      rw [e] at h1
      obtain ⟨w, hw, rw⟩ := rz.get e
      refine ⟨q.1, xs, w, rfl, rfl, hx, by rw [← rz.length]; exact hw, ?_⟩
      exact h1 _ W1 _ (.refl _) (sim1.write hp hq (by rw [List.dropLast_eq_take, List.dropLast_eq_take, rz.length]; exact rz.take _)) rw
  · exact h1.elim

/-! ### what is walked -/
inductive RepIt (T : Tb) (W : Wd) : ItD → It → Prop
  | seqL {ds : List D} {a : Addr} {vs : List V} : SqL T.K W.F a vs → RepA T W ds vs → RepIt T W (.seq ds) (Itl T.K a)
  | seqT {ds : List D} {a : Addr} {vs : List V} : SqT T.K W.F a vs → RepA T W ds vs → RepIt T W (.seq ds) (Itt T.K a)
  | rng (lo : Int) (n : Nat) : RepIt T W (.seq ((List.range n).map fun (k : Nat) => D.int (lo + (k : Int)))) (Itr lo n)
  | cell {n : Nat} {p : Addr × Addr} : W.φ[n]? = some p → RepIt T W (.cell n) (Itl T.K p.1)
theorem RepIt.sub {W W' : Wd} (le : W.Sub W') {it : ItD} {J : It} : RepIt T W it J → RepIt T W' it J
  | .seqL h r => .seqL (le.1.seq h) (r.sub le)
  | .seqT h r => .seqT (Same.tup le.1 h) (r.sub le)
  | .rng lo n => .rng lo n
  | .cell h => .cell (le.at h)
theorem it_next {W : Wd} {st : Store} {H : Hp} {it : ItD} {J : It} {i : Nat} (sim : Sim T W st H) (r : RepIt T W it J) : (nextD it i st = some none → J.stop i H) ∧
    ∀ x, nextD it i st = some (some x) → J.go i H ∧ ∀ v H', J.yld i H v H' → ∃ W', W.le W' ∧ Sim T W' st H' ∧ Rep T W' x v := by
  cases r with
  | @seqL ds p vs h r =>
    have h' := sim.sub.seq h
    refine ⟨fun e => ⟨vs, h', ?_⟩, fun x e => ?_⟩
    · simp only [nextD, Option.some.injEq] at e
      rw [← r.length]; exact List.getElem?_eq_none_iff.mp e
    · simp only [nextD, Option.some.injEq] at e
      obtain ⟨v, hv, rv⟩ := r.get e
      refine ⟨⟨vs, v, h', hv⟩, ?_⟩
      rintro u H' ⟨rfl, k⟩
      have := k vs h'
      rw [hv] at this
      cases this
      exact ⟨W, .refl _, sim, rv⟩
  | @seqT ds p vs h r =>
    have h' := Same.tup sim.sub h
    refine ⟨fun e => ⟨vs, h', ?_⟩, fun x e => ?_⟩
    · simp only [nextD, Option.some.injEq] at e
      rw [← r.length]; exact List.getElem?_eq_none_iff.mp e
    · simp only [nextD, Option.some.injEq] at e
      obtain ⟨v, hv, rv⟩ := r.get e
      refine ⟨⟨vs, v, h', hv⟩, ?_⟩
      rintro u H' ⟨rfl, k⟩
      have := k vs h'
      rw [hv] at this
      cases this
      exact ⟨W, .refl _, sim, rv⟩
  | rng lo n =>
    refine ⟨fun e => ?_, fun x e => ?_⟩
    · simp only [nextD, Option.some.injEq] at e
      have := List.getElem?_eq_none_iff.mp e
      show n ≤ i
      simpa using this
    · simp only [nextD, Option.some.injEq] at e
      obtain ⟨hlt, e⟩ := List.getElem?_eq_some_iff.mp e
      simp only [List.length_map, List.length_range] at hlt
      simp only [List.getElem_map, List.getElem_range] at e
      refine ⟨hlt, ?_⟩
      rintro u H' ⟨rfl, rfl⟩
      exact ⟨W, .refl _, sim, by rw [← e]; exact .int _⟩
  | @cell n p hp =>
    refine ⟨fun e => ?_, fun x e => ?_⟩
    · simp only [nextD] at e
      split at e
      · rename_i xs hn
        obtain ⟨vs, hx, r, _⟩ := sim.cell _ _ p hn hp
        simp only [Option.some.injEq] at e
        exact ⟨vs, SqL.of hx, by rw [← r.length]; exact List.getElem?_eq_none_iff.mp e⟩
      · cases e
    · simp only [nextD] at e
      split at e
      · rename_i xs hn
        obtain ⟨vs, hx, r, _⟩ := sim.cell _ _ p hn hp
        simp only [Option.some.injEq] at e
        obtain ⟨v, hv, rv⟩ := r.get e
        refine ⟨⟨vs, v, SqL.of hx, hv⟩, ?_⟩
        rintro u H' ⟨rfl, k⟩
        have := k vs (SqL.of hx)
        rw [hv] at this
        cases this
        exact ⟨W, .refl _, sim, rv⟩
      · cases e
def tIi (T : Tb) (XW : WX) (it : IIt) : TI := fun σ H R => ∃ W st σd, Sim T W st H ∧ RepS T W σ σd ∧ Pst T XW σ W (fun W (i : ItD) (J : It) => RepIt T W i J) (evi it σd st) R
theorem c_iv (C : Cond T XW P G c X) {tg : Expr} (ha : PE X x (tI T XW a)) : PI X tg x (tIi T XW (.val a)) := by
  refine PI.imp (PI.or (pi_list ha) (pi_tup ha)) ?_
  rintro σ H R ⟨W, st, σd, sim, rs, h⟩
  simp only [evi] at h
  have hb := h.bind (Rep T)
  have both : (∃ d st', ev a σd st = .ok d st' ∧ ∃ xs, d = .tup xs) ∨ ¬ (∃ d st', ev a σd st = .ok d st' ∧ ∃ xs, d = .tup xs) := Classical.em _
  rcases both with ⟨d, st', e, xs, rfl⟩ | hno
  · right
    refine ⟨W, st, σd, sim, rs, ?_⟩
    rw [e] at h ⊢
    intro v W1 H1 le1 sim1 r1
    obtain ⟨p, vs, rfl, hx, r2⟩ := rep_tup r1
    exact ⟨p, rfl, ⟨vs, C.hK ▸ Same.tup sim1.sub hx⟩, h _ W1 H1 le1 sim1 (C.hK ▸ .seqT hx r2)⟩
  · left
    refine ⟨W, st, σd, sim, rs, ?_⟩
    cases e : ev a σd st with
    | stuck => rw [e] at h; exact h.elim
    | raise u st' => rw [e] at h; exact h
    | ok d st' =>
      rw [e] at h
      intro v W1 H1 le1 sim1 r1
      have h1 : Pst T XW σ W1 (fun W (i : ItD) (J : It) => RepIt T W i J) (ofO (itemsD st' d) st') R := Pst.mono le1 h
      obtain ⟨it, e1, h2⟩ := ofO_ok h1
      unfold itemsD at e1
      split at e1
      · obtain ⟨p, vs, rfl, hx, r2⟩ := rep_lst r1
        cases e1
        exact ⟨p, rfl, ⟨vs, C.hK ▸ sim1.sub.seq hx⟩, h2 _ W1 H1 (.refl _) sim1 (C.hK ▸ .seqL hx r2)⟩
      · exact absurd ⟨_, _, e, _, rfl⟩ hno
      · split at e1
        · obtain ⟨p, rfl, hp⟩ := rep_ref r1
          rename_i hn
          obtain ⟨vs, hx, r2, _⟩ := sim1.cell _ _ p hn hp
          cases e1
          exact ⟨p.1, rfl, ⟨vs, SqL.of hx⟩, h2 _ W1 H1 (.refl _) sim1 (C.hK ▸ .cell hp)⟩
        · cases e1
      · cases e1
theorem rangeD_cases {xs : List D} {ys : List D} (h : rangeD xs = some ys) : (∃ j : Int, xs = [.int j] ∧ -(2 ^ 62) ≤ j ∧ j < 2 ^ 62 ∧ ys = (List.range j.toNat).map fun (k : Nat) => D.int (0 + (k : Int))) ∨
    ∃ i j : Int, xs = [.int i, .int j] ∧ (-(2 ^ 62) ≤ i ∧ i < 2 ^ 62 ∧ -(2 ^ 62) ≤ j ∧ j < 2 ^ 62) ∧ ys = (List.range (j - i).toNat).map fun (k : Nat) => D.int (i + (k : Int)) := by
  unfold rangeD at h
  split at h
  · split at h
    · rename_i j hj
      exact .inl ⟨j, rfl, hj.1, hj.2, (Option.some.inj h).symm⟩
    · cases h
  · split at h
    · rename_i i j hj
      exact .inr ⟨i, j, rfl, hj, (Option.some.inj h).symm⟩
    · cases h
  · cases h
theorem c_range (C : Cond T XW P G c X) {tg : Expr} {es : List Expr} {is : IEs} {p : Pos} (h0 : c.rk = true) (hg : glB c.sc "range" = true) (ha : PA X es (tIs T XW is)) (hc : chkEs c is es = true) (hl : es.length = 1 ∨ es.length = 2) : PI X tg (.Call (.Name "range" p) es [] pos) (tIi T XW (.range is)) := by
  have rd : ∀ (n : Nat), n = es.length → ∀ σ H R, tIi T XW (.range is) σ H R → (∀ σd st ds st', evs is σd st = .ok ds st' → ds.length = es.length) → (n = 1 → iRng1 (tIs T XW is) σ H R) ∧ (n = 2 → iRng2 (tIs T XW is) σ H R) := by
    rintro n rfl σ H R ⟨W, st, σd, sim, rs, h⟩ hlen
    simp only [evi] at h
    have key : ∀ {vs : List V} {H1 : Hp} {W1 : Wd} {ds : List D} {st1 : Store}, evs is σd st = .ok ds st1 → Sim T W1 st1 H1 → RepA T W1 ds vs → Pst T XW σ W1 (fun W (i : ItD) (J : It) => RepIt T W i J) (ofO ((rangeD ds).map .seq) st1) R →
        (∃ j : Int, vs = [.int j] ∧ ds.length = 1 ∧ -(2 ^ 62) ≤ j ∧ j < 2 ^ 62 ∧ R (Itr 0 j.toNat) H1) ∨ ∃ i j : Int, vs = [.int i, .int j] ∧ ds.length = 2 ∧ (-(2 ^ 62) ≤ i ∧ i < 2 ^ 62 ∧ -(2 ^ 62) ≤ j ∧ j < 2 ^ 62) ∧ R (Itr i (j - i).toNat) H1 := by
      intro vs H1 W1 ds st1 _ sim1 ra hp
      obtain ⟨it, e0, h2⟩ := ofO_ok hp
      obtain ⟨ys, e1, rfl⟩ := Option.map_eq_some_iff.mp e0
      rcases rangeD_cases e1 with ⟨j, rfl, a1, a2, rfl⟩ | ⟨i, j, rfl, a1, rfl⟩
      · obtain ⟨v, rfl, r⟩ := repA1 ra
        cases rep_int r
        exact .inl ⟨j, rfl, rfl, a1, a2, h2 _ W1 H1 (.refl _) sim1 (.rng 0 _)⟩
      · cases ra with
        | cons r ra => cases ra with
          | cons r' ra =>
            cases ra
            cases rep_int r
            cases rep_int r'
            exact .inr ⟨i, j, rfl, rfl, a1, h2 _ W1 H1 (.refl _) sim1 (.rng i _)⟩
    cases e : evs is σd st with
    | stuck => rw [e] at h; exact h.elim
    | raise u st' => rw [e] at h; exact ⟨fun _ => ⟨W, st, σd, sim, rs, by rw [e]; exact h⟩, fun _ => ⟨W, st, σd, sim, rs, by rw [e]; exact h⟩⟩
    | ok ds st1 =>
      have hn := hlen σd st ds st1 e
      rw [e] at h
      refine ⟨fun h1 => ⟨W, st, σd, sim, rs, ?_⟩, fun h2 => ⟨W, st, σd, sim, rs, ?_⟩⟩
      · rw [e]
        intro vs W1 H1 le1 sim1 ra
        rcases key e sim1 ra (Pst.mono le1 h) with ⟨j, q1, _, q2, q3, q4⟩ | ⟨i, j, q1, q2, _⟩
        · exact ⟨j, q1, q2, q3, q4⟩
        · omega
      · rw [e]
        intro vs W1 H1 le1 sim1 ra
        rcases key e sim1 ra (Pst.mono le1 h) with ⟨j, q1, q2, _⟩ | ⟨i, j, q1, _, q2, q3⟩
        · omega
        · exact ⟨i, j, q1, q2, q3⟩
  have hlen : ∀ (es : List Expr) (is : IEs), chkEs c is es = true → ∀ σd st ds st', evs is σd st = .ok ds st' → ds.length = es.length := by
    intro es
    induction es with
    | nil =>
      intro is h σd st ds st' e
      cases is with
      | nil => rw [evs] at e; cases e; rfl
      | cons _ _ => simp [chkEs] at h
    | cons x0 es ih =>
      intro is h σd st ds st' e
      cases is with
      | nil => simp [chkEs] at h
      | cons i is =>
        simp only [chkEs, Bool.and_eq_true] at h
        simp only [evs] at e
        obtain ⟨d1, st1, _, e⟩ := bind_ok e
        obtain ⟨ds2, st2, e2, e⟩ := bind_ok e
        cases e
        rw [List.length_cons, List.length_cons, ih is h.2 _ _ _ _ e2]
  rcases es with _ | ⟨e1, _ | ⟨e2, _ | ⟨e3, es⟩⟩⟩
  · simp at hl
  · have hs1 : noStar e1 = true := by cases is with
      | nil => simp [chkEs] at hc
      | cons _ _ => simp only [chkEs, Bool.and_eq_true] at hc; exact hc.1.2
    exact PI.imp (pi_range1 (C.gl' hg) (C.rg h0) ha (star_cons hs1)) fun σ H R h => (rd 1 rfl σ H R h (hlen _ is hc)).1 rfl
  · have hs : noStar e1 = true ∧ noStar e2 = true := by
      cases is with
      | nil => simp [chkEs] at hc
      | cons _ is =>
        simp only [chkEs, Bool.and_eq_true] at hc
        refine ⟨hc.1.2, ?_⟩
        cases is with
        | nil => simp [chkEs] at hc
        | cons _ _ => simp only [chkEs, Bool.and_eq_true] at hc; exact hc.2.1.2
    exact PI.imp (pi_range2 (C.gl' hg) (C.rg h0) ha (by rw [star_cons hs.1, star_cons hs.2]; rfl) (star_cons hs.2)) fun σ H R h => (rd 2 rfl σ H R h (hlen _ is hc)).2 rfl
  · simp at hl
end
end Ip
set_option Elab.async false
set_option linter.all false
set_option maxRecDepth 100000
set_option maxHeartbeats 400000
/-! Comprehensions; every term. -/
namespace Ip
open PySem PySem.Spec PyProof.Rows L2

abbrev XW0 : WX := fun _ _ _ _ => False
theorem wipe_get {σ : L2.St} {j : Nat} : ∀ {vs : List Nat}, (wipe σ vs)[j]? = if j ∈ vs then (if j < σ.length then some none else none) else σ[j]?
  | [] => by simp [wipe]
  | v :: vs => by
    rw [wipe, List.getElem?_set, wipe_length, wipe_get (vs := vs)]
    by_cases hv : v = j
    · subst hv; simp
    · have hv' : ¬ j = v := fun z => hv z.symm
      simp [hv, hv']
theorem wipe_same {σ σ2 : L2.St} {vs : List Nat} (hl : σ2.length = (wipe σ vs).length) (hj : ∀ j, j ∉ vs → σ2[j]? = (wipe σ vs)[j]?) : wipe σ2 vs = wipe σ vs := by
  rw [wipe_length] at hl
  apply List.ext_getElem?
  intro j
  rw [wipe_get, wipe_get]
  by_cases h : j ∈ vs
  · rw [if_pos h, if_pos h, hl]
  · rw [if_neg h, if_neg h, hj j h, wipe_get, if_neg h]
theorem own_ix (N : List Str) (own : List Nat) : (ownOf N own).map (·.2) = own := by
  unfold ownOf
  rw [List.map_map]
  exact List.map_id' own
theorem vars_own {c : Cfg} {own : List Nat} {tg : IT} {e : Expr} (h : chkT c (some own) tg e = true) : ∀ j ∈ tg.vars, j ∈ own := by
  have key : ∀ {es : List Expr} {is : List Nat}, chkTs c (some own) is es = true → ∀ j ∈ is, j ∈ own := by
    intro es
    induction es with
    | nil => intro is h; rw [chkTs_nil h]; intro j hj; cases hj
    | cons e es ih =>
      intro is h j hj
      obtain ⟨i, r, n, p, rfl, rfl, h1, h2⟩ := chkTs_cons h
      simp only [chkN, Bool.and_eq_true] at h1
      rcases List.mem_cons.mp hj with rfl | hj
      · exact List.contains_iff_mem.mp h1.2
      · exact ih h2 j hj
  cases tg with
  | nm i =>
    cases e <;> first | (simp [chkT] at h; done) | skip
    simp only [chkT, chkN, Bool.and_eq_true] at h
    intro j hj
    rw [IT.vars, List.mem_singleton] at hj
    subst hj
    exact List.contains_iff_mem.mp h.2
  | tp is =>
    cases e <;> first | (simp [chkT] at h; done) | skip
    simp only [chkT] at h
    exact key h
section
variable {T : Tb} {XW : WX} {P : Nat → List D → Fn → Prop} {G : Nat → D → Prop} {c : Cfg} {X : Cx}
theorem Cond.blk (C : Cond T XW P G c X) (scope : Scope) (s : Shared) (H : Hp) (C0 : Addr) (cl : List (Str × Addr)) (fp : List Addr) : Cond T XW0 P G (c.blk scope) (X.blk s H scope (compEnvC scope cl C0 X.env) fp) where
  hK := C.hK
  sc := by
    show relS scope X.env.scope = relS scope c.sc
    rw [C.sc]
  N := C.N
  nd := C.nd
  calm := C.calm
  gd := C.gd
  room := C.room
  tk := takes_none5
  wr := fun x h => by
    have hk : ∀ k : NameKind, k ≠ .free → scope.names.lookup x = some k → (relS scope X.env.scope).names.lookup x = some k := fun k hk e => lookup_relS_keep hk e
    rcases locB.loc h with z | z
    · exact ⟨.inl (hk _ (by simp) z), .inr (hk _ (by simp) z)⟩
    · exact ⟨.inr (hk _ (by simp) z), .inl (by have z' : scope.names.lookup x = some NameKind.cell := z; show (scope.names.lookup x == some NameKind.cell) = true; rw [z']; rfl)⟩
  bl := C.bl
  isi := C.isi
  ty := C.ty
  rg := C.rg
  fn := fun i dv sm hp => let ⟨q⟩ := C.fn i dv sm hp; ⟨q⟩
  gl := C.gl
theorem noRaise_ok {α : Type} {o : Out α} {r : α} {st : Store} (h : noRaise o = .ok r st) : o = .ok r st := by
  cases o <;> first | exact h | cases h
theorem noRaise_bind {α β γ δ : Type} {σ : L2.St} {W : Wd} {R : Wd → β → δ → Prop} {o : Out α} {f : α → Store → Out γ} {g : γ → Store → Out β} {Q : δ → Hp → Prop} (h : Pst T XW σ W R (((noRaise o).bind f).bind g) Q) : ∃ a st, o = .ok a st := by
  cases o with
  | ok a st => exact ⟨a, st, rfl⟩
  | raise x st => exact h.elim
  | stuck => exact h.elim
/-- a turn's element -/
def turnD (tg : IT) (cond elt : IE) (σ : EnvD) (x : D) (st : Store) : Out (Option D) := match asgT st tg x σ with
  | none => .stuck
  | some σ' => noRaise ((ev cond σ' st).bind fun c st => (ofO (truD st c) st).bind fun k st => if k = true then (ev elt σ' st).bind fun y st => .ok (some y) st else .ok none st)
theorem turnD_cases {tg : IT} {cond elt : IE} {σ : EnvD} {x : D} {st st' : Store} {r : Option D} (h : turnD tg cond elt σ x st = .ok r st') : ∃ σ' stc k, asgT st tg x σ = some σ' ∧ evt cond σ' st = .ok k stc ∧
    ((k = true ∧ ∃ y, ev elt σ' stc = .ok y st' ∧ r = some y) ∨ (k = false ∧ st' = stc ∧ r = none)) := by
  unfold turnD at h
  split at h
  · cases h
  · rename_i σ' e
    have h := noRaise_ok h
    obtain ⟨cv, st1, e1, h⟩ := bind_ok h
    obtain ⟨k, st2, e2, h⟩ := bind_ok h
    have et : evt cond σ' st = .ok k st2 := by
      unfold evt
      rw [e1]
      exact e2
    refine ⟨σ', st2, k, e, et, ?_⟩
    split at h
    · rename_i hk
      obtain ⟨y, st3, e3, h⟩ := bind_ok h
      cases h
      exact .inl ⟨hk, y, e3, rfl⟩
    · rename_i hk
      cases h
      exact .inr ⟨by simpa using hk, rfl, rfl⟩
theorem lc_read {t : Bool} {own : List Nat} {it : IIt} {tg : IT} {cond elt : IE} {cc : Cfg} {tge : Expr} (ht : chkT cc (some own) tg tge = true) :
    ∀ (σ : L2.St) (H : Hp) (Q : VK), tI T XW (.comp t own it tg cond elt) σ H Q → tLc (tIi T XW it) (gT T tg) (tIt T XW0 cond) (tI T XW0 elt) own σ H Q := by
  rintro σ H Q ⟨W, st, σd, sim, rs, h⟩
  have h' : Pst T XW σ W (Rep T) ((evi it σd st).bind fun its st => (compRun (turnD tg cond elt (wipeD σd own)) its fuelD 0 [] st).bind fun ys st => newLst t ys st) Q := by
    simp only [ev] at h
    exact h
  refine ⟨W, st, σd, sim, rs, (h'.bind (fun W (i : ItD) (J : It) => RepIt T W i J)).imp ?_⟩
  rintro J H1 ⟨Wa, itd, st1, le1, sim1, rit, h1⟩
  intro D hD
  refine ⟨fun i m H => ∃ W1 st1 acc accv, Sim T W1 st1 H ∧ W1.h = (D, .lst accv) :: Wa.h ∧ Wa.Sub W1 ∧ RepA T W1 acc accv ∧ Pst T XW σ Wa (Rep T) ((compRun (turnD tg cond elt (wipeD σd own)) itd m i acc st1).bind fun ys st => newLst t ys st) Q,
    ⟨fuelD, ⟨Wa.F, Wa.φ, (D, .lst []) :: Wa.h⟩, st1, [], [], sim1.hold hD, rfl, ⟨Same.refl _, [], by simp⟩, .nil, h1⟩, ?_⟩
  rintro i m H2 ⟨W2, st2, acc, accv, sim2, hh2, sub2, racc, h2⟩
  cases m with
  | zero => exact h2.elim
  | succ f =>
    rw [compRun] at h2
    obtain ⟨n1, n2⟩ := it_next (i := i) sim2 (rit.sub sub2)
    cases hn : nextD itd i st2 with
    | none => rw [hn] at h2; exact h2.elim
    | some r =>
      cases r with
      | none =>
        rw [hn] at h2
        left
        refine ⟨n1 hn, ?_⟩
        have h3 : Pst T XW σ Wa (Rep T) (newLst t acc st2) Q := h2
        unfold newLst at h3
        split at h3
        · obtain ⟨W', s', hh, sim', r'⟩ := sim2.settleCell hh2 racc
          exact h3 _ W' H2 ⟨sub2.trans s', hh⟩ sim' r'
        · obtain ⟨W', s', hh, sim', r'⟩ := sim2.settle hh2 racc
          exact h3 _ W' H2 ⟨sub2.trans s', hh⟩ sim' r'
      | some x =>
        rw [hn] at h2
        right
        obtain ⟨go, yl⟩ := n2 x hn
        refine ⟨go, _, fun H' q => q, fun v H3 hy => ?_⟩
        obtain ⟨W3, le3, sim3, rx⟩ := yl v H3 hy
        have h2' : Pst T XW σ Wa (Rep T) (((turnD tg cond elt (wipeD σd own) x st2).bind fun r st1 => match r with
          | some y => if acc.length < 1000000 then compRun (turnD tg cond elt (wipeD σd own)) itd f (i + 1) (acc ++ [y]) st1 else .stuck
          | none => compRun (turnD tg cond elt (wipeD σd own)) itd f (i + 1) acc st1).bind fun ys st => newLst t ys st) Q := h2
        have hok : ∃ r st3, turnD tg cond elt (wipeD σd own) x st2 = .ok r st3 := by
          cases e : turnD tg cond elt (wipeD σd own) x st2 with
          | ok r st3 => exact ⟨r, st3, rfl⟩
          | raise u st3 =>
            exfalso
            unfold turnD at e
            split at e
            · cases e
            · revert e
              generalize (Out.bind _ _ : Out (Option Ip.D)) = o
              intro e
              cases o <;> cases e
          | stuck => rw [e] at h2'; exact h2'.elim
        obtain ⟨r, st3, e⟩ := hok
        rw [e] at h2'
        obtain ⟨σ', stc, k, ea, et, hk⟩ := turnD_cases e
        have sub3 : Wa.Sub W3 := sub2.trans le3.1
        have rs3 : RepS T W3 (wipe σ own) (wipeD σd own) := ((rs.mono le1).sub sub3).wipe own
        refine ⟨W3, st2, wipeD σd own, x, σ', sim3, rs3, rx, ea, fun σ2 rs2 hl hj => ⟨wipe_same hl fun j hn => hj j fun z => hn (vars_own ht j z), ?_⟩⟩
        refine ⟨W3, st2, σ', sim3, rs2, ?_⟩
        rw [et]
        rintro k' W4 H4 le4 sim4 rfl
        rcases hk with ⟨rfl, y0, ee, rfl⟩ | ⟨rfl, rfl, rfl⟩
        · rw [if_pos rfl]
          refine ⟨W4, stc, σ', sim4, rs2.mono le4, ?_⟩
          rw [ee]
          intro yv W5 H5 le5 sim5 ry
          have hh5 : W5.h = (D, .lst accv) :: Wa.h := by rw [le5.2, le4.2, le3.2, hh2]
          obtain ⟨hD5, _⟩ := sim5.held (D, .lst accv) (by rw [hh5]; exact List.mem_cons_self)
          have hlt : acc.length < 1000000 := by
            refine Classical.byContradiction fun hn => ?_
            have z : Pst T XW σ Wa (Rep T) ((if acc.length < 1000000 then compRun (turnD tg cond elt (wipeD σd own)) itd f (i + 1) (acc ++ [y0]) st3 else .stuck : Out (List Ip.D)).bind fun ys st => newLst t ys st) Q := h2'
            rw [if_neg hn] at z
            exact z.elim
          have h6 : Pst T XW σ Wa (Rep T) ((if acc.length < 1000000 then compRun (turnD tg cond elt (wipeD σd own)) itd f (i + 1) (acc ++ [y0]) st3 else .stuck : Out (List Ip.D)).bind fun ys st => newLst t ys st) Q := h2'
          rw [if_pos hlt] at h6
          refine ⟨accv, hD5, by rw [← racc.length, sizeLine_eq]; omega, f, Nat.lt_succ_self f, ⟨W5.F, W5.φ, (D, .lst (accv ++ [yv])) :: Wa.h⟩, st3, acc ++ [y0], accv ++ [yv], sim5.rehold hh5, rfl, ?_, ?_, h6⟩
          · exact (sub3.trans (le4.1.trans le5.1)).trans ⟨Same.refl _, [], by simp⟩
          · exact RepA.sub (W := W5) (W' := ⟨W5.F, W5.φ, (D, .lst (accv ++ [yv])) :: Wa.h⟩) ⟨Same.refl _, [], by simp⟩ (((racc.sub le3.1).sub le4.1).sub le5.1 |>.append (.cons ry .nil))
        · rw [if_neg (by simp)]
          exact ⟨f, Nat.lt_succ_self f, W4, _, acc, accv, sim4, by rw [le4.2, le3.2, hh2], sub3.trans le4.1, (racc.sub le3.1).sub le4.1, h2'⟩
theorem c_comp (C : Cond T XW P G c X) {t : Bool} {own : List Nat} {it : IIt} {tg : IT} {cond elt : IE} {tge i y : Expr} {ifs : List Expr} {scope : Scope} {pos : Pos} (hi : PI X tge i (tIi T XW it)) (hns : notSet i = true)
    (hb : blkC c.N c.sc scope (ownOf c.N own) = true) (ht : chkT (c.blk scope) (some own) tg tge = true)
    (hcond : ∀ (s : Shared) (H : Hp) (C0 : Addr) (cl : List (Str × Addr)) (fp : List Addr), PTs (X.blk s H scope (compEnvC scope cl C0 X.env) fp) ifs (tIt T XW0 cond))
    (helt : ∀ (s : Shared) (H : Hp) (C0 : Addr) (cl : List (Str × Addr)) (fp : List Addr), PE (X.blk s H scope (compEnvC scope cl C0 X.env) fp) y (tI T XW0 elt)) :
    PE X (.ListComp y [⟨tge, i, ifs, 0⟩] scope pos) (tI T XW (.comp t own it tg cond elt)) := by
  have hbk : BlkOk X.N X.env.scope scope (ownOf c.N own) := by rw [C.N, C.sc]; exact blkOk_by hb
  have hfs : ∀ x, foldedSetIterable i X.env x = pure x := by
    intro x
    cases i <;> first | rfl | cases hns
  refine PE.imp (pe_lc C.calm C.nd hi hbk (fun s H C0 cl fp => c_tgt (C.blk scope s H C0 cl fp) ht) hcond helt hfs) ?_
  rw [own_ix]
  exact lc_read ht
end
end Ip
set_option Elab.async false
set_option linter.all false
set_option maxRecDepth 100000
set_option maxHeartbeats 1000000
/-! Every term. -/
namespace Ip
open PySem PySem.Spec PyProof.Rows L2

mutual
def okE (P : Nat → List D → Fn → Prop) (G : Nat → D → Prop) : IE → Prop
  | .var _ => True
  | .con _ => True
  | .glob i d => G i d
  | .bin _ a b => okE P G a ∧ okE P G b
  | .un _ a => okE P G a
  | .cmp _ a b => okE P G a ∧ okE P G b
  | .chain _ _ a b c => okE P G a ∧ okE P G b ∧ okE P G c
  | .and a b => okE P G a ∧ okE P G b
  | .or a b => okE P G a ∧ okE P G b
  | .not a => okE P G a
  | .ife c a b => okE P G c ∧ okE P G a ∧ okE P G b
  | .tup es => okEs P G es
  | .lst _ es => okEs P G es
  | .dct0 => True
  | .sub a b => okE P G a ∧ okE P G b
  | .slice a l h => okE P G a ∧ okE P G l ∧ okE P G h
  | .rev a => okE P G a
  | .no => True
  | .call f dv sm es => P f dv sm ∧ okEs P G es
  | .blt _ es => okEs P G es
  | .isi _ e => okE P G e
  | .mth _ o es => okE P G o ∧ okEs P G es
  | .comp _ _ it _ c e => okI P G it ∧ okE P G c ∧ okE P G e
  | .fz e => okE P G e
def okEs (P : Nat → List D → Fn → Prop) (G : Nat → D → Prop) : IEs → Prop
  | .nil => True
  | .cons e es => okE P G e ∧ okEs P G es
def okI (P : Nat → List D → Fn → Prop) (G : Nat → D → Prop) : IIt → Prop
  | .val e => okE P G e
  | .range es => okEs P G es
end

section
variable {T : Tb} {P : Nat → List D → Fn → Prop} {G : Nat → D → Prop}
def Good (T : Tb) (XW : WX) (X : Cx) (a : IE) (e : Expr) : Prop := PE X e (tI T XW a) ∧ PT X e (tIt T XW a) ∧ ∀ op es p, e = .BoolOp op es p → PW X e (tIt T XW a)
theorem Good.plain {XW : WX} {c : Cfg} {X : Cx} {a : IE} {e : Expr} (C : Cond T XW P G c X) (h : PE X e (tI T XW a)) (hp : plainT e = true) : Good T XW X a e :=
  ⟨h, t_plain C h hp, fun op es p q => by subst q; cases hp⟩
theorem conB_v {d : D} {k : Const} {n : Nat} {pos : Pos} {X : Cx} (h : conB d k = true) : ∃ v, (∀ W, Rep T W d v) ∧ PE X (.Constant k n pos) (tC v) := by
  cases d <;> cases k <;> simp only [conB, Bool.false_eq_true] at h
  · exact ⟨.non, fun _ => .non, pe_non⟩
  · rename_i a b
    have : a = b := by simpa using h
    subst this
    exact ⟨.bl a, fun _ => .bl _, pe_bl⟩
  · rename_i a b
    have : a = b := by simpa using h
    subst this
    exact ⟨.int a, fun _ => .int _, pe_int⟩
  · rename_i a b
    have : a = b := by simpa using h
    subst this
    exact ⟨.str a, fun _ => .str _, pe_str⟩
theorem right_of {XW : WX} {X : Cx} {b : IE} {op : BoolOp} {y : Expr} {r : List Expr} {p : Pos} (h : Good T XW X b (stripB (.BoolOp op (y :: r) p))) : PE X (.BoolOp op (y :: r) p) (tI T XW b) ∧ PW X (.BoolOp op (y :: r) p) (tIt T XW b) := by
  cases r with
  | nil =>
    obtain ⟨h1, h2, _⟩ := h
    have h1 : PE X y (tI T XW b) := h1
    have h2 : PT X y (tIt T XW b) := h2
    refine ⟨pe_one h1, ?_⟩
    cases op
    · exact pw_and1 h2
    · exact pw_or1 h2
  | cons z r =>
    obtain ⟨h1, _, h3⟩ := h
    exact ⟨h1, h3 _ _ _ rfl⟩
mutual
theorem mE : ∀ (a : IE) {XW : WX} {c : Cfg} {X : Cx} (e : Expr), Cond T XW P G c X → okE P G a → chkE c a e = true → Good T XW X a e
  | .var i, XW, c, X, e, C, ok, h => by
    cases e <;> first | (exact absurd h Bool.false_ne_true) | skip
    simp only [chkE, Bool.and_eq_true, decide_eq_true_eq] at h
    exact .plain C (c_var C h.1.1 h.1.2 h.2) rfl
  | .con d, XW, c, X, e, C, ok, h => by
    cases e <;> first | (exact absurd h Bool.false_ne_true) | skip
    simp only [chkE] at h
    obtain ⟨v, h1, h2⟩ := conB_v (T := T) h
    exact .plain C (c_con h1 h2) rfl
  | .glob i d, XW, c, X, e, C, ok, h => by
    cases e <;> first | (exact absurd h Bool.false_ne_true) | skip
    simp only [chkE, Bool.and_eq_true, decide_eq_true_eq] at h
    exact .plain C (c_glob C ok h.1.1 h.1.2 h.2) rfl
  | .bin o a b, XW, c, X, e, C, ok, h => by
    cases e <;> first | (exact absurd h Bool.false_ne_true) | skip
    simp only [chkE, Bool.and_eq_true, decide_eq_true_eq] at h
    obtain ⟨⟨rfl, h1⟩, h2⟩ := h
    exact .plain C (c_bin C (mE a _ C ok.1 h1).1 (mE b _ C ok.2 h2).1) rfl
  | .un o a, XW, c, X, e, C, ok, h => by
    cases o <;> cases e <;> first | (exact absurd h Bool.false_ne_true) | skip
    rename_i op y p
    cases op <;> first | (exact absurd h Bool.false_ne_true) | skip
    simp only [chkE] at h
    exact .plain C (c_neg (mE a _ C ok h).1) rfl
  | .cmp o a b, XW, c, X, e, C, ok, h => by
    cases e <;> first | (exact absurd h Bool.false_ne_true) | skip
    rename_i x ops ys p
    rcases ops with _ | ⟨op, _ | _⟩ <;> rcases ys with _ | ⟨y, _ | _⟩ <;> first | (exact absurd h Bool.false_ne_true) | skip
    simp only [chkE, Bool.and_eq_true, decide_eq_true_eq, Bool.not_eq_true'] at h
    obtain ⟨⟨⟨rfl, h1⟩, h2⟩, h3⟩ := h
    exact ⟨c_cmp C (mE a _ C ok.1 h1).1 (mE b _ C ok.2 h2).1 h3, t_cmp C (mE a _ C ok.1 h1).1 (mE b _ C ok.2 h2).1 h3, fun _ _ _ q => nomatch q⟩
  | .chain o1 o2 a b d, XW, c, X, e, C, ok, h => by
    cases e <;> first | (exact absurd h Bool.false_ne_true) | skip
    rename_i x ops ys p
    rcases ops with _ | ⟨p1, _ | ⟨p2, _ | _⟩⟩ <;> rcases ys with _ | ⟨y, _ | ⟨z, _ | _⟩⟩ <;> first | (exact absurd h Bool.false_ne_true) | skip
    simp only [chkE, Bool.and_eq_true, decide_eq_true_eq, Bool.not_eq_true'] at h
    obtain ⟨⟨⟨⟨⟨rfl, rfl⟩, h1⟩, h2⟩, h3⟩, h4⟩ := h
    have i1 := (mE a _ C ok.1 h1).1
    have i2 := (mE b _ C ok.2.1 h2).1
    have i3 := (mE d _ C ok.2.2 h3).1
    exact ⟨c_chain C i1 i2 i3 h4, t_chain C i1 i2 i3 h4, fun _ _ _ q => nomatch q⟩
  | .and a b, XW, c, X, e, C, ok, h => by
    cases e <;> first | (exact absurd h Bool.false_ne_true) | skip
    rename_i op es p
    rcases es with _ | ⟨x, _ | ⟨y, r⟩⟩ <;> cases op <;> first | (exact absurd h Bool.false_ne_true) | skip
    simp only [chkE, Bool.and_eq_true] at h
    obtain ⟨a1, a2, _⟩ := mE a _ C ok.1 h.1
    obtain ⟨b1, b2⟩ := right_of (mE b _ C ok.2 h.2)
    have w := t_and (pos := p) a2 b2
    exact ⟨c_and C a1 b1, w.pt, fun _ _ _ q => by cases q; exact w⟩
  | .or a b, XW, c, X, e, C, ok, h => by
    cases e <;> first | (exact absurd h Bool.false_ne_true) | skip
    rename_i op es p
    rcases es with _ | ⟨x, _ | ⟨y, r⟩⟩ <;> cases op <;> first | (exact absurd h Bool.false_ne_true) | skip
    simp only [chkE, Bool.and_eq_true] at h
    obtain ⟨a1, a2, _⟩ := mE a _ C ok.1 h.1
    obtain ⟨b1, b2⟩ := right_of (mE b _ C ok.2 h.2)
    have w := t_or (pos := p) a2 b2
    exact ⟨c_or C a1 b1, w.pt, fun _ _ _ q => by cases q; exact w⟩
  | .not a, XW, c, X, e, C, ok, h => by
    cases e <;> first | (exact absurd h Bool.false_ne_true) | skip
    rename_i op y p
    cases op <;> first | (exact absurd h Bool.false_ne_true) | skip
    simp only [chkE] at h
    obtain ⟨a1, a2, _⟩ := mE a _ C ok h
    exact ⟨c_not C a1, t_not a2, fun _ _ _ q => nomatch q⟩
  | .ife d a b, XW, c, X, e, C, ok, h => by
    cases e <;> first | (exact absurd h Bool.false_ne_true) | skip
    simp only [chkE, Bool.and_eq_true] at h
    obtain ⟨d1, d2, _⟩ := mE d _ C ok.1 h.1.1
    obtain ⟨a1, a2, _⟩ := mE a _ C ok.2.1 h.1.2
    obtain ⟨b1, b2, _⟩ := mE b _ C ok.2.2 h.2
    exact ⟨c_ife d2 a1 b1, t_ife d2 a2 b2, fun _ _ _ q => nomatch q⟩
  | .tup es, XW, c, X, e, C, ok, h => by
    cases e <;> first | (exact absurd h Bool.false_ne_true) | skip
    simp only [chkE] at h
    exact .plain C (c_tup (mEs es _ C ok h)) rfl
  | .lst t es, XW, c, X, e, C, ok, h => by
    cases e <;> first | (exact absurd h Bool.false_ne_true) | skip
    simp only [chkE] at h
    exact .plain C (c_lst (mEs es _ C ok h)) rfl
  | .dct0, XW, c, X, e, C, ok, h => by
    cases e <;> first | (exact absurd h Bool.false_ne_true) | skip
    rename_i ks vs p
    cases ks <;> cases vs <;> first | (exact absurd h Bool.false_ne_true) | skip
    exact .plain C c_dct0 rfl
  | .sub a b, XW, c, X, e, C, ok, h => by
    cases e <;> first | (exact absurd h Bool.false_ne_true) | skip
    simp only [chkE, Bool.and_eq_true] at h
    exact .plain C (c_sub C (mE a _ C ok.1 h.1.1).1 (mE b _ C ok.2 h.1.2).1 h.2) rfl
  | .slice a lo hi, XW, c, X, e, C, ok, h => by
    cases e <;> first | (exact absurd h Bool.false_ne_true) | skip
    rename_i x s p
    cases s <;> first | (exact absurd h Bool.false_ne_true) | skip
    rename_i l u st p2
    cases st <;> first | (exact absurd h Bool.false_ne_true) | skip
    simp only [chkE, Bool.and_eq_true] at h
    obtain ⟨⟨h1, h2⟩, h3⟩ := h
    have i1 := (mE a _ C ok.1 h1).1
    have hno : ∀ {z : IE}, isNo z = true → z = .no := fun {z} q => by cases z <;> first | rfl | exact absurd q Bool.false_ne_true
    have hne : ∀ {z : IE} {u : Expr}, chkE c z u = true → z ≠ .no := fun {z u} q => by
      rintro rfl
      cases u <;> exact absurd q Bool.false_ne_true
    have i2 : PO X l (tIo T XW lo) := by
      cases l with
      | none => rw [hno h2]; exact o_none
      | some u => exact o_some (mE lo _ C ok.2.1 h2).1 (hne h2)
    have i3 : PO X u (tIo T XW hi) := by
      cases u with
      | none => rw [hno h3]; exact o_none
      | some u => exact o_some (mE hi _ C ok.2.2 h3).1 (hne h3)
    exact .plain C (c_slice C i1 i2 i3) rfl
  | .rev a, XW, c, X, e, C, ok, h => by
    cases e <;> first | (exact absurd h Bool.false_ne_true) | skip
    rename_i x s p
    cases s <;> first | (exact absurd h Bool.false_ne_true) | skip
    rename_i l u st p2
    cases l <;> cases u <;> cases st <;> first | (exact absurd h Bool.false_ne_true) | skip
    rename_i st
    cases st <;> first | (exact absurd h Bool.false_ne_true) | skip
    rename_i op k p3
    cases op <;> cases k <;> first | (exact absurd h Bool.false_ne_true) | skip
    rename_i k n p4
    cases k <;> first | (exact absurd h Bool.false_ne_true) | skip
    simp only [chkE, Bool.and_eq_true, decide_eq_true_eq] at h
    obtain ⟨rfl, h⟩ := h
    exact .plain C (c_rev C (mE a _ C ok h).1) rfl
  | .no, XW, c, X, e, C, ok, h => by
    cases e <;> exact absurd h Bool.false_ne_true
  | .call f dv sm es, XW, c, X, e, C, ok, h => by
    cases e <;> first | (exact absurd h Bool.false_ne_true) | skip
    rename_i g as ks p
    cases g <;> first | (exact absurd h Bool.false_ne_true) | skip
    rcases as with _ | ⟨y, ys⟩ <;> rcases ks with _ | _ <;> first | (exact absurd h Bool.false_ne_true) | skip
    simp only [chkE, Bool.and_eq_true, decide_eq_true_eq] at h
    obtain ⟨⟨⟨h1, h2⟩, h3⟩, h4⟩ := h
    exact .plain C (c_call C ok.1 h1 h2 h3 (mEs es _ C ok.2 h4) h4) rfl
  | .blt b es, XW, c, X, e, C, ok, h => by
    cases e <;> first | (exact absurd h Bool.false_ne_true) | skip
    rename_i g as ks p
    cases g <;> first | (exact absurd h Bool.false_ne_true) | skip
    rcases as with _ | ⟨y, ys⟩ <;> rcases ks with _ | _ <;> first | (exact absurd h Bool.false_ne_true) | skip
    simp only [chkE, Bool.and_eq_true, decide_eq_true_eq] at h
    obtain ⟨⟨⟨⟨h0, h1⟩, h2⟩, h3⟩, h4⟩ := h
    exact .plain C (c_blt C h0 h1 h2 h3 (mEs es _ C ok h4) h4) rfl
  | .isi t a, XW, c, X, e, C, ok, h => by
    cases e <;> first | (exact absurd h Bool.false_ne_true) | skip
    rename_i g as ks p
    cases g <;> first | (exact absurd h Bool.false_ne_true) | skip
    rcases as with _ | ⟨y, _ | ⟨z, _ | _⟩⟩ <;> rcases ks with _ | _ <;> first | (exact absurd h Bool.false_ne_true) | (cases z <;> first | (exact absurd h Bool.false_ne_true) | skip)
    simp only [chkE, Bool.and_eq_true, decide_eq_true_eq] at h
    obtain ⟨⟨⟨⟨⟨⟨⟨h1, h2⟩, rfl⟩, h3⟩, rfl⟩, h4⟩, h5⟩, h6⟩ := h
    exact .plain C (c_isi C h1 h2 h3 h4 (mE a _ C ok h5).1 h6) rfl
  | .mth m o es, XW, c, X, e, C, ok, h => by
    cases e <;> first | (exact absurd h Bool.false_ne_true) | skip
    rename_i g as ks p
    cases g <;> first | (exact absurd h Bool.false_ne_true) | skip
    rcases as with _ | ⟨y, ys⟩ <;> rcases ks with _ | _ <;> first | (exact absurd h Bool.false_ne_true) | skip
    · cases es <;> cases m <;> first | (exact absurd h Bool.false_ne_true) | skip
      simp only [chkE, Bool.and_eq_true, decide_eq_true_eq] at h
      obtain ⟨⟨⟨rfl, h1⟩, h2⟩, h3⟩ := h
      exact .plain C (c_pop C (mE o _ C ok.1 h1).1 h2 h3) rfl
    · rename_i g0 n0 ap0
      replace h : (decide (m ≠ .pop) && decide (m.nm = n0) && chkE c o g0 && chkEs c es (y :: ys) && decide (ys.length < 9) && (ap0.endLine == p.line) && notCall g0) = true := by
        cases m <;> cases es <;> exact h
      simp only [Bool.and_eq_true, decide_eq_true_eq] at h
      obtain ⟨⟨⟨⟨⟨⟨h0, h1⟩, h2⟩, h3⟩, h4⟩, h5⟩, h6⟩ := h
      exact .plain C (c_mth C h0 h1 (mE o _ C ok.1 h2).1 (mEs es _ C ok.2 h3) h3 h4 h5 h6) rfl
  | .comp t own it tg cond elt, XW, c, X, e, C, ok, h => by
    cases e <;> first | (exact absurd h Bool.false_ne_true) | skip
    rename_i y gens scope p
    rcases gens with _ | ⟨⟨tge, i, ifs, n⟩, _ | _⟩ <;> first | (exact absurd h Bool.false_ne_true) | skip
    replace h : (decide (n = 0) && chkI c it i && notSet i && blkC c.N c.sc scope (ownOf c.N own) && chkT (c.blk scope) (some own) tg tge && chkE (c.blk scope) elt y &&
      (match (generalizing := false) ifs with
        | [] => isYes cond
        | [u] => chkE (c.blk scope) cond u
        | _ => false)) = true := h
    simp only [Bool.and_eq_true, decide_eq_true_eq] at h
    obtain ⟨⟨⟨⟨⟨⟨rfl, h1⟩, h2⟩, h3⟩, h4⟩, h5⟩, h6⟩ := h
    refine .plain C (c_comp C (mI it i C ok.1 h1 tge) h2 h3 h4 (fun s H C0 cl fp => ?_) fun s H C0 cl fp => (mE elt y (C.blk scope s H C0 cl fp) ok.2.2 h5).1) rfl
    rcases ifs with _ | ⟨u, _ | _⟩
    · have hy : cond = .con (.bl true) := by
        have h7 : isYes cond = true := h6
        clear h6
        unfold isYes at h7
        split at h7
        · rfl
        · cases h7
      refine ⟨fun pins s' σ H' Q I q => pts_nil.run pins s' σ H' Q I ?_⟩
      obtain ⟨W, st, σd, sim, rs, q⟩ := q
      subst hy
      simp only [evt, ev] at q
      exact q true W H' (.refl _) sim rfl
    · exact pts_one (mE cond u (C.blk scope s H C0 cl fp) ok.2.1 h6).2.1
    · exact absurd h6 Bool.false_ne_true
  | .fz a, XW, c, X, e, C, ok, h => by
    simp only [chkE, Bool.and_eq_true] at h
    exact .plain C (c_fz (mE a _ C ok h.1).1) h.2
theorem mEs : ∀ (is : IEs) {XW : WX} {c : Cfg} {X : Cx} (es : List Expr), Cond T XW P G c X → okEs P G is → chkEs c is es = true → PA X es (tIs T XW is)
  | .nil, XW, c, X, es, C, ok, h => by
    cases es <;> first | (exact absurd h Bool.false_ne_true) | exact a_nil
  | .cons a is, XW, c, X, es, C, ok, h => by
    cases es <;> first | (exact absurd h Bool.false_ne_true) | skip
    simp only [chkEs, Bool.and_eq_true] at h
    exact a_cons (mE a _ C ok.1 h.1.1).1 (mEs is _ C ok.2 h.2) h.1.2
theorem mI : ∀ (it : IIt) {XW : WX} {c : Cfg} {X : Cx} (e : Expr), Cond T XW P G c X → okI P G it → chkI c it e = true → ∀ tg, PI X tg e (tIi T XW it)
  | .val a, XW, c, X, e, C, ok, h => fun tg => by
    simp only [chkI] at h
    exact c_iv C (mE a _ C ok h).1
  | .range is, XW, c, X, e, C, ok, h => fun tg => by
    cases e <;> first | (exact absurd h Bool.false_ne_true) | skip
    rename_i g as ks p
    cases g <;> first | (exact absurd h Bool.false_ne_true) | skip
    rcases ks with _ | _ <;> first | (exact absurd h Bool.false_ne_true) | skip
    simp only [chkI, Bool.and_eq_true, decide_eq_true_eq, Bool.or_eq_true] at h
    obtain ⟨⟨⟨⟨h1, rfl⟩, h2⟩, h3⟩, h4⟩ := h
    exact c_range C h1 h2 (mEs is _ C ok h3) h3 h4
end
end
end Ip
set_option Elab.async false
set_option linter.all false
set_option maxRecDepth 100000
set_option maxHeartbeats 400000
/-! Statements against the text. -/
namespace Ip
open PySem PySem.Spec PyProof.Rows L2

/-! ### the check -/
def noComp : Expr → Bool
  | .ListComp _ _ _ _ => false
  | .SetComp _ _ _ _ => false
  | .DictComp _ _ _ _ _ => false
  | _ => true
/-- name = [..] on one line: the list is stored from within -/
def swB (sc : Scope) (t : Str) (pos : Pos) : Expr → Bool
  | .ListComp _ _ s p => sc.names.lookup t == some .local && pos.line == p.line && !(s.names.any fun (n, k) => n == t && (k == .local || k == .cell))
  | _ => false
def isComp : IE → Bool
  | .comp _ _ _ _ _ _ => true
  | _ => false
/-- the pair's stores are not swapped -/
def noSwap (n : Nat) : Expr → Bool
  | .Tuple vs _ _ => (!(n == 2 || n == 3) || vs.length != n) || vs.all (foldedForSure 8)
  | _ => true
def parName (sc : Scope) (ts : List Expr) : Expr → Option Str
  | .Name id pos => if sc.names.lookup id == some .local && pos.line == (ts.head?.map (·.pos.line)).getD 0 then some id else none
  | _ => none
def parNames (sc : Scope) (ts : List Expr) : List Str := ts.filterMap (parName sc ts)
def augOk : BO → Bool
  | .add => true
  | .sub => true
  | .mul => true
  | _ => false
mutual
def chkH (c : Cfg) (k : Nat) (x : Option Str) : HE → Expr → Bool
  | .con d, .Constant v _ _ => conB d v
  | .fld, .Attribute (.Name n _) f _ => (match x with
    | some m => decide (m = n)
    | none => false) && decide (c.hf k = f) && decide (f ≠ "")
  | .lst es, .List xs _ => chkHs c k x es xs
  | .tup es, .Tuple xs _ _ => chkHs c k x es xs
  | _, _ => false
def chkHs (c : Cfg) (k : Nat) (x : Option Str) : HEs → List Expr → Bool
  | .nil, [] => true
  | .cons e es, y :: ys => chkH c k x e y && noStar y && chkHs c k x es ys
  | _, _ => false
end
def chkHd (c : Cfg) : Hd → ExceptHandler → Bool
  | ⟨k, none, h⟩, .ExceptHandler (some (.Name n _)) none [.Return (some e) _] _ => decide (c.hn k = n) && glB c.sc n && nmOk n && chkH c k none h e
  | _, _ => false
def chkHds (c : Cfg) : List Hd → List ExceptHandler → Bool
  | [], [] => true
  | h :: hs, x :: xs => chkHd c h x && chkHds c hs xs
  | _, _ => false
mutual
def chkS (c : Cfg) : IS → Stmt → Bool
  | .pass, .Pass _ => true
  | .brk, .Break _ => true
  | .cnt, .Continue _ => true
  | .doc s, .Expr (.Constant (.str x) _ _) _ => decide (s = x)
  | .expr e, .Expr x _ => chkE c e x && noComp x
  | .ret e, .Return (some x) _ => chkE c e x
  | .retN, .Return none _ => true
  | .asg (.nm i) e, .Assign [.Name x p] v q => chkN c none i x && chkE c e v && (noComp v || isComp e)
  | .asg (.tp is) e, .Assign [.Tuple es k p] v _ => chkT c none (.tp is) (.Tuple es k p) && chkE c e v && (noSwap es.length v || ((parNames c.sc es).length != es.length))
  | .par is es, .Assign [.Tuple ts _ _] (.Tuple vs _ _) _ => chkTs c none is ts && chkEs c es vs && decide (vs.length = ts.length) && (ts.length == 2 || ts.length == 3) && decide ((parNames c.sc ts).map some = is.map fun i => c.N[i]?) && decide (is.Nodup) && !(vs.all (foldedForSure 8)) && !(vs.all (constantsAlone 8))
  | .setI o i v, .Assign [.Subscript a b _] x _ => chkE c v x && chkE c o a && chkE c i b && noSlice b
  | .aug i o e, .AugAssign (.Name x _) op v _ => decide (o.op = op) && augOk o && chkN c none i x && chkE c e v
  | .ite e a b, .If u x y _ => chkE c e u && chkSs c a x && chkSs c b y
  | .whl _ e b, .While u x [] _ => chkE c e u && chkSs c b x
  | .for t it b, .For tg i x [] _ => chkI c it i && notSet i && chkT c none t tg && chkSs c b x
  | .raise k _ es, .Raise (some (.Call (.Name x _) (y :: ys) [] _)) none _ => decide (c.xn k = x) && glB c.sc x && nmOk x && chkEs c es (y :: ys)
  | .try b hs, .Try x ys [] [] _ => chkSs c b x && (match hs, ys with
    | [⟨k, some i, h⟩], [.ExceptHandler (some (.Name n _)) (some m) [.Return (some e) _] _] => decide (c.hn k = n) && glB c.sc n && nmOk n && chkN c none i m && visB c.sc m && nmOk m && decide (c.sc.names.lookup m = some .local) && chkH c k (some m) h e
    | [], _ => false
    | hs, ys => chkHds c hs ys)
  | _, _ => false
def chkSs (c : Cfg) : ISs → List Stmt → Bool
  | .nil, [] => true
  | .cons s ss, x :: xs => chkS c s x && chkSs c ss xs
  | _, _ => false
end

/-! ### what is wanted behind a statement -/
def PstS (T : Tb) (XW : WX) (W : Wd) (o : OutS) (D : Ends) : Prop := match o with
  | .nx σd st => ∀ W' σ H, W.le W' → Sim T W' st H → RepS T W' σ σd → D.nx σ H
  | .brk σd st => ∀ W' σ H, W.le W' → Sim T W' st H → RepS T W' σ σd → D.bk σ H
  | .cnt σd st => ∀ W' σ H, W.le W' → Sim T W' st H → RepS T W' σ σd → D.ct σ H
  | .ret d st => ∀ W' v H, W.le W' → Sim T W' st H → Rep T W' d v → D.rt v H
  | .raise x σd st => ∀ W' σ H cls dd, W.le W' → Sim T W' st H → RepS T W' σ σd → RepX T W' x cls dd → XW cls dd σ H
  | .stuck => False
section
variable {T : Tb} {XW : WX} {W W' : Wd} {D D' : Ends}
theorem PstS.mono {o : OutS} (le : W.le W') (h : PstS T XW W o D) : PstS T XW W' o D := by
  cases o with
  | nx _ _ => exact fun W'' σ H l => h W'' σ H (le.trans l)
  | brk _ _ => exact fun W'' σ H l => h W'' σ H (le.trans l)
  | cnt _ _ => exact fun W'' σ H l => h W'' σ H (le.trans l)
  | ret _ _ => exact fun W'' v H l => h W'' v H (le.trans l)
  | raise _ _ _ => exact fun W'' σ H cls dd l => h W'' σ H cls dd (le.trans l)
  | stuck => exact h
def tS (T : Tb) (XW : WX) (s : IS) : TS := fun D σ H => ∃ W st σd, Sim T W st H ∧ RepS T W σ σd ∧ PstS T XW W (exec T.xm s σd st) D
def tSs (T : Tb) (XW : WX) (ss : ISs) : TS := fun D σ H => ∃ W st σd, Sim T W st H ∧ RepS T W σ σd ∧ PstS T XW W (execs T.xm ss σd st) D
theorem PS.imp {X : Cx} {s : Stmt} {t t' : TS} (h : PS X s t) (k : ∀ D σ H, t' D σ H → t D σ H) : PS X s t' := ⟨fun pins s σ H D I q => h.run pins s σ H D I (k D σ H q)⟩
theorem PSs.imp {X : Cx} {s : List Stmt} {t t' : TS} (h : PSs X s t) (k : ∀ D σ H, t' D σ H → t D σ H) : PSs X s t' := ⟨fun pins s σ H D I q => h.run pins s σ H D I (k D σ H q)⟩
/-- a value's outcome, then on -/
theorem PstS.andS {α β : Type} {R : Wd → α → β → Prop} {o : Out α} {σ : L2.St} {σd : EnvD} {f : α → Store → OutS} (rs : RepS T W σ σd) (h : PstS T XW W (o.andS σd f) D) :
    Pst T XW σ W R o (fun b H => ∃ W1 a st1, W.le W1 ∧ Sim T W1 st1 H ∧ R W1 a b ∧ PstS T XW W1 (f a st1) D) := by
  cases o with
  | ok a st => exact fun b W' H' le s r => ⟨W', a, st, le, s, r, PstS.mono le h⟩
  | raise x st => exact fun cls dd W' H' le s r => h W' σ H' cls dd le s (rs.mono le) r
  | stuck => exact h
theorem PstS.seq {o : OutS} {f : EnvD → Store → OutS} (h : PstS T XW W (o.seq f) D) : PstS T XW W o { D with nx := fun σ H => ∃ W1 σd st1, W.le W1 ∧ Sim T W1 st1 H ∧ RepS T W1 σ σd ∧ PstS T XW W1 (f σd st1) D } := by
  cases o with
  | nx σd st => exact fun W' σ H le s r => ⟨W', σd, st, le, s, r, PstS.mono le h⟩
  | brk _ _ => exact h
  | cnt _ _ => exact h
  | ret _ _ => exact h
  | raise _ _ _ => exact h
  | stuck => exact h
end
/-! ### a body's facts -/
/-- making an exception -/
def tMk (T : Tb) (XW : WX) (mk : MkF) (is : IEs) : L2.St → Hp → XK → Prop := fun σ H Q => ∃ W st σd, Sim T W st H ∧ RepS T W σ σd ∧
  Pst T XW σ W (fun W (x : Ex) (b : Value × Option Addr) => RepX T W x b.1 b.2) ((evs is σd st).bind fun ds st => ofO (mk ds st) st) (fun b H => Q b.1 b.2 H)
def MkOk (T : Tb) (nm : Str) (X : Cx) (mk : MkF) : Prop := ∀ (XW : WX) (x : Expr) (es : List Expr) (is : IEs) (p pos : Pos), PA X (x :: es) (tIs T XW is) → starEach (x :: es) X.env = (false, eval x X.env) :: starEach es X.env → (backTo pos (starEach es X.env)).any (·.1) = false →
  X.env.scope.names.lookup nm = some .globalImplicit → PMk X (.Call (.Name nm p) (x :: es) [] pos) (tMk T XW mk is)
structure CondS (T : Tb) (XW : WX) (P : Nat → List D → Fn → Prop) (G : Nat → D → Prop) (R : Nat → MkF → Prop) (U : Nat → Prop) (c : Cfg) (X : Cx) : Prop extends Cond T XW P G c X where
  pw : PassesOwn (model X.prog X.w) X.A X.env X.xe
  hs : X.stack = X.env :: X.outer
  hf : X.env.frame = some X.env.locals
  kd : X.env.scope.kind = .function
  mkx : ∀ k f, R k f → ∀ pn xe, MkOk T (c.xn k) (X.tr pn xe) f
  hn : ∀ k, U k → X.mg (c.hn k) = some (T.hc k) ∨ (X.mg (c.hn k) = none ∧ bootBuiltins (c.hn k) = some (T.hc k) ∧ c.hn k ≠ "__name__")
  xm : ∀ x k, U k → PySem.W.exmOne X.K (T.xa x) (T.hc k) = some (T.xm x k)
  xf : ∀ x k, U k → T.xm x k = true → c.hf k ≠ "" → ∃ C, T.xa x = .ref C ∧ T.xf x = c.hf k ∧ XfC X.K C ∧ PySem.W.findIn X.K (.ref C) (c.hf k) = some none
section
variable {T : Tb} {XW : WX} {P : Nat → List D → Fn → Prop} {G : Nat → D → Prop} {R : Nat → MkF → Prop} {U : Nat → Prop} {c : Cfg} {X : Cx} {x y z : Expr} {a b d : IE} {pos : Pos}
/-! ### small statements -/
theorem s_pass : PS X (.Pass pos) (tS T XW .pass) := by
  refine PS.imp ps_pass ?_
  rintro D σ H ⟨W, st, σd, sim, rs, h⟩
  simp only [exec] at h
  exact h W σ H (.refl _) sim rs
theorem s_brk : PS X (.Break pos) (tS T XW .brk) := by
  refine PS.imp ps_break ?_
  rintro D σ H ⟨W, st, σd, sim, rs, h⟩
  simp only [exec] at h
  exact h W σ H (.refl _) sim rs
theorem s_cnt : PS X (.Continue pos) (tS T XW .cnt) := by
  refine PS.imp ps_continue ?_
  rintro D σ H ⟨W, st, σd, sim, rs, h⟩
  simp only [exec] at h
  exact h W σ H (.refl _) sim rs
theorem s_doc {s : Str} {j p2} : PS X (.Expr (.Constant (.str s) j p2) pos) (tS T XW (.doc s)) := by
  refine PS.imp ps_doc ?_
  rintro D σ H ⟨W, st, σd, sim, rs, h⟩
  simp only [exec] at h
  exact h W σ H (.refl _) sim rs
theorem swaps_no {t : Option Expr} {n : Nat} {env : Env} (h : noComp x = true) : swapsWith x t n env = pure false := by
  cases x <;> first | rfl | cases h
theorem s_expr (ha : PE X x (tI T XW a)) (hn : noComp x = true) : PS X (.Expr x pos) (tS T XW (.expr a)) := by
  refine PS.imp (ps_expr ha (swaps_no hn)) ?_
  rintro D σ H ⟨W, st, σd, sim, rs, h⟩
  simp only [exec] at h
  refine ⟨W, st, σd, sim, rs, (h.andS rs (R := Rep T)).imp ?_⟩
  rintro v H1 ⟨W1, d1, st1, le1, sim1, r1, h1⟩
  exact h1 W1 σ H1 (.refl _) sim1 (rs.mono le1)
theorem s_ret (ha : PE X x (tI T XW a)) : PS X (.Return (some x) pos) (tS T XW (.ret a)) := by
  refine PS.imp (ps_ret ha) ?_
  rintro D σ H ⟨W, st, σd, sim, rs, h⟩
  simp only [exec] at h
  refine ⟨W, st, σd, sim, rs, (h.andS rs (R := Rep T)).imp ?_⟩
  rintro v H1 ⟨W1, d1, st1, le1, sim1, r1, h1⟩
  exact h1 W1 v H1 (.refl _) sim1 r1
theorem s_retN : PS X (.Return none pos) (tS T XW .retN) := by
  refine PS.imp ps_retN ?_
  rintro D σ H ⟨W, st, σd, sim, rs, h⟩
  simp only [exec] at h
  exact h W .non H (.refl _) sim .non

/-! ### assignments -/
/-- what a value's reading leaves for a target -/
theorem asg_read {t : IT} {D : Ends} {σ : L2.St} {H : Hp} (h : tS T XW (.asg t a) D σ H) : tAsg (tI T XW a) (gT T t) D σ H := by
  obtain ⟨W, st, σd, sim, rs, h⟩ := h
  simp only [exec] at h
  refine ⟨W, st, σd, sim, rs, (h.andS rs (R := Rep T)).imp ?_⟩
  rintro v H1 ⟨W1, d1, st1, le1, sim1, r1, h1⟩
  cases e : asgT st1 t d1 σd with
  | none => rw [e] at h1; exact h1.elim
  | some σ' =>
    rw [e] at h1
    exact ⟨W1, st1, σd, d1, σ', sim1, rs.mono le1, r1, e, fun σ2 rs2 _ _ => h1 W1 σ2 H1 (.refl _) sim1 rs2⟩
theorem asg_name {i : Nat} {D : Ends} {σ : L2.St} {H : Hp} (h : tS T XW (.asg (.nm i) a) D σ H) : tAsg (tI T XW a) (gName i) D σ H := by
  obtain ⟨W, st, σd, sim, rs, h⟩ := h
  simp only [exec] at h
  refine ⟨W, st, σd, sim, rs, (h.andS rs (R := Rep T)).imp ?_⟩
  rintro v H1 ⟨W1, d1, st1, le1, sim1, r1, h1⟩
  exact h1 W1 _ H1 (.refl _) sim1 ((rs.mono le1).set i r1)
theorem swaps_list {n : Str} {p p2 : Pos} {y : Expr} {gs : List Comprehension} {s : Scope} {l : Nat} {env : Env} (hk : env.scope.kind = .function) :
    swapsWith (.ListComp y gs s p2) (some (.Name n p)) l env = pure (swB env.scope n p (.ListComp y gs s p2)) := by
  show (pure (env.blockKind == .function && env.kindOf n == some .local && p.line == p2.line && !(s.names.any fun (n', k) => n' == n && (k == .local || k == .cell))) : PySem.Sem Bool) = _
  have hb : env.blockKind = .function := by unfold Env.blockKind; rw [hk]; rfl
  rw [hb]
  rfl
theorem s_asg (C : CondS T XW P G R U c X) {i : Nat} {n : Str} {p : Pos} (h1 : chkN c none i n = true) (ha : PE X x (tI T XW a)) (hn : noComp x = true) : PS X (.Assign [.Name n p] x pos) (tS T XW (.asg (.nm i) a)) := by
  obtain ⟨n1, n2, n3⟩ := chkN.at C.toCond h1
  exact PS.imp (ps_set C.nd n1 n2 ha (swaps_no hn) n3) fun D σ H h => asg_name h
theorem s_tup (C : CondS T XW P G R U c X) {is : List Nat} {es : List Expr} {k : Nat} {p : Pos} (h1 : chkT c none (.tp is) (.Tuple es k p) = true) (ha : PE X x (tI T XW a)) (hn0 : (noSwap es.length x || ((parNames c.sc es).length != es.length)) = true) : PS X (.Assign [.Tuple es k p] x pos) (tS T XW (.asg (.tp is) a)) := by
  have hw : swappedStores [.Tuple es k p] x X.env = pure none := by
    cases x <;> first | rfl | skip
    rename_i vs k2 p2
    simp only [Bool.or_eq_true] at hn0
    rcases hn0 with hn | hlen
    · simp only [noSwap, Bool.or_eq_true] at hn
      unfold swappedStores
      by_cases h0 : (!(es.length == 2 || es.length == 3) || vs.length != es.length) = true
      · simp only [Bool.or_eq_true] at h0
        simp [h0]
        rcases h0 with h0 | h0 <;> simp_all
      · have h2 : vs.all (foldedForSure 8) = true := by
          rcases hn with hn | hn
          · exact absurd (by simpa using hn) h0
          · exact hn
        simp only [h2]
        repeat' split
        all_goals first | rfl | (simp_all; done)
    · have key2 : ∀ F : Expr → Option Str, (∀ e, F e = parName c.sc es e) → es.filterMap F = parNames c.sc es := by
        intro F hF
        rw [show F = parName c.sc es from funext hF]
        rfl
      unfold swappedStores
      simp only
      rw [key2 _ (by
        intro e
        cases e <;> first | rfl | skip
        simp only [parName, Env.kindOf, C.sc])]
      simp only [hlen, Bool.true_or, if_true]
      repeat' split
      all_goals rfl
  have hsw : swapsWithSole [.Tuple es k p] x pos.line X.env = pure false := by
    cases x <;> rfl
  exact PS.imp (ps_asg ha (c_tgt C.toCond h1) hsw hw) fun D σ H h => asg_read h
end
end Ip
set_option Elab.async false
set_option linter.all false
set_option maxRecDepth 100000
set_option maxHeartbeats 400000
/-! Statements: items, tuples in parallel, branches, loops. -/
namespace Ip
open PySem PySem.Spec PyProof.Rows L2
section
variable {T : Tb} {XW : WX} {P : Nat → List D → Fn → Prop} {G : Nat → D → Prop} {R : Nat → MkF → Prop} {U : Nat → Prop} {c : Cfg} {X : Cx} {x y z : Expr} {a b d : IE} {pos : Pos}
theorem s_setI (C : CondS T XW P G R U c X) {p : Pos} (hv : PE X x (tI T XW d)) (ho : PE X y (tI T XW a)) (hi : PE X z (tI T XW b)) (hs : noSlice z = true) : PS X (.Assign [.Subscript y z p] x pos) (tS T XW (.setI a b d)) := by
  have ha : ∀ v, assign (.Subscript y z p) X.env v = (do
      let ov ← holding [v] (eval y X.env)
      let iv ← holding [v, ov] (eval z X.env)
      standAt p
      holding [v, ov, iv] (setItem ov iv v)
      release [v, ov, iv] []) := by
    intro v
    cases z <;> first | rfl | cases hs
  have hsw : swapsWithSole [.Subscript y z p] x pos.line X.env = pure false := by cases x <;> rfl
  have hw : swappedStores [.Subscript y z p] x X.env = pure none := by cases x <;> rfl
  refine PS.imp (ps_asg hv (pg_sub ho hi set_list ha) hsw hw) ?_
  rintro D σ H ⟨W, st, σd, sim, rs, h⟩
  simp only [exec] at h
  refine ⟨W, st, σd, sim, rs, (h.andS rs (R := Rep T)).imp ?_⟩
  rintro v H1 ⟨W1, d1, st1, le1, sim1, r1, h1⟩
  refine ⟨W1, st1, σd, sim1, rs.mono le1, (h1.andS (rs.mono le1) (R := Rep T)).imp ?_⟩
  rintro o H2 ⟨W2, d2, st2, le2, sim2, r2, h2⟩
  refine ⟨W2, st2, σd, sim2, (rs.mono le1).mono le2, (h2.andS ((rs.mono le1).mono le2) (R := Rep T)).imp ?_⟩
  rintro i H3 ⟨W3, d3, st3, le3, sim3, r3, h3⟩
  cases e : setD st3 d2 d3 d1 with
  | none => rw [e] at h3; exact h3.elim
  | some st4 =>
    rw [e] at h3
    unfold setD at e
    split at e
    · rename_i n i0
      split at e
      · rename_i zs hn
        split at e
        · rename_i k hk
          cases e
          obtain ⟨q, rfl, hq⟩ := rep_ref (r2.mono le3)
          obtain ⟨xs, hx, rz, _⟩ := sim3.cell _ _ q hn hq
          cases rep_int r3
          refine ⟨q.1, xs, i0, k, rfl, rfl, hx, by rw [← rz.length]; exact hk, ?_⟩
          exact h3 W3 σ _ (.refl _) (sim3.write hn hq (rz.set k ((r1.mono le2).mono le3))) (((rs.mono le1).mono le2).mono le3)
        · cases e
      · cases e
    · cases e
theorem ip_mul {X : Cx} : PIp X .Mult (fun x y H Q => ∃ i j, x = .int i ∧ y = .int j ∧ IntMulOk i j ∧ Q (.int (i * j)) H) := by
  intro pins s σ H x y v u Q I r1 r2 h
  obtain ⟨i, j, rfl, rfl, hm, q⟩ := h
  obtain ⟨t, rfl⟩ := r1
  obtain ⟨t', rfl⟩ := r2
  exact imul_int ⟨.int _, H, I.tok _, ⟨_, rfl⟩, q⟩ hm
theorem s_aug (C : CondS T XW P G R U c X) {i : Nat} {n : Str} {p : Pos} {o : BO} (h1 : chkN c none i n = true) (ha : PE X x (tI T XW a)) (ho : augOk o = true) : PS X (.AugAssign (.Name n p) o.op x pos) (tS T XW (.aug i o a)) := by
  obtain ⟨n1, n2, n3⟩ := chkN.at C.toCond h1
  have rd : ∀ {ti : TIp}, (∀ (W : Wd) (H : Hp) (v w : V) (d1 d2 dd : D) (Q : VK), Rep T W d1 v → Rep T W d2 w → augD o d1 d2 = some dd → (∀ b, Rep T W dd b → Q b H) → ti v w H Q) → ∀ D σ H, tS T XW (.aug i o a) D σ H → tAug i (tI T XW a) ti D σ H := by
    intro ti hti D σ H ⟨W, st, σd, sim, rs, h⟩
    simp only [exec] at h
    split at h
    · rename_i d1 hd
      obtain ⟨v, hv, r⟩ := rs.get i d1 hd
      refine ⟨v, hv, W, st, σd, sim, rs, (h.andS rs (R := Rep T)).imp ?_⟩
      rintro w H1 ⟨W1, d2, st1, le1, sim1, r1, h1⟩
      cases e : augD o d1 d2 with
      | none => rw [e] at h1; exact h1.elim
      | some dd =>
        rw [e] at h1
        exact hti W1 H1 v w d1 d2 dd _ (r.mono le1) r1 e fun b rb => h1 W1 _ H1 (.refl _) sim1 ((rs.mono le1).set i rb)
    · exact h.elim
  cases o <;> first | (cases ho; done) | skip
  · refine PS.imp (ps_aug C.nd n1 n2 ha ip_add n3) (rd ?_)
    intro W H v w d1 d2 dd Q r1 r2 e k
    cases d1 <;> first | (simp [augD] at e; done) | skip
    cases d2 <;> first | (simp [augD] at e; done) | skip
    simp only [augD, Option.some.injEq] at e
    cases rep_int r1
    cases rep_int r2
    exact ⟨_, _, rfl, rfl, k _ (e ▸ .int _)⟩
  · refine PS.imp (ps_aug C.nd n1 n2 ha ip_sub n3) (rd ?_)
    intro W H v w d1 d2 dd Q r1 r2 e k
    cases d1 <;> first | (simp [augD] at e; done) | skip
    cases d2 <;> first | (simp [augD] at e; done) | skip
    simp only [augD, Option.some.injEq] at e
    cases rep_int r1
    cases rep_int r2
    exact ⟨_, _, rfl, rfl, k _ (e ▸ .int _)⟩
  · refine PS.imp (ps_aug C.nd n1 n2 ha ip_mul n3) (rd ?_)
    intro W H v w d1 d2 dd Q r1 r2 e k
    cases d1 <;> first | (simp [augD] at e; done) | skip
    cases d2 <;> first | (simp [augD] at e; done) | skip
    simp only [augD] at e
    split at e
    · rename_i hm
      cases e
      cases rep_int r1
      cases rep_int r2
      exact ⟨_, _, rfl, rfl, CMulW.ok (by unfold mulOk at hm; unfold CMulW; exact of_decide_eq_true hm), k _ (.int _)⟩
    · cases e
/-- a test's outcome, then on -/
theorem PstS.andT {W : Wd} {D : Ends} {σ : L2.St} {σd : EnvD} {o : Out Bool} {f : Bool → Store → OutS} (rs : RepS T W σ σd) (h : PstS T XW W (o.andS σd f) D) :
    Pst T XW σ W (fun _ (a b : Bool) => a = b) o (fun k H => ∃ W1 st1, W.le W1 ∧ Sim T W1 st1 H ∧ PstS T XW W1 (f k st1) D) :=
  (h.andS rs (R := fun _ (a b : Bool) => a = b)).imp fun b H ⟨W1, k, st1, le, sim, e, h1⟩ => ⟨W1, st1, le, sim, e ▸ h1⟩
theorem s_ite {p q : List Stmt} {s1 s2 : ISs} (hc : PT X x (tIt T XW a)) (ha : PSs X p (tSs T XW s1)) (hb : PSs X q (tSs T XW s2)) : PS X (.If x p q pos) (tS T XW (.ite a s1 s2)) := by
  refine PS.imp (ps_if hc ha hb) ?_
  rintro D σ H ⟨W, st, σd, sim, rs, h⟩
  simp only [exec] at h
  refine ⟨W, st, σd, sim, rs, (h.andT rs).imp ?_⟩
  rintro k H1 ⟨W1, st1, le1, sim1, h1⟩
  split at h1
  · rename_i e; rw [if_pos e]; exact ⟨W1, st1, σd, sim1, rs.mono le1, h1⟩
  · rename_i e; rw [if_neg e]; exact ⟨W1, st1, σd, sim1, rs.mono le1, h1⟩
theorem s_whl (C : CondS T XW P G R U c X) {p : List Stmt} {s1 : ISs} {n : Nat} (hc : PT X x (tIt T XW a)) (ha : PSs X p (tSs T XW s1)) : PS X (.While x p [] pos) (tS T XW (.whl n a s1)) := by
  refine PS.imp (ps_while C.pw hc ha) ?_
  rintro D σ H ⟨W, st, σd, sim, rs, h⟩
  simp only [exec] at h
  refine ⟨fun m σ H => ∃ W st σd, Sim T W st H ∧ RepS T W σ σd ∧ PstS T XW W (whlRun (evt a) (execs T.xm s1) m σd st) D, ⟨n, W, st, σd, sim, rs, h⟩, ?_⟩
  clear h rs sim σd st W
  rintro m σ H ⟨W, st, σd, sim, rs, h⟩
  cases m with
  | zero => exact h.elim
  | succ m =>
    rw [whlRun] at h
    refine ⟨W, st, σd, sim, rs, (h.andT rs).imp ?_⟩
    rintro k H1 ⟨W1, st1, le1, sim1, h1⟩
    split at h1
    · rename_i e
      rw [if_pos e]
      refine ⟨_, fun σ' H' q => ⟨m, Nat.lt_succ_self m, q⟩, W1, st1, σd, sim1, rs.mono le1, ?_⟩
      cases eo : execs T.xm s1 σd st1 with
      | nx σ2 st2 => rw [eo] at h1; exact fun W2 σ3 H2 le2 sim2 rs2 => ⟨W2, st2, σ2, sim2, rs2, PstS.mono le2 h1⟩
      | cnt σ2 st2 => rw [eo] at h1; exact fun W2 σ3 H2 le2 sim2 rs2 => ⟨W2, st2, σ2, sim2, rs2, PstS.mono le2 h1⟩
      | brk σ2 st2 => rw [eo] at h1; exact h1
      | ret _ _ => rw [eo] at h1; exact h1
      | raise _ _ _ => rw [eo] at h1; exact h1
      | stuck => rw [eo] at h1; exact h1
    · rename_i e
      rw [if_neg e]
      exact h1 W1 σ H1 (.refl _) sim1 (rs.mono le1)
theorem s_for (C : CondS T XW P G R U c X) {p : List Stmt} {s1 : ISs} {t : IT} {tg i : Expr} {it : IIt} (hi : PI X tg i (tIi T XW it)) (hn : notSet i = true) (ht : chkT c none t tg = true) (ha : PSs X p (tSs T XW s1)) : PS X (.For tg i p [] pos) (tS T XW (.for t it s1)) := by
  have hfs : ∀ x, foldedSetIterable i X.env x = pure x := by
    intro x
    cases i <;> first | rfl | cases hn
  refine PS.imp (ps_for C.pw C.calm hi (c_tgt C.toCond ht) ha hfs) ?_
  rintro D σ H ⟨W, st, σd, sim, rs, h⟩
  simp only [exec] at h
  refine ⟨W, st, σd, sim, rs, (h.andS rs (R := fun W (i : ItD) (J : It) => RepIt T W i J)).imp ?_⟩
  rintro J H1 ⟨Wa, itd, st1, le1, sim1, rit, h1⟩
  refine ⟨fun i m σ H => ∃ W st σd, Wa.le W ∧ Sim T W st H ∧ RepS T W σ σd ∧ PstS T XW W (forRun t (execs T.xm s1) itd m i σd st) D, ⟨fuelD, Wa, st1, σd, .refl _, sim1, rs.mono le1, h1⟩, ?_⟩
  rintro i m σ H ⟨W, st, σd, leW, sim, rs, h⟩
  cases m with
  | zero => exact h.elim
  | succ m =>
    rw [forRun] at h
    obtain ⟨n1, n2⟩ := it_next (i := i) sim (rit.sub leW.1)
    cases hn : nextD itd i st with
    | none => rw [hn] at h; exact h.elim
    | some r =>
      cases r with
      | none =>
        rw [hn] at h
        exact .inl ⟨n1 hn, h W σ H (.refl _) sim rs⟩
      | some x =>
        rw [hn] at h
        obtain ⟨go, yl⟩ := n2 x hn
        right
        refine ⟨go, _, fun σ' H' q => ⟨m, Nat.lt_succ_self m, q⟩, fun v H3 hy => ?_⟩
        obtain ⟨W3, le3, sim3, rx⟩ := yl v H3 hy
        cases ea : asgT st t x σd with
        | none => simp only [ea] at h; exact h.elim
        | some σ2 =>
          simp only [ea] at h
          refine ⟨W3, st, σd, x, σ2, sim3, rs.mono le3, rx, ea, fun σ3 rs3 _ _ => ⟨W3, st, σ2, sim3, rs3, ?_⟩⟩
          have h := PstS.mono le3 h
          cases eo : execs T.xm s1 σ2 st with
          | nx σ4 st4 => rw [eo] at h; exact fun W4 σ5 H4 le4 sim4 rs4 => ⟨W4, st4, σ4, (leW.trans le3).trans le4, sim4, rs4, PstS.mono le4 h⟩
          | cnt σ4 st4 => rw [eo] at h; exact fun W4 σ5 H4 le4 sim4 rs4 => ⟨W4, st4, σ4, (leW.trans le3).trans le4, sim4, rs4, PstS.mono le4 h⟩
          | brk _ _ => rw [eo] at h; exact h
          | ret _ _ => rw [eo] at h; exact h
          | raise _ _ _ => rw [eo] at h; exact h
          | stuck => rw [eo] at h; exact h
theorem s_raise (C : CondS T XW P G R U c X) {k : Nat} {f : MkF} {n : Str} {p p2 : Pos} {es : List Expr} {is : IEs} (hr : R k f) (hn : c.xn k = n) (hg : glB c.sc n = true) (ha : PA X (x :: es) (tIs T XW is)) (hc : chkEs c is (x :: es) = true) :
    PS X (.Raise (some (.Call (.Name n p) (x :: es) [] p2)) none pos) (tS T XW (.raise k f is)) := by
  subst hn
  have hst : noStar x = true := by cases is with
    | nil => simp [chkEs] at hc
    | cons _ _ => simp only [chkEs, Bool.and_eq_true] at hc; exact hc.1.2
  have hpl : (backTo p2 (starEach es X.env)).any (·.1) = false := by cases is with
    | nil => simp [chkEs] at hc
    | cons _ _ => simp only [chkEs, Bool.and_eq_true] at hc; exact plain_args hc.2
  have mk : PMk X (.Call (.Name (c.xn k) p) (x :: es) [] p2) (tMk T XW f is) := C.mkx k f hr X.pn X.xe XW x es is p p2 ha (star_cons hst) hpl (C.gl' hg)
  refine PS.imp (ps_raise C.calm C.tk mk) ?_
  rintro D σ H ⟨W, st, σd, sim, rs, h⟩
  simp only [exec] at h
  refine ⟨W, st, σd, sim, rs, ?_⟩
  cases e : evs is σd st with
  | stuck => rw [e] at h; exact h
  | raise u st1 => rw [e] at h; exact fun cls dd W' H' le s r => h W' σ H' cls dd le s (rs.mono le) r
  | ok ds st1 =>
    rw [e] at h
    have h2 : PstS T XW W (match f ds st1 with
      | some x => .raise x σd st1
      | none => .stuck) D := h
    show Pst T XW σ W _ (ofO (f ds st1) st1) _
    cases ef : f ds st1 with
    | none => rw [ef] at h2; exact h2
    | some u =>
      rw [ef] at h2
      exact fun b W' H' le s r => h2 W' σ H' b.1 b.2 le s (rs.mono le) r
end
end Ip
set_option Elab.async false
set_option linter.all false
set_option maxRecDepth 100000
set_option maxHeartbeats 400000
/-! Statements: tuples in parallel, a list stored from within, try; every statement. -/
namespace Ip
open PySem PySem.Spec PyProof.Rows L2
section
variable {T : Tb} {XW : WX} {P : Nat → List D → Fn → Prop} {G : Nat → D → Prop} {R : Nat → MkF → Prop} {U : Nat → Prop} {c : Cfg} {X : Cx} {x y z : Expr} {a b d : IE} {pos : Pos}
/-! ### stores from the right -/
theorem par_store {M : Model} {A : Around} {E : Value → Shared → Prop} {pins : List (Addr × Obj)} {H : Hp} {W : Wd} (hN : X.N.Nodup) : ∀ (is : List Nat) (ns : List Str) (ds : List D) (vs : List V) (us : List Value) (σ : L2.St) (σd σd' : EnvD) (s : Shared) (Q : Unit → Shared → Prop), Inv X pins σ H s → RepS T W σ σd → RepA T W ds vs → Vals vs us →
    setAll is ds σd = some σd' → ns.map some = is.map (fun i => X.N[i]?) → (∀ n ∈ ns, X.env.scope.names.lookup n = some .local) → (∀ σ' s', Inv X pins σ' H s' → RepS T W σ' σd' → Q () s') →
    wpAny M A (assignInOrder (ns.map fun n => bindName X.env n) us) Q E s
  | [], ns, [], _, _, σ, σd, σd', s, Q, I, rs, .nil, .nil, e, hn, hl, q => by
    cases ns with
    | nil => cases e; exact assignInOrder_nil (q σ s I rs)
    | cons _ _ => simp at hn
  | i :: is, ns, d :: ds, _, _, σ, σd, σd', s, Q, I, rs, .cons r ra, .cons u ua, e, hn, hl, q => by
    cases ns with
    | nil => simp at hn
    | cons n ns =>
      rw [List.map_cons, List.map_cons, List.cons.injEq] at hn
      rw [setAll] at e
      have hx := hl n List.mem_cons_self
      rw [List.map_cons]
      refine assignInOrder_cons (wpAny_bindName (store_ok I hN hn.1.symm (.inl hx) u (fun s2 I2 => ?_) (.inr hx)))
      exact par_store hN is ns ds _ _ _ _ σd' s2 Q I2 (rs.set i r) ra ua e hn.2 (fun m hm => hl m (List.mem_cons_of_mem _ hm)) q
  | [], _, _ :: _, _, _, _, _, _, _, _, _, _, _, _, e, _, _, _ => by simp [setAll] at e
  | _ :: _, _, [], _, _, _, _, _, _, _, _, _, _, _, e, _, _, _ => by simp [setAll] at e
theorem parNames_loc {sc : Scope} {ts : List Expr} : ∀ n ∈ parNames sc ts, sc.names.lookup n = some .local := by
  intro n h
  unfold parNames at h
  obtain ⟨t, _, e⟩ := List.mem_filterMap.mp h
  unfold parName at e
  split at e
  · split at e
    · rename_i hc
      cases e
      simp only [Bool.and_eq_true, beq_iff_eq] at hc
      exact hc.1
    · cases e
  · cases e
theorem swaps_some {sc : Scope} {env : Env} (hs : env.scope = sc) (hk : sc.kind = .function) {ts vs : List Expr} {k k2 : Nat} {p p2 : Pos} (hl : vs.length = ts.length) (h23 : (ts.length == 2 || ts.length == 3) = true) (hst : vs.all noStar = true)
    (hn : (parNames sc ts).length = ts.length) (hd : (parNames sc ts).Nodup) (hf : vs.all (foldedForSure 8) = false) (hc : vs.all (constantsAlone 8) = false) : swappedStores [.Tuple ts k p] (.Tuple vs k2 p2) env = pure (some (parNames sc ts)) := by
  have hb : env.blockKind = .function := by unfold Env.blockKind; rw [hs, hk]; rfl
  have h0 : (!(ts.length == 2 || ts.length == 3) || vs.length != ts.length || env.blockKind != .function) = false := by
    rw [hb, h23, hl]; simp
  have key1 : ∀ F : Expr → Bool, (∀ e, noStar e = true → F e = false) → vs.any F = false := by
    intro F hF
    rw [List.any_eq_false]
    intro e he
    rw [hF e (List.all_eq_true.mp hst e he)]
    exact Bool.false_ne_true
  have key2 : ∀ F : Expr → Option Str, (∀ e, F e = parName sc ts e) → ts.filterMap F = parNames sc ts := by
    intro F hF
    rw [show F = parName sc ts from funext hF]
    rfl
  have hed : ∀ {l : List Str}, l.Nodup → l.eraseDups = l := by
    intro l hl
    induction l with
    | nil => rfl
    | cons a l ih =>
      rw [List.eraseDups_cons]
      have hn := List.nodup_cons.mp hl
      have : (l.filter fun b => !b == a) = l := by
        rw [List.filter_eq_self]
        intro b hb
        have : b ≠ a := fun z => hn.1 (z ▸ hb)
        simp [this]
      rw [this, ih hn.2]
  unfold swappedStores
  simp only [h0, Bool.false_eq_true, if_false, pure_bind]
  rw [key1 _ (by intro e he; cases e <;> first | (exact absurd he Bool.false_ne_true) | rfl)]
  rw [key2 _ (by
    intro e
    cases e <;> first | rfl | skip
    simp only [parName, Env.kindOf, hs])]
  have hne : (parNames sc ts).isEmpty = false := by
    cases h : parNames sc ts with
    | nil =>
      rw [h] at hn
      simp only [List.length_nil] at hn
      rw [← hn] at h23
      exact absurd h23 Bool.false_ne_true
    | cons _ _ => rfl
  simp only [hed hd, hn, hf, hc, bne_self_eq_false, Bool.or_self, Bool.false_eq_true, if_false, pure_bind]
theorem names_nodup {N : List Str} (hN : N.Nodup) : ∀ (ns : List Str) (is : List Nat), ns.map some = is.map (fun i => N[i]?) → is.Nodup → ns.Nodup
  | [], _, _, _ => List.nodup_nil
  | _ :: _, [], h, _ => by simp at h
  | n :: ns, i :: is, h, hd => by
    rw [List.map_cons, List.map_cons, List.cons.injEq] at h
    rw [List.nodup_cons] at hd
    refine List.nodup_cons.mpr ⟨fun hm => ?_, names_nodup hN ns is h.2 hd.2⟩
    have hm2 : some n ∈ ns.map some := List.mem_map.mpr ⟨n, hm, rfl⟩
    rw [h.2] at hm2
    obtain ⟨j, hj, e⟩ := List.mem_map.mp hm2
    have := nodup_ix hN h.1.symm e
    exact hd.1 (this ▸ hj)
theorem s_par (C : CondS T XW P G R U c X) {is : List Nat} {es : IEs} {ts vs : List Expr} {k k2 : Nat} {p p2 : Pos} (h1 : chkEs c es vs = true) (ha : PA X vs (tIs T XW es)) (hl : vs.length = ts.length) (h23 : (ts.length == 2 || ts.length == 3) = true)
    (hn : (parNames c.sc ts).map some = is.map fun i => c.N[i]?) (hlen : is.length = ts.length) (hd : is.Nodup) (hf : vs.all (foldedForSure 8) = false) (hc : vs.all (constantsAlone 8) = false) : PS X (.Assign [.Tuple ts k p] (.Tuple vs k2 p2) pos) (tS T XW (.par is es)) := by
  have hst : ∀ {vs : List Expr} {es : IEs}, chkEs c es vs = true → vs.all noStar = true := by
    intro vs
    induction vs with
    | nil => intro _ _; rfl
    | cons v vs ih =>
      intro es h
      cases es with
      | nil => simp [chkEs] at h
      | cons _ _ =>
        simp only [chkEs, Bool.and_eq_true] at h
        rw [List.all_cons, h.1.2, ih h.2]; rfl
  have hln : (parNames c.sc ts).length = ts.length := by
    have := congrArg List.length hn
    simpa [hlen] using this
  have hnd : (parNames c.sc ts).Nodup := names_nodup (C.N ▸ C.nd) _ _ hn hd
  have hw := swaps_some (k := k) (k2 := k2) (p := p) (p2 := p2) C.sc (by rw [← C.sc]; exact C.kd) hl h23 (hst h1) hln hnd hf hc
  have hs : swapsWithSole [.Tuple ts k p] (.Tuple vs k2 p2) pos.line X.env = pure false := rfl
  refine ⟨fun pins s σ H D I h => ?_⟩
  obtain ⟨W, st, σd, sim, rs, h⟩ := h
  simp only [exec] at h
  rw [exec_Assign_arm]
  refine wpAny_bind (wpAny_standAt ?_)
  rw [hs]
  refine wpAny_bind (wpAny_pure ?_)
  rw [if_neg (by decide)]
  refine wpAny_bind (Tuple_ (thn (ha.run _ pins s σ H _ I ⟨W, st, σd, sim, rs, h.andS rs (R := RepA T)⟩) fun us s1 ⟨vals, H1, I1, r1, W1, ds, st1, le1, sim1, ra, q1⟩ => ?_))
  have hds : ds.length ≤ 3 := by
    cases e : setAll is.reverse ds.reverse σd with
    | none => rw [e] at q1; exact q1.elim
    | some _ =>
      have := setAll_len e
      simp only [List.length_reverse] at this
      simp only [Bool.or_eq_true, beq_iff_eq] at h23
      omega
  have hul : us.length = ds.length := by rw [← r1.length, ra.length]
  refine wpAny_newObj_type ?_ (by show us.toArray.size ≤ sizeLine; rw [List.size_toArray, sizeLine_eq]; omega)
  have I2 : Inv X pins σ H1 { s1 with heap := s1.heap.push { cls := .type "tuple", data := .seq us.toArray } } := I1.kept (t' := s1.toks) fun b o e => Heap.get?_push_of_some _ e
  rw [hw]
  refine wpAny_bind (wpAny_pure ?_)
  show wpAny (model X.prog X.w) X.A (do rule "assign.swapped-stores"; let items ← unpackItems (.ref s1.heap.objs.size) (parNames c.sc ts).length none; assignInOrder ((parNames c.sc ts).reverse.map fun n => bindName X.env n) items.reverse; pure Flow.next) _ _ _
  have hsz : us.toArray.size = (parNames c.sc ts).length := by
    rw [List.size_toArray, hul, hln, ← hlen]
    cases e : setAll is.reverse ds.reverse σd with
    | none => rw [e] at q1; exact q1.elim
    | some _ =>
      have := setAll_len e
      simpa using this
  rw [← hsz]
  refine wpAny_bind (wpAny_rule (wpAny_bind (unpackItems_tuple (items := us.toArray) (I.ok.hd C.calm) (IsTup.new s1.heap _) fun h' hx' => ?_)))
  have I3 := I2.kept (h' := h') (t' := s1.toks) fun b o e => hx' b o (Nat.ne_of_lt (Heap.lt_size e)) e
  cases e : setAll is.reverse ds.reverse σd with
  | none => rw [e] at q1; exact q1.elim
  | some σ2 =>
    rw [e] at q1
    refine wpAny_bind (par_store C.nd is.reverse _ ds.reverse vals.reverse _ σ σd σ2 _ _ I3 (rs.mono le1) ra.reverse (Vals.reverse r1) e (by rw [List.map_reverse, List.map_reverse, hn, C.N]) (fun n hm => by rw [C.sc]; exact parNames_loc n (List.mem_reverse.mp hm)) fun σ' s' I' rs' => ?_)
    exact wpAny_pure ⟨σ', H1, I', q1 W1 σ' H1 (.refl _) sim1 rs'⟩
/-! ### name = [..] -/
theorem comp_parts {cc : Cond T XW P G c X} {t : Bool} {own : List Nat} {it : IIt} {tg : IT} {cond elt : IE} {y : Expr} {gens : List Comprehension} {scope : Scope} {p : Pos} (ok : okE P G (.comp t own it tg cond elt)) (h : chkE c (.comp t own it tg cond elt) (.ListComp y gens scope p) = true) :
    ∃ tge i ifs, gens = [⟨tge, i, ifs, 0⟩] ∧ PI X tge i (tIi T XW it) ∧ notSet i = true ∧ blkC c.N c.sc scope (ownOf c.N own) = true ∧ chkT (c.blk scope) (some own) tg tge = true ∧
      (∀ (s : Shared) (H : Hp) (C0 : Addr) (cl : List (Str × Addr)) (fp : List Addr), PTs (X.blk s H scope (compEnvC scope cl C0 X.env) fp) ifs (tIt T XW0 cond)) ∧
      (∀ (s : Shared) (H : Hp) (C0 : Addr) (cl : List (Str × Addr)) (fp : List Addr), PE (X.blk s H scope (compEnvC scope cl C0 X.env) fp) y (tI T XW0 elt)) := by
  rcases gens with _ | ⟨⟨tge, i, ifs, n⟩, _ | _⟩ <;> first | (exact absurd h Bool.false_ne_true) | skip
  replace h : (decide (n = 0) && chkI c it i && notSet i && blkC c.N c.sc scope (ownOf c.N own) && chkT (c.blk scope) (some own) tg tge && chkE (c.blk scope) elt y &&
    (match (generalizing := false) ifs with
      | [] => isYes cond
      | [u] => chkE (c.blk scope) cond u
      | _ => false)) = true := h
  simp only [Bool.and_eq_true, decide_eq_true_eq] at h
  obtain ⟨⟨⟨⟨⟨⟨rfl, h1⟩, h2⟩, h3⟩, h4⟩, h5⟩, h6⟩ := h
  refine ⟨tge, i, ifs, rfl, mI it i cc ok.1 h1 tge, h2, h3, h4, fun s H C0 cl fp => ?_, fun s H C0 cl fp => (mE elt y (cc.blk scope s H C0 cl fp) ok.2.2 h5).1⟩
  rcases ifs with _ | ⟨u, _ | _⟩
  · have hy : cond = .con (.bl true) := by
      have h7 : isYes cond = true := h6
      clear h6
      unfold isYes at h7
      split at h7
      · rfl
      · cases h7
    refine ⟨fun pins s' σ H' Q I q => pts_nil.run pins s' σ H' Q I ?_⟩
    obtain ⟨W, st, σd, sim, rs, q⟩ := q
    subst hy
    simp only [evt, ev] at q
    exact q true W H' (.refl _) sim rfl
  · exact pts_one (mE cond u (cc.blk scope s H C0 cl fp) ok.2.1 h6).2.1
  · exact absurd h6 Bool.false_ne_true
theorem s_asgC (C : CondS T XW P G R U c X) {i : Nat} {n : Str} {p : Pos} (h1 : chkN c none i n = true) (ok : okE P G a) (ha : chkE c a x = true) (hn : isComp a = true) : PS X (.Assign [.Name n p] x pos) (tS T XW (.asg (.nm i) a)) := by
  have pa := (mE a x C.toCond ok ha).1
  cases a <;> first | (exact absurd hn Bool.false_ne_true) | skip
  cases x <;> first | (exact absurd ha Bool.false_ne_true) | skip
  rename_i t own it tg cond elt y gens scope p2
  obtain ⟨n1, n2, n3⟩ := chkN.at C.toCond h1
  have hsw : ∀ l, swapsWith (.ListComp y gens scope p2) (some (.Name n p)) l X.env = pure (swB X.env.scope n p (.ListComp y gens scope p2)) := fun l => swaps_list C.kd
  cases hb : swB X.env.scope n p (.ListComp y gens scope p2) with
  | false => exact PS.imp (ps_set C.nd n1 n2 pa (by rw [hsw, hb]) n3) fun D σ H h => asg_name h
  | true =>
    obtain ⟨tge, i0, ifs, rfl, hi, hns, hbk, ht, hcond, helt⟩ := comp_parts (cc := C.toCond) ok ha
    have hbk : BlkOk X.N X.env.scope scope (ownOf c.N own) := by rw [C.N, C.sc]; exact blkOk_by hbk
    have hfs : ∀ x, foldedSetIterable i0 X.env x = pure x := by
      intro x
      cases i0 <;> first | rfl | cases hns
    have hl : X.env.scope.names.lookup n = some .local := by
      simp only [swB, Bool.and_eq_true, beq_iff_eq] at hb
      exact hb.1.1
    refine PS.imp (ps_setLc C.calm C.nd n1 hl (by rw [hsw, hb]) hi hbk (fun s H C0 cl fp => c_tgt (C.toCond.blk scope s H C0 cl fp) ht) hcond helt hfs) fun D σ H h => ?_
    rw [own_ix]
    exact lc_read ht _ _ _ (asg_name h)

/-! ### try -/
theorem Cond.tr (C : Cond T XW P G c X) {XW' : WX} {pn : List (Addr × Obj)} {xe : Value → Shared → Prop} (tk : Takes (X.tr pn xe) XW') : Cond T XW' P G c (X.tr pn xe) where
  hK := C.hK
  sc := C.sc
  N := C.N
  nd := C.nd
  calm := C.calm
  gd := C.gd
  room := C.room
  tk := tk
  wr := C.wr
  bl := C.bl
  isi := C.isi
  ty := C.ty
  rg := C.rg
  fn := fun i dv sm hp => let ⟨q⟩ := C.fn i dv sm hp; ⟨q⟩
  gl := C.gl
theorem CondS.tr (C : CondS T XW P G R U c X) {XW' : WX} {pn : List (Addr × Obj)} {xe : Value → Shared → Prop} (tk : Takes (X.tr pn xe) XW') (hp : PassesOwn (model X.prog X.w) X.A X.env xe) : CondS T XW' P G R U c (X.tr pn xe) where
  toCond := C.toCond.tr tk
  pw := hp
  hs := C.hs
  hf := C.hf
  kd := C.kd
  mkx := fun k f r pn' xe' => C.mkx k f r pn' xe'
  hn := C.hn
  xm := C.xm
  xf := C.xf
/-- what an except suite's expression reads -/
def tHe (T : Tb) (i : Option Nat) (a : Addr) (cls : Value) (dd : Option Addr) (k : Nat) (h : HE) : TE := fun σ H Q => ∃ W st x dv, Sim T W st H ∧ RepX T W x cls dd ∧ T.xm x.c k = true ∧ (∀ j, i = some j → σ[j]? = some (some (.ref a))) ∧ evh x h = some dv ∧ ∀ v W' H', W.le W' → Sim T W' st H' → Rep T W' dv v → Q v H'
def tHes (T : Tb) (i : Option Nat) (a : Addr) (cls : Value) (dd : Option Addr) (k : Nat) (h : HEs) : TA := fun σ H Q => ∃ W st x ds, Sim T W st H ∧ RepX T W x cls dd ∧ T.xm x.c k = true ∧ (∀ j, i = some j → σ[j]? = some (some (.ref a))) ∧ evhs x h = some ds ∧ ∀ vs W' H', W.le W' → Sim T W' st H' → RepA T W' ds vs → Q vs H'
mutual
theorem he_ok (C : CondS T XW P G R U c X) {i : Option Nat} {m : Option Str} {k : Nat} (hU : U k) (hi : ∀ j n, i = some j → m = some n → X.N[j]? = some n ∧ Vis X.env.scope n ∧ nmOk n = true) (him : ∀ n, m = some n → ∃ j, i = some j) {a : Addr} {oe : Obj} {cls : Value} {dd : Option Addr} {pn : List (Addr × Obj)} (hz : Zc cls dd oe) (hd : ∃ vs, oe.data = .fields vs) :
    ∀ (h : HE) (e : Expr), chkH c k m h e = true → PE (X.suite a ((a, oe) :: pn)) e (tHe T i a cls dd k h)
  | .con d, e, h => by
    cases e <;> first | (exact absurd h Bool.false_ne_true) | skip
    simp only [chkH] at h
    obtain ⟨v, h1, h2⟩ := conB_v (T := T) h
    refine PE.imp h2 ?_
    rintro σ H Q ⟨W, st, x, dv, sim, rx, hm, hs, e, q⟩
    cases e
    exact q v W H (.refl _) sim (h1 W)
  | .fld, e, h => by
    cases e <;> first | (exact absurd h Bool.false_ne_true) | skip
    rename_i y f p
    cases y <;> first | (exact absurd h Bool.false_ne_true) | skip
    rename_i n p2
    simp only [chkH, Bool.and_eq_true, decide_eq_true_eq] at h
    obtain ⟨⟨h1, h2⟩, h3⟩ := h
    refine ⟨fun pins s σ H Q I q => ?_⟩
    obtain ⟨W, st, x, dv, sim, rx, hm, hs, e, q⟩ := q
    cases m with
    | none => exact absurd h1 Bool.false_ne_true
    | some m =>
      have h1 : m = n := of_decide_eq_true h1
      subst h1
      obtain ⟨j, rfl⟩ := him m rfl
      obtain ⟨n1, n2, n3⟩ := hi j m rfl rfl
      obtain ⟨C0, c1, c2, c3, c4⟩ := C.xf x.c k hU hm (by rw [h2]; exact h3)
      rw [h2] at c2 c4
      have pv : PE (X.suite a ((a, oe) :: pn)) (.Name m p2) (tVar j) := pe_var n1 n2 (nmOk.l n3) (nmOk.r n3)
      refine (pe_xf c3 c4 hz hd pv).run pins s σ H Q I ?_
      obtain ⟨rx1, rx2⟩ := rx
      unfold evh at e
      split at e
      · rename_i d0 hvs
        cases e
        rw [hvs] at rx2
        obtain ⟨da, v, rfl, hF, rv⟩ := rx2
        refine ⟨_, hs j rfl, rfl, by rw [rx1, c1], da, _, v, rfl, sim.sub _ _ hF, ?_, q v W H (.refl _) sim rv⟩
        rw [c2]
        simp
      · cases e
  | .lst es, e, h => by
    cases e <;> first | (exact absurd h Bool.false_ne_true) | skip
    simp only [chkH] at h
    refine PE.imp (pe_lst (hes_ok C hU hi him hz hd es _ h)) ?_
    rintro σ H Q ⟨W, st, x, dv, sim, rx, hm, hs, e, q⟩
    rw [evh] at e
    split at e
    case h_2 => cases e
    rename_i ds e1
    split at e
    case isFalse => cases e
    rename_i hz
    cases e
    refine ⟨W, st, x, ds, sim, rx, hm, hs, e1, fun vs W1 H1 le1 sim1 ra => ⟨?_, fun p hp => ?_⟩⟩
    · rw [← ra.length]; exact szOk.le hz
    · obtain ⟨W', le, s', r'⟩ := sim1.newL hp ra
      exact q _ W' _ (le1.trans le) s' r'
  | .tup es, e, h => by
    cases e <;> first | (exact absurd h Bool.false_ne_true) | skip
    simp only [chkH] at h
    refine PE.imp (pe_tup (hes_ok C hU hi him hz hd es _ h)) ?_
    rintro σ H Q ⟨W, st, x, dv, sim, rx, hm, hs, e, q⟩
    rw [evh] at e
    split at e
    case h_2 => cases e
    rename_i ds e1
    split at e
    case isFalse => cases e
    rename_i hz
    cases e
    refine ⟨W, st, x, ds, sim, rx, hm, hs, e1, fun vs W1 H1 le1 sim1 ra => ⟨?_, fun p hp => ?_⟩⟩
    · rw [← ra.length]; exact szOk.le hz
    · obtain ⟨W', le, s', r'⟩ := sim1.newT hp ra
      exact q _ W' _ (le1.trans le) s' r'
theorem hes_ok (C : CondS T XW P G R U c X) {i : Option Nat} {m : Option Str} {k : Nat} (hU : U k) (hi : ∀ j n, i = some j → m = some n → X.N[j]? = some n ∧ Vis X.env.scope n ∧ nmOk n = true) (him : ∀ n, m = some n → ∃ j, i = some j) {a : Addr} {oe : Obj} {cls : Value} {dd : Option Addr} {pn : List (Addr × Obj)} (hz : Zc cls dd oe) (hd : ∃ vs, oe.data = .fields vs) :
    ∀ (h : HEs) (es : List Expr), chkHs c k m h es = true → PA (X.suite a ((a, oe) :: pn)) es (tHes T i a cls dd k h)
  | .nil, es, h => by
    cases es <;> first | (exact absurd h Bool.false_ne_true) | skip
    refine PA.imp pa_nil ?_
    rintro σ H Q ⟨W, st, x, ds, sim, rx, hm, hs, e, q⟩
    cases e
    exact q [] W H (.refl _) sim .nil
  | .cons y ys, es, h => by
    cases es <;> first | (exact absurd h Bool.false_ne_true) | skip
    simp only [chkHs, Bool.and_eq_true] at h
    refine PA.imp (pa_cons (he_ok C hU hi him hz hd y _ h.1.1) (hes_ok C hU hi him hz hd ys _ h.2) (star_cons h.1.2)) ?_
    rintro σ H Q ⟨W, st, x, ds, sim, rx, hm, hs, e, q⟩
    rw [evhs] at e
    split at e
    · rename_i d0 ds0 e1 e2
      cases e
      refine ⟨W, st, x, d0, sim, rx, hm, hs, e1, fun v W1 H1 le1 sim1 r1 => ⟨W1, st, x, ds0, sim1, rx.mono le1, hm, hs, e2, fun vs W2 H2 le2 sim2 r2 => ?_⟩⟩
      exact q _ W2 H2 (le1.trans le2) sim2 (.cons (r1.mono le2) r2)
    · cases e
end
end
end Ip
set_option Elab.async false
set_option linter.all false
set_option maxRecDepth 100000
set_option maxHeartbeats 1000000
/-! Every statement. -/
namespace Ip
open PySem PySem.Spec PyProof.Rows L2
mutual
def okS (P : Nat → List D → Fn → Prop) (G : Nat → D → Prop) (R : Nat → MkF → Prop) (U : Nat → Prop) : IS → Prop
  | .expr e => okE P G e
  | .ret e => okE P G e
  | .asg _ e => okE P G e
  | .par _ es => okEs P G es
  | .setI o i v => okE P G o ∧ okE P G i ∧ okE P G v
  | .aug _ _ e => okE P G e
  | .ite c a b => okE P G c ∧ okSs P G R U a ∧ okSs P G R U b
  | .whl _ c b => okE P G c ∧ okSs P G R U b
  | .for _ it b => okI P G it ∧ okSs P G R U b
  | .raise k mk es => R k mk ∧ okEs P G es
  | .try b hs => okSs P G R U b ∧ ∀ h ∈ hs, U h.k
  | _ => True
def okSs (P : Nat → List D → Fn → Prop) (G : Nat → D → Prop) (R : Nat → MkF → Prop) (U : Nat → Prop) : ISs → Prop
  | .nil => True
  | .cons s ss => okS P G R U s ∧ okSs P G R U ss
end
section
variable {T : Tb} {P : Nat → List D → Fn → Prop} {G : Nat → D → Prop} {R : Nat → MkF → Prop} {U : Nat → Prop}
theorem names_of {XW : WX} {c : Cfg} {X : Cx} (C : CondS T XW P G R U c X) {k : Nat} {n : Str} (hU : U k) (h1 : c.hn k = n) (h2 : glB c.sc n = true) (h3 : nmOk n = true) : Names X n (T.hc k) := by
  subst h1
  exact ⟨C.gl' h2, nmOk.l h3, C.hn k hU⟩
theorem PstS.ofTry {XW XW' : WX} {W : Wd} {o : OutS} {D : Ends} (h : PstS T XW W o D) (hn : ∀ x σ st, o ≠ .raise x σ st) : PstS T XW' W o D := by
  cases o with
  | raise x σ st => exact absurd rfl (hn x σ st)
  | nx _ _ => exact h
  | brk _ _ => exact h
  | cnt _ _ => exact h
  | ret _ _ => exact h
  | stuck => exact h
theorem s_tryAs {XW : WX} {c : Cfg} {X : Cx} (C : CondS T XW P G R U c X) {b : ISs} {body : List Stmt} {k i : Nat} {h : HE} {n m : Str} {e : Expr} {np rp hp pos : Pos} (hU : U k)
    (hb : ∀ (W : WX) (pn : List (Addr × Obj)) (xe : Value → Shared → Prop), Takes (X.tr pn xe) W → PassesOwn (model X.prog X.w) X.A X.env xe → PSs (X.tr pn xe) body (tSs T W b))
    (h1 : c.hn k = n) (h2 : glB c.sc n = true) (h3 : nmOk n = true) (h4 : chkN c none i m = true) (h5 : visB c.sc m = true) (h6 : nmOk m = true) (h7 : c.sc.names.lookup m = some .local) (h8 : chkH c k (some m) h e = true) :
    PS X (.Try body [.ExceptHandler (some (.Name n np)) (some m) [.Return (some e) rp] hp] [] [] pos) (tS T XW (.try b [⟨k, some i, h⟩])) := by
  obtain ⟨n1, n2, n3⟩ := chkN.at C.toCond h4
  refine PS.imp (ps_try_as (ts := fun a cls dd => tRet (tHe T (some i) a cls dd k h)) C.hs C.hf C.nd n1 (by show X.env.scope.names.lookup m = _; rw [C.sc]; exact h7) (names_of C hU h1 h2 h3) C.tk hb fun a oe cls dd pn hz hd => pss_one (ps_ret (he_ok C hU (fun j n' q1 q2 => by cases q1; cases q2; exact ⟨n1, C.vis h5, h6⟩) (fun _ _ => ⟨i, rfl⟩) hz hd h e h8))) ?_
  rintro D σ H ⟨W, st, σd, sim, rs, q⟩
  simp only [exec] at q
  refine ⟨W, st, σd, sim, rs, ?_⟩
  cases eo : execs T.xm b σd st with
  | raise x σ1 st1 =>
    rw [eo] at q
    intro W' σ' H' cls dd le sim' rs' rx
    refine ⟨T.xm x.c k, by rw [rx.1]; exact C.xm x.c k hU, fun hm a ha => ?_, fun hm => ?_⟩
    · have q2 : PstS T XW W (if T.xm x.c k = true then (match evh x h with
        | some d => if decide (i < σ1.length) = true then .ret d st1 else .stuck
        | none => .stuck) else handle T.xm x σ1 st1 []) D := q
      rw [if_pos hm] at q2
      cases ee : evh x h with
      | none => rw [ee] at q2; exact q2.elim
      | some dv =>
        rw [ee] at q2
        by_cases hl : i < σ1.length
        · simp only [decide_eq_true hl, if_true] at q2
          refine ⟨W', st1, x, dv, sim', rx, hm, fun j q => ?_, ee, fun v W'' H'' le'' sim'' r => q2 W'' v H'' (le.trans le'') sim'' r⟩
          cases q
          exact List.getElem?_set_self (by rw [← rs'.len]; exact hl)
        · simp only [decide_eq_false hl, Bool.false_eq_true, if_false] at q2
          exact q2.elim
    · have q2 : PstS T XW W (if T.xm x.c k = true then (match evh x h with
        | some d => if decide (i < σ1.length) = true then .ret d st1 else .stuck
        | none => .stuck) else handle T.xm x σ1 st1 []) D := q
      rw [if_neg (by rw [hm]; exact Bool.false_ne_true)] at q2
      exact q2 W' σ' H' cls dd le sim' rs' rx
  | nx _ _ => rw [eo] at q; exact q
  | brk _ _ => rw [eo] at q; exact q
  | cnt _ _ => rw [eo] at q; exact q
  | ret _ _ => rw [eo] at q; exact q
  | stuck => rw [eo] at q; exact q
/-- the clauses' readings -/
def hdl (T : Tb) (h : Hd) : Value × (Addr → Value → Option Addr → TS) := (T.hc h.k, fun a cls dd => tRet (tHe T none a cls dd h.k h.h))
theorem hds_ok {XW : WX} {c : Cfg} {X : Cx} (C : CondS T XW P G R U c X) : ∀ {hs : List Hd} {ys : List ExceptHandler}, (∀ h ∈ hs, U h.k) → chkHds c hs ys = true → HdsOk X ys (hs.map (hdl T)) ∧ ∀ h ∈ hs, h.i = none
  | [], ys, _, h => by
    cases ys with
    | nil => exact ⟨.nil, fun _ z => nomatch z⟩
    | cons _ _ => exact absurd h Bool.false_ne_true
  | hh :: hs, ys, hU, h => by
    cases ys with
    | nil => exact absurd h Bool.false_ne_true
    | cons y ys =>
      simp only [chkHds, Bool.and_eq_true] at h
      obtain ⟨r1, r2⟩ := hds_ok C (fun h' z => hU h' (List.mem_cons_of_mem _ z)) h.2
      obtain ⟨k, i, he⟩ := hh
      replace h := h.1
      unfold chkHd at h
      split at h
      · rename_i e2
        cases e2
        simp only [Bool.and_eq_true, decide_eq_true_eq] at h
        obtain ⟨⟨⟨h1, h2⟩, h3⟩, h4⟩ := h
        have hU0 := hU _ List.mem_cons_self
        refine ⟨.cons (names_of C hU0 h1 h2 h3) (fun a oe cls dd pn hz hd => pss_one (ps_ret (he_ok (i := none) (m := none) C hU0 (fun j n' q1 _ => nomatch q1) (fun _ q => nomatch q) hz hd _ _ h4))) r1, fun h' z => ?_⟩
        rcases List.mem_cons.mp z with rfl | z
        · rfl
        · exact r2 h' z
      · exact absurd h Bool.false_ne_true
theorem s_tryMany {XW : WX} {c : Cfg} {X : Cx} (C : CondS T XW P G R U c X) {b : ISs} {body : List Stmt} {hs : List Hd} {y0 : ExceptHandler} {ys : List ExceptHandler} {pos : Pos} (hU : ∀ h ∈ hs, U h.k)
    (hb : ∀ (W : WX) (pn : List (Addr × Obj)) (xe : Value → Shared → Prop), Takes (X.tr pn xe) W → PassesOwn (model X.prog X.w) X.A X.env xe → PSs (X.tr pn xe) body (tSs T W b)) (h1 : chkHds c hs (y0 :: ys) = true) :
    PS X (.Try body (y0 :: ys) [] [] pos) (tS T XW (.try b hs)) := by
  obtain ⟨r1, r2⟩ := hds_ok C hU h1
  refine PS.imp (ps_try_many C.hs C.hf C.tk hb r1) ?_
  rintro D σ H ⟨W, st, σd, sim, rs, q⟩
  simp only [exec] at q
  refine ⟨W, st, σd, sim, rs, ?_⟩
  cases eo : execs T.xm b σd st with
  | raise x σ1 st1 =>
    rw [eo] at q
    intro W' σ' H' cls dd le sim' rs' rx
    have q' : PstS T XW W (handle T.xm x σ1 st1 hs) D := q
    clear q h1 r1 hb
    revert q' r2 hU
    induction hs with
    | nil => intro _ _ q; exact q W' σ' H' cls dd le sim' rs' rx
    | cons h hs ih =>
      intro hU r2 q
      rw [handle] at q
      refine ⟨T.xm x.c h.k, by rw [rx.1]; exact C.xm x.c h.k (hU h List.mem_cons_self), fun hm a ha => ?_, fun hm => ?_⟩
      · rw [if_pos hm] at q
        cases ee : evh x h.h with
        | none => rw [ee] at q; exact q.elim
        | some dv =>
          rw [ee, r2 h List.mem_cons_self] at q
          exact ⟨W', st1, x, dv, sim', rx, hm, (fun j z => nomatch z), ee, fun v W'' H'' le'' sim'' r => q W'' v H'' (le.trans le'') sim'' r⟩
      · rw [if_neg (by rw [hm]; exact Bool.false_ne_true)] at q
        exact ih (fun h' z => hU h' (List.mem_cons_of_mem _ z)) (fun h' z => r2 h' (List.mem_cons_of_mem _ z)) q
  | nx _ _ => rw [eo] at q; exact q
  | brk _ _ => rw [eo] at q; exact q
  | cnt _ _ => rw [eo] at q; exact q
  | ret _ _ => rw [eo] at q; exact q
  | stuck => rw [eo] at q; exact q
mutual
theorem mS : ∀ (a : IS) {XW : WX} {c : Cfg} {X : Cx} (s : Stmt), CondS T XW P G R U c X → okS P G R U a → chkS c a s = true → PS X s (tS T XW a)
  | .pass, XW, c, X, s, C, ok, h => by
    cases s <;> first | (exact absurd h Bool.false_ne_true) | exact s_pass
  | .brk, XW, c, X, s, C, ok, h => by
    cases s <;> first | (exact absurd h Bool.false_ne_true) | exact s_brk
  | .cnt, XW, c, X, s, C, ok, h => by
    cases s <;> first | (exact absurd h Bool.false_ne_true) | exact s_cnt
  | .doc t, XW, c, X, s, C, ok, h => by
    cases s <;> first | (exact absurd h Bool.false_ne_true) | skip
    rename_i v p
    cases v <;> first | (exact absurd h Bool.false_ne_true) | skip
    rename_i k n p2
    cases k <;> first | (exact absurd h Bool.false_ne_true) | skip
    simp only [chkS, decide_eq_true_eq] at h
    subst h
    exact s_doc
  | .expr e, XW, c, X, s, C, ok, h => by
    cases s <;> first | (exact absurd h Bool.false_ne_true) | skip
    simp only [chkS, Bool.and_eq_true] at h
    exact s_expr (mE e _ C.toCond ok h.1).1 h.2
  | .ret e, XW, c, X, s, C, ok, h => by
    cases s <;> first | (exact absurd h Bool.false_ne_true) | skip
    rename_i v p
    cases v <;> first | (exact absurd h Bool.false_ne_true) | skip
    simp only [chkS] at h
    exact s_ret (mE e _ C.toCond ok h).1
  | .retN, XW, c, X, s, C, ok, h => by
    cases s <;> first | (exact absurd h Bool.false_ne_true) | skip
    rename_i v p
    cases v <;> first | (exact absurd h Bool.false_ne_true) | exact s_retN
  | .asg t e, XW, c, X, s, C, ok, h => by
    cases t with
    | nm i =>
      cases s <;> first | (exact absurd h Bool.false_ne_true) | skip
      rename_i ts v p
      rcases ts with _ | ⟨tg, _ | _⟩ <;> first | (exact absurd h Bool.false_ne_true) | (cases tg <;> first | (exact absurd h Bool.false_ne_true) | skip)
      simp only [chkS, Bool.and_eq_true, Bool.or_eq_true] at h
      obtain ⟨⟨h1, h2⟩, h3⟩ := h
      by_cases h4 : noComp v = true
      · exact s_asg C h1 (mE e _ C.toCond ok h2).1 h4
      · exact s_asgC C h1 ok h2 (h3.resolve_left h4)
    | tp is =>
      cases s <;> first | (exact absurd h Bool.false_ne_true) | skip
      rename_i ts v p
      rcases ts with _ | ⟨tg, _ | _⟩ <;> first | (exact absurd h Bool.false_ne_true) | (cases tg <;> first | (exact absurd h Bool.false_ne_true) | skip)
      simp only [chkS, Bool.and_eq_true] at h
      exact s_tup C h.1.1 (mE e _ C.toCond ok h.1.2).1 h.2
  | .par is es, XW, c, X, s, C, ok, h => by
    cases s <;> first | (exact absurd h Bool.false_ne_true) | skip
    rename_i ts v p
    rcases ts with _ | ⟨tg, _ | _⟩ <;> first | (exact absurd h Bool.false_ne_true) | (cases tg <;> cases v <;> first | (exact absurd h Bool.false_ne_true) | skip)
    simp only [chkS, Bool.and_eq_true, decide_eq_true_eq, Bool.not_eq_true'] at h
    obtain ⟨⟨⟨⟨⟨⟨⟨h1, h2⟩, h3⟩, h4⟩, h5⟩, h6⟩, h7⟩, h8⟩ := h
    exact s_par C h2 (mEs es _ C.toCond ok h2) h3 h4 h5 (names_len (env := X.env) h1).1.symm h6 h7 h8
  | .setI o i v, XW, c, X, s, C, ok, h => by
    cases s <;> first | (exact absurd h Bool.false_ne_true) | skip
    rename_i ts x p
    rcases ts with _ | ⟨tg, _ | _⟩ <;> first | (exact absurd h Bool.false_ne_true) | (cases tg <;> first | (exact absurd h Bool.false_ne_true) | skip)
    simp only [chkS, Bool.and_eq_true] at h
    obtain ⟨⟨⟨h1, h2⟩, h3⟩, h4⟩ := h
    exact s_setI C (mE v _ C.toCond ok.2.2 h1).1 (mE o _ C.toCond ok.1 h2).1 (mE i _ C.toCond ok.2.1 h3).1 h4
  | .aug i o e, XW, c, X, s, C, ok, h => by
    cases s <;> first | (exact absurd h Bool.false_ne_true) | skip
    rename_i tg op v p
    cases tg <;> first | (exact absurd h Bool.false_ne_true) | skip
    simp only [chkS, Bool.and_eq_true, decide_eq_true_eq] at h
    obtain ⟨⟨⟨rfl, h1⟩, h2⟩, h3⟩ := h
    exact s_aug C h2 (mE e _ C.toCond ok h3).1 h1
  | .ite e a b, XW, c, X, s, C, ok, h => by
    cases s <;> first | (exact absurd h Bool.false_ne_true) | skip
    simp only [chkS, Bool.and_eq_true] at h
    exact s_ite (mE e _ C.toCond ok.1 h.1.1).2.1 (mSs a _ C ok.2.1 h.1.2) (mSs b _ C ok.2.2 h.2)
  | .whl n e b, XW, c, X, s, C, ok, h => by
    cases s <;> first | (exact absurd h Bool.false_ne_true) | skip
    rename_i u x y p
    cases y <;> first | (exact absurd h Bool.false_ne_true) | skip
    simp only [chkS, Bool.and_eq_true] at h
    exact s_whl C (mE e _ C.toCond ok.1 h.1).2.1 (mSs b _ C ok.2 h.2)
  | .for t it b, XW, c, X, s, C, ok, h => by
    cases s <;> first | (exact absurd h Bool.false_ne_true) | skip
    rename_i tg i x y p
    cases y <;> first | (exact absurd h Bool.false_ne_true) | skip
    simp only [chkS, Bool.and_eq_true] at h
    obtain ⟨⟨⟨h1, h2⟩, h3⟩, h4⟩ := h
    exact s_for C (mI it i C.toCond ok.1 h1 tg) h2 h3 (mSs b _ C ok.2 h4)
  | .raise k f es, XW, c, X, s, C, ok, h => by
    cases s <;> first | (exact absurd h Bool.false_ne_true) | skip
    rename_i v cs p
    cases v <;> first | (exact absurd h Bool.false_ne_true) | skip
    rename_i v
    cases v <;> first | (exact absurd h Bool.false_ne_true) | skip
    rename_i g as ks p2
    cases g <;> first | (exact absurd h Bool.false_ne_true) | skip
    rcases as with _ | ⟨y, ys⟩ <;> rcases ks with _ | _ <;> cases cs <;> first | (exact absurd h Bool.false_ne_true) | skip
    simp only [chkS, Bool.and_eq_true, decide_eq_true_eq] at h
    obtain ⟨⟨⟨h1, h2⟩, h3⟩, h4⟩ := h
    exact s_raise C ok.1 h1 h2 (mEs es _ C.toCond ok.2 h4) h4
  | .try b hs, XW, c, X, s, C, ok, h => by
    cases s <;> first | (exact absurd h Bool.false_ne_true) | skip
    rename_i body hds el fin p
    cases el <;> cases fin <;> first | (exact absurd h Bool.false_ne_true) | skip
    have hb : chkSs c b body = true → ∀ (W : WX) (pn : List (Addr × Obj)) (xe : Value → Shared → Prop), Takes (X.tr pn xe) W → PassesOwn (model X.prog X.w) X.A X.env xe → PSs (X.tr pn xe) body (tSs T W b) := fun h0 W pn xe tk hp => mSs b _ (C.tr tk hp) ok.1 h0
    have as : ∀ {hs : List Hd} {hds : List ExceptHandler}, (∀ h ∈ hs, U h.k) → chkSs c b body = true → hs ≠ [] → chkHds c hs hds = true → PS X (.Try body hds [] [] p) (tS T XW (.try b hs)) := by
      intro hs hds hU h1 h0 h2
      cases hds with
      | nil =>
        cases hs with
        | nil => exact absurd rfl h0
        | cons _ _ => exact absurd h2 Bool.false_ne_true
      | cons y ys => exact s_tryMany C hU (hb h1) h2
    unfold chkS at h
    rw [Bool.and_eq_true] at h
    obtain ⟨h1, h2⟩ := h
    split at h2
    · simp only [Bool.and_eq_true, decide_eq_true_eq] at h2
      obtain ⟨⟨⟨⟨⟨⟨⟨g1, g2⟩, g3⟩, g4⟩, g5⟩, g6⟩, g7⟩, g8⟩ := h2
      exact s_tryAs C (ok.2 _ List.mem_cons_self) (hb h1) g1 g2 g3 g4 g5 g6 g7 g8
    · exact absurd h2 Bool.false_ne_true
    · rename_i hne _
      exact as ok.2 h1 (fun z => hne z) h2
theorem mSs : ∀ (a : ISs) {XW : WX} {c : Cfg} {X : Cx} (ss : List Stmt), CondS T XW P G R U c X → okSs P G R U a → chkSs c a ss = true → PSs X ss (tSs T XW a)
  | .nil, XW, c, X, ss, C, ok, h => by
    cases ss <;> first | (exact absurd h Bool.false_ne_true) | skip
    refine PSs.imp pss_nil ?_
    rintro D σ H ⟨W, st, σd, sim, rs, q⟩
    simp only [execs] at q
    exact q W σ H (.refl _) sim rs
  | .cons a as, XW, c, X, ss, C, ok, h => by
    cases ss <;> first | (exact absurd h Bool.false_ne_true) | skip
    simp only [chkSs, Bool.and_eq_true] at h
    refine PSs.imp (pss_cons (mS a _ C ok.1 h.1) (mSs as _ C ok.2 h.2)) ?_
    rintro D σ H ⟨W, st, σd, sim, rs, q⟩
    simp only [execs] at q
    refine ⟨W, st, σd, sim, rs, ?_⟩
    have q2 := PstS.seq q
    cases eo : exec T.xm a σd st with
    | nx σ1 st1 =>
      rw [eo] at q2
      intro W' σ' H' le sim' rs'
      obtain ⟨W1, σd1, st2, le1, sim1, rs1, q3⟩ := q2 W' σ' H' le sim' rs'
      exact ⟨W1, st2, σd1, sim1, rs1, q3⟩
    | brk _ _ => rw [eo] at q2; exact q2
    | cnt _ _ => rw [eo] at q2; exact q2
    | ret _ _ => rw [eo] at q2; exact q2
    | raise _ _ _ => rw [eo] at q2; exact q2
    | stuck => rw [eo] at q2; exact q2
end
end
end Ip
set_option Elab.async false
set_option linter.all false
set_option maxRecDepth 100000
set_option maxHeartbeats 1000000
/-! A def by its term. -/
namespace Ip
open PySem PySem.Spec PyProof.Rows L2

/-! ### what a call lets go -/
section
variable {T : Tb}
mutual
/-- every cell that is told lies below n -/
def Lt (n : Nat) : D → Prop
  | .tup xs => Lts n xs
  | .lst xs => Lts n xs
  | .dct ks vs => Lts n ks ∧ Lts n vs
  | .obj _ fs => Lts n fs
  | .ref k => k < n
  | _ => True
def Lts (n : Nat) : List D → Prop
  | [] => True
  | x :: xs => Lt n x ∧ Lts n xs
end
mutual
theorem noRef_lt {n : Nat} : ∀ {d : D}, noRef d = true → Lt n d
  | .non, _ => trivial
  | .bl _, _ => trivial
  | .int _, _ => trivial
  | .str _, _ => trivial
  | .tup xs, h => noRefs_lt (by simpa [noRef] using h)
  | .lst xs, h => noRefs_lt (by simpa [noRef] using h)
  | .dct ks vs, h => by
    simp only [noRef, Bool.and_eq_true] at h
    exact ⟨noRefs_lt h.1, noRefs_lt h.2⟩
  | .obj _ fs, h => noRefs_lt (by simpa [noRef] using h)
  | .cls _, _ => trivial
  | .ref _, h => by simp [noRef] at h
theorem noRefs_lt {n : Nat} : ∀ {ds : List D}, noRefs ds = true → Lts n ds
  | [], _ => trivial
  | x :: xs, h => by
    simp only [noRefs, Bool.and_eq_true] at h
    exact ⟨noRef_lt h.1, noRefs_lt h.2⟩
end
mutual
theorem Rep.lt {W : Wd} : ∀ {d : D} {v : V}, Rep T W d v → Lt W.φ.length d
  | _, _, .non => trivial
  | _, _, .bl _ => trivial
  | _, _, .int _ => trivial
  | _, _, .str _ => trivial
  | _, _, .tup _ r => RepA.lt r
  | _, _, .lst _ r => RepA.lt r
  | _, _, .ref h => (List.getElem?_eq_some_iff.mp h).1
  | _, _, .cls _ => trivial
  | _, _, .dct0 _ => ⟨trivial, trivial⟩
theorem RepA.lt {W : Wd} : ∀ {ds : List D} {vs : List V}, RepA T W ds vs → Lts W.φ.length ds
  | _, _, .nil => trivial
  | _, _, .cons h r => ⟨Rep.lt h, RepA.lt r⟩
end
mutual
/-- a value that tells cells of W alone, back in W -/
theorem Rep.back {W W' : Wd} (sub : W.Sub W') {h : List (Addr × HO)} : ∀ {d : D} {v : V}, Rep T W' d v → Lt W.φ.length d → Rep T ⟨W'.F, W.φ, h⟩ d v
  | _, _, .non, _ => .non
  | _, _, .bl b, _ => .bl b
  | _, _, .int i, _ => .int i
  | _, _, .str x, _ => .str x
  | _, _, .tup q r, l => .tup q (RepA.back sub r l)
  | _, _, .lst q r, l => .lst q (RepA.back sub r l)
  | _, _, .ref (n := n) (p := p) q, l => .ref (by
    obtain ⟨_, r, e⟩ := sub
    rw [e, List.getElem?_append_left l] at q
    exact q)
  | _, _, .cls c, _ => .cls c
  | _, _, .dct0 q, _ => .dct0 q
theorem RepA.back {W W' : Wd} (sub : W.Sub W') {h : List (Addr × HO)} : ∀ {ds : List D} {vs : List V}, RepA T W' ds vs → Lts W.φ.length ds → RepA T ⟨W'.F, W.φ, h⟩ ds vs
  | _, _, .nil, _ => .nil
  | _, _, .cons q r, l => .cons (Rep.back sub q l.1) (RepA.back sub r l.2)
end
def LtC (n : Nat) : Cell → Prop
  | .lst ds => Lts n ds
  | _ => True
theorem keepB_lt {W : Wd} : ∀ {st st' : Store} {H : Hp}, keepB st st' = true → (∀ (i : Nat) c, st[i]? = some c → LtC W.φ.length c) → st.length ≤ st'.length ∧ ∀ (i : Nat) c, i < st.length → st'[i]? = some c → LtC W.φ.length c
  | [], _, _, _, _ => ⟨Nat.zero_le _, fun i c h => absurd h (Nat.not_lt_zero i)⟩
  | c :: cs, [], _, h, _ => by simp [keepB] at h
  | c :: cs, d :: ds, H, h, k => by
    simp only [keepB, Bool.and_eq_true, Bool.or_eq_true] at h
    obtain ⟨h1, h2⟩ := keepB_lt (H := H) h.2 (fun i c' e => k (i + 1) c' (by simpa using e))
    refine ⟨by simp; exact h1, fun i c' hi e => ?_⟩
    cases i with
    | zero =>
      simp at e
      subst e
      rcases h.1 with h0 | h0
      · rw [← sameC_eq h0]; exact k 0 c (by simp)
      · cases d with
        | lst xs => exact noRefs_lt h0
        | _ => trivial
    | succ i => exact h2 i c' (by simpa using hi) (by simpa using e)
/-- the store behind a call: the world falls back to the caller's cells -/
theorem Sim.close {W W' : Wd} {st st' : Store} {H H' : Hp} (s : Sim T W st H) (le : W.le W') (s' : Sim T W' st' H') : ∃ W2, W.le W2 ∧ Sim T W2 (closeSt st st') H' ∧ (∀ {d : D} {v : V}, noRef d = true → Rep T W' d v → Rep T W2 d v) ∧ W2.F = W'.F := by
  unfold closeSt
  split
  · rename_i hk
    have cells : ∀ (i : Nat) c, st[i]? = some c → LtC W.φ.length c := fun i c e => by
      obtain ⟨p, hp⟩ : ∃ p, W.φ[i]? = some p := by
        have : i < W.φ.length := by rw [s.len]; exact (List.getElem?_eq_some_iff.mp e).1
        exact ⟨_, List.getElem?_eq_getElem this⟩
      have := s.cell i c p e hp
      cases c with
      | lst ds => obtain ⟨xs, _, r, _⟩ := this; exact r.lt
      | _ => trivial
    obtain ⟨hl, hc⟩ := keepB_lt (W := W) (H := H) hk cells
    obtain ⟨r, hr⟩ := le.1.2
    have old : ∀ {i : Nat} {c : Cell} {p : Addr × Addr}, (st'.take st.length)[i]? = some c → W.φ[i]? = some p → i < st.length ∧ st'[i]? = some c ∧ W'.φ[i]? = some p := fun {i c p} h1 h2 => by
      have hi : i < st.length := by rw [← s.len]; exact (List.getElem?_eq_some_iff.mp h2).1
      rw [List.getElem?_take_of_lt hi] at h1
      exact ⟨hi, h1, le.1.at h2⟩
    refine ⟨⟨W'.F, W.φ, W'.h⟩, ⟨⟨le.1.1, [], by simp⟩, le.2⟩, ⟨s'.sub, ?_, fun i c p h1 h2 => ?_, fun i c p h1 h2 h3 => ?_, fun q hq => ⟨(s'.held q hq).1, (s'.held q hq).2.1, fun i c p h1 h2 h3 => ?_⟩, s'.hnd, fun i j c d p q hij h1 h2 h3 h4 h5 h6 => ?_⟩, fun h r => r.back le.1 (noRef_lt h), rfl⟩
    · rw [List.length_take, Nat.min_eq_left hl]; exact s.len
    · obtain ⟨hi, g1, g2⟩ := old h1 h2
      have cr := s'.cell i c p g1 g2
      have hlt := hc i c hi g1
      cases c with
      | dead => trivial
      | lst ds => obtain ⟨xs, a1, a2, a3⟩ := cr; exact ⟨xs, a1, a2.back le.1 hlt, a3⟩
      | dct _ _ => exact cr
      | ins _ _ => exact cr
    · obtain ⟨_, g1, g2⟩ := old h1 h2
      exact s'.own i c p g1 g2 h3
    · obtain ⟨_, g1, g2⟩ := old h1 h2
      exact (s'.held q hq).2.2 i c p g1 g2 h3
    · obtain ⟨_, g1, g2⟩ := old h1 h5
      obtain ⟨_, g3, g4⟩ := old h2 h6
      exact s'.sep i j c d p q hij g1 g3 h3 h4 g2 g4
  · exact ⟨W', le, s', fun _ r => r, rfl⟩
theorem noRefs_one {d : D} (h : noRefs [d] = true) : noRef d = true := by simpa [noRefs] using h
end

/-! ### a def -/
/-- what holds around every body of the written part -/
structure Glob (T : Tb) (Pg : Program) (w : World) (K : PySem.W.Frag) (mg : Str → Option Value) (base : Heap) (G : Nat → D → Prop) (U : Nat → Prop) (c : Cfg) : Prop where
  hK : T.K = K
  bl : ∀ b : Blt, c.bk b = true → if b = .gcd then mg b.nm = some b.val else mg b.nm = none
  isi : c.ik = true → mg "isinstance" = none
  ty : ∀ t : Ty, c.tk t = true → mg t.nm = none
  rg : c.rk = true → mg "range" = none
  gl : ∀ i d, G i d → ∃ u v, mg (c.gl i) = some u ∧ RelV v u ∧ ∀ W, Rep T W d v
  hn : ∀ k, U k → mg (c.hn k) = some (T.hc k) ∨ (mg (c.hn k) = none ∧ bootBuiltins (c.hn k) = some (T.hc k) ∧ c.hn k ≠ "__name__")
  xm : ∀ x k, U k → PySem.W.exmOne K (T.xa x) (T.hc k) = some (T.xm x k)
  xf : ∀ x k, U k → T.xm x k = true → c.hf k ≠ "" → ∃ C, T.xa x = .ref C ∧ T.xf x = c.hf k ∧ XfC K C ∧ PySem.W.findIn K (.ref C) (c.hf k) = some none
/-- a def that may be called k frames deep -/
def FnAt (T : Tb) (Pg : Program) (w : World) (K : PySem.W.Frag) (mg : Str → Option Value) (base : Heap) (nm : Str) (k : Nat) (dv : List D) (sm : Fn) : Prop :=
  ∃ (f : Addr) (fd : FuncData) (ps : List Str) (ds : List Value) (dvs : List V), FnG Pg w K mg base k f fd ps (spOf T sm) ∧ mg nm = some (.ref f) ∧ PySem.W.keepIn K (.ref f) = true ∧ Binds K fd ps ds ∧ Vals dvs ds ∧ ∀ W, RepA T W dv dvs
theorem FnAt.mono {T : Tb} {Pg : Program} {w : World} {K : PySem.W.Frag} {mg : Str → Option Value} {base : Heap} {nm : Str} {j k : Nat} {dv : List D} {sm : Fn} (h : FnAt T Pg w K mg base nm j dv sm) (le : j ≤ k) : FnAt T Pg w K mg base nm k dv sm := by
  obtain ⟨f, fd, ps, ds, dvs, F, r⟩ := h
  exact ⟨f, fd, ps, ds, dvs, F.mono le, r⟩
/-- an exception class that may be called -/
def MkAt (T : Tb) (Pg : Program) (w : World) (K : PySem.W.Frag) (mg : Str → Option Value) (base : Heap) (nm : Str) (k : Nat) (mk : MkF) : Prop :=
  ∀ X : Cx, X.prog = Pg → X.w = w → X.K = K → X.mg = mg → X.base = base → X.calm = true → X.A.guards = some [] → Room k X.A → MkOk T nm X mk
theorem MkAt.mono {T : Tb} {Pg : Program} {w : World} {K : PySem.W.Frag} {mg : Str → Option Value} {base : Heap} {nm : Str} {j k : Nat} {mk : MkF} (h : MkAt T Pg w K mg base nm j mk) (le : j ≤ k) : MkAt T Pg w K mg base nm k mk :=
  fun X e1 e2 e3 e4 e5 hc hg hr => h X e1 e2 e3 e4 e5 hc hg (hr.mono le)
theorem repS_start {T : Tb} {W : Wd} {ds : List D} {vs : List V} {N : List Str} {np : Nat} (r : RepA T W ds vs) (hl : ds.length = np) : RepS T W (L2.start N vs) (ds.map some ++ List.replicate (N.length - np) none) := by
  have hv := r.length
  refine ⟨?_, fun i d e => ?_⟩
  · unfold L2.start
    simp only [List.length_append, List.length_map, List.length_replicate]
    omega
  · by_cases hi : i < ds.length
    · rw [List.getElem?_append_left (by simpa using hi), List.getElem?_map] at e
      obtain ⟨d0, e0, e1⟩ := Option.map_eq_some_iff.mp e
      cases e1
      obtain ⟨v, hv2, rv⟩ := r.get e0
      refine ⟨v, ?_, rv⟩
      unfold L2.start
      rw [List.getElem?_append_left (by simp; omega), List.getElem?_map, hv2]
      rfl
    · rw [List.getElem?_append_right (by simpa using hi)] at e
      rw [List.getElem?_replicate] at e
      split at e <;> cases e
section
variable {T : Tb} {Pg : Program} {w : World} {K : PySem.W.Frag} {mg : Str → Option Value} {base : Heap} {G : Nat → D → Prop} {U : Nat → Prop} {c : Cfg} {k : Nat} {P : Nat → List D → Fn → Prop} {R : Nat → MkF → Prop}
theorem fn_by {f : Addr} {name qual : Str} {params : Arguments} {stmts : List Stmt} {scope : Scope} {dV kV doc pm cdv ct oc : Value} {an od : Option Addr} {osl : Array (Option Value)} {N ps : List Str} {body : ISs}
    (Gl0 : Glob T Pg w K mg base G U c) (hsc : c.sc = scope) (hwr : c.wr = scope) (hN : c.N = N) (fns : ∀ i dv sm, P i dv sm → FnAt T Pg w K mg base (c.fn i) k dv sm) (mks : ∀ x mk, R x mk → MkAt T Pg w K mg base (c.xn x) k mk)
    (lk : K.lookup f = some ⟨oc, od, .func (PySem.W.fnOf name qual params stmts scope dV kV doc pm an cdv ct), osl⟩) (hcd : PySem.W.codeIn K cdv qual = true) (S : FnScope N ps scope)
    (ok : okSs P G R U body) (h : chkSs c body stmts = true) :
    FnG Pg w K mg base (k + 1) f (PySem.W.fnOf name qual params stmts scope dV kV doc pm an cdv ct) ps (spOf T (callD T.xm ps.length (N.length - ps.length) body)) := by
  refine fn_ofG lk hcd S (fun vs H Q E hq => ?_) fun A out s H vs Q E hr hg hq => ?_
  · obtain ⟨W, st, ds, sim, ra, hq⟩ := hq
    rw [← ra.length]
    unfold callD at hq
    split at hq
    · assumption
    · exact hq.elim
  · obtain ⟨W, st, ds, sim, ra, hq⟩ := hq
    refine ⟨tSs T (fun cls dd _ H => E cls dd H) body, mSs (P := P) (G := G) (R := R) (U := U) (c := c) body stmts ?_ ok h, ?_⟩
    · refine { toCond := { hK := Gl0.hK, sc := hsc.symm, N := hN.symm, nd := S.nd, calm := rfl, gd := hg, room := hr.mono (Nat.zero_le _), tk := takes_of rfl rfl rfl rfl, wr := ?_, bl := Gl0.bl, isi := Gl0.isi, ty := Gl0.ty, rg := Gl0.rg, fn := ?_, gl := Gl0.gl }, pw := passes_of rfl, hs := rfl, hf := rfl, kd := S.kind, mkx := ?_, hn := Gl0.hn, xm := Gl0.xm, xf := Gl0.xf }
      · intro x hx
        rw [hwr] at hx
        exact ⟨locB.loc hx, .inl rfl⟩
      · intro i dv sm hp
        obtain ⟨f', fd', ps', ds', dvs', a1, a2, a3, a4, a5, a6⟩ := fns i dv sm hp
        exact ⟨⟨k, f', fd', ps', ds', dvs', a1, a2, a3, a4, a5, a6, hr⟩⟩
      · intro x mk hx pn xe
        exact mks x mk hx _ rfl rfl rfl rfl rfl rfl hg hr
    · unfold callD at hq
      split at hq
      case isFalse => exact hq.elim
      rename_i hl
      refine ⟨W, st, _, sim, repS_start ra hl, ?_⟩
      cases eo : execs T.xm body (ds.map some ++ List.replicate (N.length - ps.length) none) st with
      | nx σ1 st1 =>
        rw [eo] at hq
        intro W' σ' H' le sim' rs'
        obtain ⟨W2, le2, sim2, _, _⟩ := sim.close le sim'
        exact hq .non W2 H' le2 sim2 .non
      | ret d st1 =>
        rw [eo] at hq
        intro W' v H' le sim' r
        replace hq : Pst T (fun cls dd _ H => E cls dd H) [] W (Rep T) (if noRef d = true then .ok d (closeSt st st1) else .ok d st1) Q := hq
        split at hq
        · rename_i hn
          obtain ⟨W2, le2, sim2, back, _⟩ := sim.close le sim'
          exact hq v W2 H' le2 sim2 (back hn r)
        · exact hq v W' H' le sim' r
      | raise x σ1 st1 =>
        rw [eo] at hq
        intro W' σ' H' cls dd le sim' rs' rx
        replace hq : Pst T (fun cls dd _ H => E cls dd H) [] W (Rep T) (if noRefs x.vs = true then .raise x (closeSt st st1) else .raise x st1) Q := hq
        split at hq
        · rename_i hn
          obtain ⟨W2, le2, sim2, back, hF⟩ := sim.close le sim'
          refine hq cls dd W2 H' le2 sim2 ⟨rx.1, ?_⟩
          have r2 := rx.2
          split at r2
          · trivial
          · rename_i d hvs
            obtain ⟨a, v, q1, q2, q3⟩ := r2
            rw [hvs] at hn
            exact ⟨a, v, q1, by rw [hF]; exact q2, back (noRefs_one hn) q3⟩
          · exact r2.elim
        · exact hq cls dd W' H' le sim' rx
      | brk _ _ => rw [eo] at hq; exact hq.elim
      | cnt _ _ => rw [eo] at hq; exact hq.elim
      | stuck => rw [eo] at hq; exact hq.elim
end
end Ip
set_option Elab.async false
set_option linter.all false
set_option maxRecDepth 100000
set_option maxHeartbeats 1000000
/-! An own exception class whose __init__ says super().__init__(x); self.f = p: how it is made. -/
namespace Ip
open PySem PySem.Spec PyProof.Rows

/-- the text of such an __init__ -/
def XBody (env : Addr → Env) (body : List Stmt) (slf par fld : Str) (a : Expr) : Prop :=
  ∃ (p1 p2 p3 p4 p5 p6 p7 p8 p9 : Pos), body = [.Expr (.Call (.Attribute (.Call (.Name "super" p1) [] [] p2) "__init__" p3) [a] [] p4) p5, .Assign [.Attribute (.Name slf p6) fld p7] (.Name par p8) p9] ∧
    ∀ L, ∃ pl : PySem.Sem Bool, PySem.eval (.Call (.Attribute (.Call (.Name "super" p1) [] [] p2) "__init__" p3) [a] [] p4) (env L) = (do
      let o ← attributeBase (.Call (.Name "super" p1) [] [] p2) "__init__" (env L) (PySem.eval (.Call (.Name "super" p1) [] [] p2) (env L))
      standAt p3.atName
      let (f, first) ← holding [o] (getMethod o "__init__" pl)
      callWith p4 f first (backTo p4 (starEach [a] (env L))) [])
/-- what such a class is, in the written part -/
structure XCls (pg : Program) (K : PySem.W.Frag) (C : Addr) (B initId newId : String) (bmB : List Value) (fI cda cc : Addr) (qual slf par fld : Str) (scope : Scope) (body : List Stmt) (a : Expr) : Prop where
  FB : ExcBaseFacts B newId initId bmB
  KF : PySem.W.KxsFacts B initId
  SF : StoreFacts B bmB "object.__setattr__" "object"
  q : PySem.W.excInitIn K C bmB newId = true
  init : PySem.W.findIn K (.ref C) "__init__" = some (some (.ref fI))
  fn : ∃ (oc : Value) (od : Option Addr) (name : Str) (params : Arguments) (dV kV doc pm ct : Value) (an : Option Addr) (osl : Array (Option Value)) (ar : Arg),
    K.lookup fI = some ⟨oc, od, .func (PySem.W.ksFn name qual params body scope dV kV doc pm an (.ref cda) ct cc), osl⟩ ∧ oc = .type "function" ∧ (params.posonlyargs ++ params.args).head? = some ar ∧ ar.arg = slf ∧
      ∀ (s : Shared) (x y : Value), BindsTo s (PySem.W.ksFn name qual params body scope dV kV doc pm an (.ref cda) ct cc) ⟨[x, y], []⟩ [(slf, x), (par, y)]
  code : PySem.W.codeIn K (.ref cda) qual = true
  file : ∃ (oc : Value) (od : Option Addr) (vs : Array Value) (sl : Array (Option Value)) (fl : Str) (tk : Tok), K.lookup cda = some ⟨oc, od, .fields vs, sl⟩ ∧ vs[2]? = some (.str fl tk) ∧ ((pg.main.file : Str) == fl) = true
  cell : ∃ (oc : Value) (od : Option Addr) (sl : Array (Option Value)), K.lookup cc = some ⟨oc, od, .cell (some (.ref C)), sl⟩
  cls : ∃ cd, PySem.W.clsIn K C = some cd
  mro : PySem.W.mroIn K C (.ref C) = some true
  sup : PySem.W.ks_superIn K C C "__init__" = some (some (.builtin initId))
  sub : PySem.W.subIn K (.ref C) (.type B) = some true
  third : PySem.W.nsIn K cStatics "thirdparty.any" = some none
  sa : PySem.W.findIn K (.ref C) "__setattr__" = some (some (.builtin "object.__setattr__"))
  over : PySem.W.excOver K C bmB = true
  taker : PySem.W.takerIn K C fld = some none
  hd : PySem.W.hasDictIn K C = true
  exC : PySem.W.subIn K (.ref C) (.type "BaseException") = some true
  tyC : PySem.W.typeIn K (.ref C) = some (.type "type")
  kC : PySem.W.keepIn K (.ref C) = true
  top : (pg.main.scope.names.lookup ("super" : Str)).isSome = false
  txt : XBody (fun L => PySem.W.ksEnv qual scope L fI (.ref cda) cc) body slf par fld a
  ks : scope.names.lookup ("super" : Str) = some .globalImplicit
  kc : scope.names.lookup ("__class__" : Str) = some .free
  kslf : scope.names.lookup slf = some .local
  kpar : scope.names.lookup par = some .local
  hne : slf ≠ par
  dslf : (slf == ("__debug__" : Str)) = false
  dpar : (par == ("__debug__" : Str)) = false
  nocell : ∀ x ∈ scope.names, x.2 ≠ .cell
  kind : scope.kind = .function
  co : scope.isCoroutine = false
  gen : scope.isGenerator = false

theorem ne_big {h : Heap} {b : Addr} {o : Obj} (z : h.get? b = some o) (n : Nat) : b ≠ h.objs.size + n := fun e => by
  have q := Heap.lt_size z
  rw [e] at q
  exact absurd q (Nat.not_lt.mpr (Nat.le_add_right _ _))
theorem ns1_one {h : Heap} {d : Addr} {o : Obj} {name : Str} {hs : Int} {tk : Tok} {v : Value} {n : Nat} (ho : h.get? d = some o) (hd : o.data = .dict #[⟨hs, .str name tk, v⟩] n) : h.Ns1 d (fun y => if y = name then some v else none) := by
  refine ⟨o, _, _, ho, hd, fun e he => ?_, ?_, fun y => ?_⟩
  · have : e = ⟨hs, .str name tk, v⟩ := by simpa using he
    subst this
    exact ⟨name, tk, rfl⟩
  · unfold UniqKeys
    simp
  · unfold nsFind findBy
    by_cases hy : y = name
    · subst hy
      simp [Value.isStr]
    · have : ¬ name = y := fun z => hy z.symm
      simp [Value.isStr, hy, this]
section
variable {pg : Program} {wd : World} {A : Around} {E : Value → Shared → Prop} {s : Shared} {h₀ : Heap} {L : Addr} {m mg : Str → Option Value} {K : PySem.W.Frag} {C : Addr} {B initId newId : String} {bmB : List Value} {fI cda cc : Addr} {qual slf par fld : Str} {scope : Scope} {body : List Stmt} {a : Expr} {e t0 : Addr} {u : Value}
/-- the walk of the body, by the ledger -/
theorem xc_body (X : XCls pg K C B initId newId bmB fI cda cc qual slf par fld scope body a) (F : Fr h₀ L s.heap m) (X₀ : K.In h₀) (N : News h₀ L s.heap [(e, PySem.W.excObj C t0 none .none)]) (hm1 : m slf = some (.ref e)) (hm2 : m par = some u)
    (hg : h₀.Ns mainGlobals mg) (hsup : mg "super" = none) (hb : ∃ mb, h₀.Ns builtinsNs mb ∧ ∀ x : Str, x ≠ "__name__" → mb x = bootBuiltins x)
    (hA : ∀ (pos : Pos) (s1 : Shared) (Q : List Value → Shared → Prop), Fr h₀ L s1.heap m → (∀ v h' tk, (∀ b o, s1.heap.get? b = some o → h'.get? b = some o) → Q [v] { s1 with heap := h', toks := tk }) →
      wpAny (model pg wd) A (spliced (backTo pos (starEach [a] (PySem.W.ksEnv qual scope L fI (.ref cda) cc)))) Q E s1)
    (hst : noStar a = true) :
    PySem.wpAt (model pg wd) A (.func body (PySem.W.ksEnv qual scope L fI (.ref cda) cc)) (PySem.execs body (PySem.W.ksEnv qual scope L fI (.ref cda) cc)) (fun fl s' => fl = .next ∧ ∃ (h' : Heap) (tk : Nat) (dx t1 : Addr) (hs : Int) (t2 : Tok) (nw : List (Addr × Obj)), s' = { s with heap := h', toks := tk } ∧
      (∀ b o, h₀.get? b = some o → h'.get? b = some o) ∧ h'.get? e = some (PySem.W.excObj C t1 (some dx) .none) ∧ h'.get? dx = some (PySem.W.dictOf [⟨hs, .str fld t2, u⟩] 1) ∧ h₀.get? dx = none ∧ e < dx) E s := by
  obtain ⟨p1, p2, p3, p4, p5, p6, p7, p8, p9, hbody, hmeth⟩ := X.txt
  obtain ⟨pl, hmeth⟩ := hmeth L
  obtain ⟨oc, od, name, params, dV, kV, doc, pm, ct, an, osl, ar, lk, hoc, har, hars, hbind⟩ := X.fn
  subst hbody
  subst hars
  have hk : (PySem.W.ksEnv qual scope L fI (.ref cda) cc).scope.kind = .function := X.kind
  have hint : interactive (PySem.W.ksEnv qual scope L fI (.ref cda) cc) = false := by unfold interactive; rw [hk]; rfl
  have hstar : starEach [a] (PySem.W.ksEnv qual scope L fI (.ref cda) cc) = (false, PySem.eval a (PySem.W.ksEnv qual scope L fI (.ref cda) cc)) :: starEach [] (PySem.W.ksEnv qual scope L fI (.ref cda) cc) := star_cons hst
  obtain ⟨fc, fo, vs, fsl, fl, ftk, hfk, hfv, hff⟩ := X.file
  obtain ⟨clc, cld, clsl, hcell⟩ := X.cell
  obtain ⟨cdC, hcd⟩ := X.cls
  -- super()
  refine PySem.ks_wpAt_execs_cons (PySem.ks_wpAt_Expr_any (PySem.ks_wpAt_MethodCall (pl := pl) ?_ hmeth) hint rfl)
  have XK : K.In s.heap := X₀.keeps F.keep
  have Ie : PySem.W.InstAt s.heap e (PySem.W.excObj C t0 none .none) C none := ⟨(N _ List.mem_cons_self).1, rfl, rfl, trivial⟩
  obtain ⟨hh, g, dr, tk, os⟩ := s
  obtain ⟨oD, hD1, hD2⟩ : ∃ oD, hh.get? C = some oD ∧ oD.data = .cls cdC := by
    unfold PySem.W.clsIn at hcd
    split at hcd
    · rename_i ho
      cases hcd
      exact ⟨_, XK _ _ ho, rfl⟩
    · cases hcd
  obtain ⟨mb, hb1, hb2⟩ := hb
  refine PySem.ks_wpAt_super_base (env := PySem.W.ksEnv qual scope L fI (.ref cda) cc) X.ks X.kc rfl rfl (XK _ _ lk) rfl har rfl (XK _ _ hfk) rfl hfv hff X.top ?_
  refine PySem.W.ks_loadName_global hk X.ks (Calls.loadGlobal_builtin (hg.keeps F.keep) hsup (hb1.keeps F.keep) ((hb2 _ (by decide)).trans (by decide +kernel)) ⟨rfl, ?_⟩)
  refine wpAny_loadName_free hk X.kc rfl ⟨_, XK _ _ hcell, rfl⟩ ?_
  refine wpAny_loadName_local hk X.kslf F.ns hm1 ?_
  refine PySem.ks_wpAny_isType_cls hD1 hD2 ⟨rfl, ?_⟩
  refine PySem.ks_wpAny_call_super hD1 hD2 Ie.at_ Ie.cls (fun c z => by cases z) (PySem.W.looks_mroIn XK X.mro) (fun h1 e1 k1 => ?_)
  obtain ⟨F1, N1, l1⟩ := PySem.W.ks_newsPush (s := ⟨hh, g, dr, tk, os⟩) F N rfl e1 k1
  have ne1 : hh.objs.size ≠ e := fun z => absurd (l1 (e, _) List.mem_cons_self) (by rw [z]; exact Nat.lt_irrefl _)
  have I1 : PySem.W.InstAt h1 e (PySem.W.excObj C t0 none .none) C none := ⟨k1 _ _ Ie.at_, rfl, rfl, trivial⟩
  -- .__init__
  refine PySem.W.kxs_method (s := ⟨h1, g, dr, tk, os⟩) X.KF F1 X₀ N1 List.mem_cons_self I1 X.third X.sup X.sub rfl (fun w h2 F2 N2 l2 => ?_)
  have lw : ∀ {p : Addr × Obj}, p ∈ [(hh.objs.size, PySem.W.ks_superObj C e C), (e, PySem.W.excObj C t0 none .none)] → p.1 ≠ w := fun {p} hp z => absurd (l2 p hp) (by rw [z]; exact Nat.lt_irrefl _)
  refine PySem.W.kxs_callWith1 N2 List.mem_cons_self (hA p4 _ _ F2 fun v h3 tk3 k3 => ?_) hstar rfl
  have F3 : Fr h₀ L h3 m := ⟨F2.ns.keeps k3, fun b o z => k3 _ _ (F2.keep b o z), F2.above⟩
  have N3 : News h₀ L h3 [(w, PySem.W.kxs_mw initId e), (hh.objs.size, PySem.W.ks_superObj C e C), (e, PySem.W.excObj C t0 none .none)] := fun p hp => ⟨k3 _ _ (N2 p hp).1, (N2 p hp).2⟩
  refine ⟨(N3 _ List.mem_cons_self).1, ?_⟩
  refine PySem.W.kxs_call (s := ⟨h3, g, dr, tk3, os⟩) F3 X₀ N3 X.FB X.q List.mem_cons_self (.tail (fun z => lw (p := (e, PySem.W.excObj C t0 none .none)) (by simp) z.symm) (.tail ne1 (.head (by simp)))) (by show 1 ≤ sizeLine; rw [sizeLine_eq]; omega) (fun t4 h4 F4 N4 l4 => ?_)
  -- self.f = p
  refine PySem.ks_wpAt_execs_cons (PySem.ks_wpAt_Assign_Attr (wpAt_of_wpAny (wpAny_Name (wpAny_loadName_local hk X.kpar F4.ns hm2 (wpAny_Name (wpAny_loadName_local hk X.kslf F4.ns hm1 ?_) X.dslf)) X.dpar)) rfl)
  have ne4 : t4 ≠ e := fun z => absurd (l4 (e, PySem.W.excObj C t0 none .none) (by simp)) (by rw [z]; exact Nat.lt_irrefl _)
  refine PySem.W.set_exc0 (s := ⟨h4, g, dr, tk3, os⟩) X.SF F4 X₀ N4 (by simp) X.sa X.over X.taker X.hd rfl (.tail ne4 (.tail (fun z => lw (p := (e, PySem.W.excObj C t0 none .none)) (by simp) z.symm) (.tail ne1 (.head (by simp))))) (by show 1 ≤ 1000; decide) (fun dx h5 F5 N5 l5 => ?_)
  refine wpAt_of_wpAny (wpAny_execs_nil ⟨rfl, h5, _, dx, t4, PyData.keyHash wd.params fld, _, [], rfl, F5.keep, (N5 (e, PySem.W.excObj C t4 (some dx) .none) (by simp)).1, (N5 _ List.mem_cons_self).1, (N5 _ List.mem_cons_self).2.2, l5 (e, PySem.W.excObj C t4 none .none) (by simp)⟩)
end
section
variable {K : PySem.W.Frag} {C : Addr} {B initId newId : String} {bmB : List Value} {fI cda cc : Addr} {qual slf par fld : Str} {scope : Scope} {body : List Stmt} {a : Expr}
/-- the call of the class, from a def's body -/
theorem xc_call {Y : L2.Cx} {pins : List (Addr × Obj)} {σ : L2.St} {H : L2.Hp} {s : Shared} {Q : L2.XK} {v : L2.V} {u : Value} (X : XCls Y.prog Y.K C B initId newId bmB fI cda cc qual slf par fld scope body a) (I : L2.Inv Y pins σ H s) (r : L2.RelV v u) (hr : L2.Room 1 Y.A) (hsup : Y.mg "super" = none) (hst : noStar a = true)
    (hA : ∀ (A : Around) (E : Value → Shared → Prop) (L : Addr) (m : Str → Option Value) (h₀ : Heap) (pos : Pos) (s1 : Shared) (Q : List Value → Shared → Prop), A.guards = Y.A.guards → A.units ≤ Y.A.units + 16 → Fr h₀ L s1.heap m → m par = some u → (∀ b o, s.heap.get? b = some o → h₀.get? b = some o) →
      (∀ v h' tk, (∀ b o, s1.heap.get? b = some o → h'.get? b = some o) → Q [v] { s1 with heap := h', toks := tk }) → wpAny (model Y.prog Y.w) A (spliced (backTo pos (starEach [a] (PySem.W.ksEnv qual scope L fI (.ref cda) cc)))) Q E s1)
    (q : ∀ d, H d = none → Q (.ref C) (some d) (L2.upd H d (.xd [(fld, v)]))) : wpAny (model Y.prog Y.w) Y.A (call (.ref C) [u]) (L2.MkP Y pins σ Q) Y.xe s := by
  obtain ⟨nm, N', qn, bs, bm, hdct, sn, sub, ab, col, dd, k0, k1, k2, k3, k5, hC, hT⟩ := PySem.W.excInit_of I.kIn X.q
  obtain ⟨oc, od, name, params, dV, kV, doc, pm, ct, an, osl, ar, lk, hoc, har, hars, hbind⟩ := X.fn
  obtain ⟨hp, g, dr, tk, os⟩ := s
  have hfo := I.kIn _ _ lk
  refine wpAny_call (PySem.HandSPX.call_own X.FB hT hC (PySem.W.looks_findIn I.kIn X.init) (fun self => PySem.W.exc_bind hfo hoc self) (by show 1 ≤ sizeLine; rw [sizeLine_eq]; omega) ?_)
  generalize hhc : (hp.push (PySem.W.kdv_tup [u])).push (PySem.HandSPX.excO C hp.objs.size) = hc
  have kc : ∀ b o, hp.get? b = some o → hc.get? b = some o := fun b o z => by rw [← hhc]; exact Heap.get?_push_of_some _ (Heap.get?_push_of_some _ z)
  have he : hc.get? (hp.objs.size + 1) = some (PySem.HandSPX.excO C hp.objs.size) := by rw [← hhc]; heap_get
  have hsz : hc.objs.size = hp.objs.size + 2 := by rw [← hhc, Heap.size_push, Heap.size_push]
  have lim : hc.NoLimit := (I.ok.mod.nolimit.keeps I.bk).keeps kc
  refine PySem.ks_codeAny_call_defAt (s := ⟨hc, g, dr, tk, os⟩) (by show Y.A.depth + 1 < recursionLimit; have := hr.dp; omega) (kc _ _ hfo) rfl lim (PySem.W.codeRec_of (fun b o z => kc _ _ (I.kIn b o z)) X.code) rfl (hbind _ _ _) X.nocell ?_ (fun h₁ hns k₁ => ?_) X.co X.gen X.kind
  · intro x hx
    simp only [List.mem_cons, List.not_mem_nil, or_false] at hx
    rcases hx with rfl | rfl
    · exact X.kslf
    · exact X.kpar
  have keep₀ : ∀ b o, hp.get? b = some o → (PySem.W.hideAll hc [hp.objs.size + 1]).get? b = some o := fun b o z => PySem.W.hideAll_get _ (kc b o z) fun hm => by
    rw [List.mem_singleton] at hm
    exact ne_big z 1 hm
  have F : Fr (PySem.W.hideAll hc [hp.objs.size + 1]) hc.objs.size h₁ (fun x => ([(slf, Value.ref (hp.objs.size + 1)), (par, u)].reverse).lookup x) := ⟨hns, fun b o z => k₁ b o (PySem.W.of_hideAll _ z), Nat.le_of_eq (PySem.W.hideAll_size _ _)⟩
  have X₀ : Y.K.In (PySem.W.hideAll hc [hp.objs.size + 1]) := fun b o z => keep₀ b o (I.kIn b o z)
  have N : News (PySem.W.hideAll hc [hp.objs.size + 1]) hc.objs.size h₁ [(hp.objs.size + 1, PySem.W.excObj C hp.objs.size none .none)] := fun p hp' => by
    rw [List.mem_singleton] at hp'
    subst hp'
    exact ⟨k₁ _ _ he, by rw [hsz]; simp, PySem.W.hideAll_none _ (by simp)⟩
  have hm1 : ([(slf, Value.ref (hp.objs.size + 1)), (par, u)].reverse).lookup slf = some (.ref (hp.objs.size + 1)) := by
    have : (slf == par) = false := by simpa using X.hne
    simp [List.lookup, this]
  have hm2 : ([(slf, Value.ref (hp.objs.size + 1)), (par, u)].reverse).lookup par = some u := by simp [List.lookup]
  have base₀ : ∀ b o, Y.base.get? b = some o → (PySem.W.hideAll hc [hp.objs.size + 1]).get? b = some o := fun b o z => keep₀ b o (I.bk b o z)
  obtain ⟨mb, hb1, hb2⟩ := I.ok.mod.blt
  refine PySem.ks_wpAt_mono (xc_body (s := ⟨h₁, g, dr, _, os⟩) X F X₀ N hm1 hm2 (I.ok.mod.glob.keeps base₀) hsup ⟨mb, hb1.keeps base₀, hb2⟩ (fun pos s1 Q F1 hq => hA _ _ _ _ _ pos s1 Q rfl ?_ F1 hm2 keep₀ hq) hst) (fun fl s' hs => ?_) fun _ _ z => z
  · show Y.A.units + 1 + 3 ≤ Y.A.units + 16
    omega
  · obtain ⟨rfl, h', tk', dx, t1, hsh, t2, nw, rfl, kp, ge, gd, hdx, elt⟩ := hs
    refine ⟨rfl, ?_⟩
    obtain ⟨G, g1', g2'⟩ := L2.restrict h' fun b => decide (b ≠ hp.objs.size + 1)
    have gk : ∀ b, b ≠ hp.objs.size + 1 → G.get? b = h'.get? b := fun b hb => g1' b (decide_eq_true hb)
    have gn : G.get? (hp.objs.size + 1) = none := g2' _ (by simp)
    have kG : ∀ b o, hp.get? b = some o → G.get? b = some o := fun b o z => by
      rw [gk b (ne_big z 1)]
      exact kp b o (keep₀ b o z)
    have hle : hp.objs.size ≤ dx := Nat.le_trans (Nat.le_succ _) (Nat.le_of_lt elt)
    have hd : H dx = none := I.hok.fresh hle
    have J : L2.Inv Y pins σ (L2.upd H dx (.xd [(fld, v)])) ⟨G, g, dr, tk', os⟩ := I.laid (t' := tk') (a := dx) (o := .xd [(fld, v)]) (h' := G) kG hle (by
      refine ⟨_, ns1_one (o := PySem.W.dictOf [⟨hsh, .str fld t2, u⟩] 1) (by rw [gk dx (Nat.ne_of_gt elt)]; exact gd) rfl, fun y => ?_⟩
      by_cases hy : y = fld
      · subst hy
        simp [List.lookup]
        exact r
      · have hyb : (y == fld) = false := by simpa using hy
        rw [if_neg hy]
        simp only [List.lookup, hyb]
        trivial)
    refine ⟨hp.objs.size + 1, _, _, ⟨G, g, dr, tk', os⟩, _, .ref C, some dx, rfl, J, fun b o z => ?_, gn, ge, ⟨rfl, rfl⟩, rfl, rfl, ?_, rfl, I.bare, L2.raises_own X.exC X.tyC, q dx hd⟩
    · by_cases hb : b = hp.objs.size + 1
      · rw [hb, gn] at z; cases z
      · rw [← gk b hb]; exact z
    · rw [L2.upd_ne (Nat.ne_of_lt elt)]
      exact I.hok.fresh (Nat.le_succ _)
end

/-! ### as the interpreter has it -/
section
variable {T : Tb} {Pg : Program} {w : World} {K : PySem.W.Frag} {mg : Str → Option Value} {base : Heap} {C : Addr} {B initId newId : String} {bmB : List Value} {fI cda cc : Addr} {qual slf par fld nm : Str} {scope : Scope} {body : List Stmt} {a : Expr}
theorem mk_any {xi : Nat} {mk : MkF} (hK : T.K = K) (X : XCls Pg K C B initId newId bmB fI cda cc qual slf par fld scope body a) (hxa : T.xa xi = .ref C) (hxf : T.xf xi = fld) (hm : mg nm = some (.ref C)) (hn : nmOk nm = true) (hsup : mg "super" = none) (hst : noStar a = true)
    (hmk : ∀ ds st x, mk ds st = some x → ∃ d, ds = [d] ∧ x = ⟨xi, [d]⟩)
    (hA : ∀ (Y : L2.Cx) (pins : List (Addr × Obj)) (σ : L2.St) (H : L2.Hp) (s : Shared) (W : Wd) (d : D) (st : Store) (x : Ex) (v : L2.V) (u : Value), Y.K = K → Y.mg = mg → L2.Inv Y pins σ H s → Sim T W st H → mk [d] st = some x → Rep T W d v → L2.RelV v u → Y.A.guards = some [] → Y.A.units + 200 < cLine →
      ∀ (pg : Program) (wd : World) (A : Around) (E : Value → Shared → Prop) (L : Addr) (m : Str → Option Value) (h₀ : Heap) (pos : Pos) (s1 : Shared) (Q : List Value → Shared → Prop), A.guards = Y.A.guards → A.units ≤ Y.A.units + 16 → Fr h₀ L s1.heap m → m par = some u → (∀ b o, s.heap.get? b = some o → h₀.get? b = some o) →
        (∀ v h' tk, (∀ b o, s1.heap.get? b = some o → h'.get? b = some o) → Q [v] { s1 with heap := h', toks := tk }) → wpAny (model pg wd) A (spliced (backTo pos (starEach [a] (PySem.W.ksEnv qual scope L fI (.ref cda) cc)))) Q E s1) :
    MkAt T Pg w K mg base nm 1 mk := by
  intro Y e1 e2 e3 e4 e5 hc hg hr XW x es is p pos ha hstar hpl hgl
  subst e1 e2 e3 e4 e5
  intro pins s σ H Q I ⟨W, st, σd, sim, rs, h⟩
  refine wpAny_Call_Name_kw (L2.ld_glob I hgl hm ?_ (nmOk.l hn))
  refine PySem.W.callWith_K (h₀ := Y.base) I.ok.mod.kin X.kC (L2.thn (ha.run pos pins s σ H _ I ⟨W, st, σd, sim, rs, h.bind (RepA T)⟩) fun us s1 ⟨vs, H1, I1, r, q⟩ => ⟨I1.kIn, ?_⟩) hstar hpl
  obtain ⟨W1, ds, st1, le1, sim1, r1, h1⟩ := q
  obtain ⟨xx, ex, h2⟩ := ofO_ok h1
  obtain ⟨d, rfl, rfl⟩ := hmk _ _ _ ex
  obtain ⟨v, rfl, rv⟩ := repA1 r1
  obtain ⟨u, rfl, ru⟩ := L2.Vals.one r
  show wpAny _ _ (call (.ref C) [u]) _ _ _
  refine xc_call X I1 ru hr hsup hst (fun A E L m h₀ pos' s2 Q' g1 g2 => hA Y pins σ H1 s1 W1 d st1 _ v u rfl rfl I1 sim1 ex rv ru hg (by have := hr.un; omega) _ _ A E L m h₀ pos' s2 Q' g1 g2) fun dd hdd => ?_
  obtain ⟨le2, sim2⟩ := sim1.new (o := .xd [(fld, v)]) hdd
  refine h2 (.ref C, some dd) _ _ le2 sim2 ⟨hxa.symm, dd, v, rfl, ?_, rv.mono le2⟩
  show L2.upd W1.F dd _ dd = _
  rw [L2.upd_same, hxf]
theorem mk_str {xi : Nat} {c1 c2 c3 : Pos} (hK : T.K = K) (X : XCls Pg K C B initId newId bmB fI cda cc qual slf par fld scope body (.Call (.Name "str" c1) [.Name par c2] [] c3)) (hxa : T.xa xi = .ref C) (hxf : T.xf xi = fld) (hm : mg nm = some (.ref C)) (hn : nmOk nm = true) (hsup : mg "super" = none)
    (hstr : mg "str" = none) (hks : scope.names.lookup ("str" : Str) = some .globalImplicit) : MkAt T Pg w K mg base nm 1 (mkStr xi) := by
  refine mk_any hK X hxa hxf hm hn hsup rfl (fun ds st x e => ?_) ?_
  · unfold mkStr at e
    split at e
    · split at e
      · cases e; exact ⟨_, rfl, rfl⟩
      · cases e
    · cases e
  · intro Y pins σ H s W d st x v u hYK hYm I sim ex rv ru hg hu pg wd A E L m h₀ pos s1 Q g1 g2 F hp kp q
    subst hYK hYm
    unfold mkStr at ex
    simp only at ex
    split at ex
    case isFalse => cases ex
    rename_i hz
    obtain ⟨t, ht⟩ := Option.isSome_iff_exists.mp hz.2
    have hk : (PySem.W.ksEnv qual scope L fI (.ref cda) cc).scope.kind = .function := X.kind
    have kb : ∀ b o, Y.base.get? b = some o → s1.heap.get? b = some o := fun b o z => F.keep _ _ (kp _ _ (I.bk b o z))
    obtain ⟨mb, hb1, hb2⟩ := I.ok.mod.blt
    show wpAny _ _ (spliced ((false, PySem.eval (.Call (.Name "str" c1) [.Name par c2] [] c3) _) :: backTo pos (starEach [] _))) _ _ _
    refine Calls.spliced_cons ?_
    refine wpAny_Call_Name_kw (Calls.Name_function_global hk hks (Calls.loadGlobal_builtin (I.ok.mod.glob.keeps kb) hstr (hb1.keeps kb) ((hb2 _ (by decide)).trans (by decide +kernel : bootBuiltins "str" = some (.type "str"))) ?_))
    refine callWith_type1 ?_ rfl rfl
    show wpAny _ _ (spliced ((false, PySem.eval (.Name par c2) _) :: backTo c3 (starEach [] _))) _ _ _
    refine Calls.spliced_cons (wpAny_Name (wpAny_loadName_local hk X.kpar F.ns hp (Calls.spliced_nil ?_)) X.dpar)
    refine str_any hK I sim.sub ht hz.1 rv ru (by rw [g1]; exact hg) (by omega) (fun b o z => F.keep _ _ (kp b o z)) fun h' tk tk2 kk => Calls.spliced_nil (q _ h' tk kk)
theorem mk_con {xi : Nat} {t : Str} {j : Nat} {c1 : Pos} (hK : T.K = K) (X : XCls Pg K C B initId newId bmB fI cda cc qual slf par fld scope body (.Constant (.str t) j c1)) (hxa : T.xa xi = .ref C) (hxf : T.xf xi = fld) (hm : mg nm = some (.ref C)) (hn : nmOk nm = true) (hsup : mg "super" = none) : MkAt T Pg w K mg base nm 1 (mkCon xi) := by
  refine mk_any hK X hxa hxf hm hn hsup rfl (fun ds st x e => ?_) ?_
  · unfold mkCon at e
    split at e
    · cases e; exact ⟨_, rfl, rfl⟩
    · cases e
  · intro Y pins σ H s W d st x v u hYK hYm I sim ex rv ru hg hu pg wd A E L m h₀ pos s1 Q g1 g2 F hp kp q
    show wpAny _ _ (spliced ((false, PySem.eval (.Constant (.str t) j c1) _) :: backTo pos (starEach [] _))) _ _ _
    exact Calls.spliced_cons (Calls.Constant_str (Calls.spliced_nil (q _ s1.heap _ fun _ _ z => z)))
end
end Ip
set_option Elab.async false
set_option linter.all false
set_option maxRecDepth 100000
set_option maxHeartbeats 1000000
/-! The law's end: a def's promise by its term, at the heap that the top leaves. -/
namespace Ip
open PySem PySem.Spec PyProof.Rows L2

section
variable {P : Program} {w : World} {K : PySem.W.Frag} {mg mb : Str → Option Value} {k : Nat} {fa a : Addr} {fd : FuncData} {x : Str} {T : Tb} {sm : Fn} {s₁ : Shared} {vs : List Value} {ns : List Int}
/-- where the script is tracked as H says -/
theorem law_at {H : Hp} (hK : T.K = K) (KX : K.In s₁.heap) (hns : s₁.heap.Ns mainGlobals mg) (hb : s₁.heap.Ns builtinsNs mb) (hbb : ∀ x : Str, x ≠ "__name__" → mb x = bootBuiltins x) (hlim : s₁.heap.NoLimit) (hg : s₁.gens = #[])
    (ha : s₁.heap.get? a = some { cls := .type "list", data := .seq vs.toArray }) (hr : Room k callerA)
    (F : ∀ base : Heap, K.In base → base.Ns mainGlobals mg → FnG P w K mg base k fa fd [x] (spOf T sm)) (hbind : ∀ (s : Shared) (u : Value), BindsTo s fd ⟨[u], []⟩ [(x, u)])
    (hsm : ∃ st, sm [.lst (ns.map D.int)] [] = .ok (.bl true) st)
    (hO : ∀ b u, H b = some u → b = a ∧ ∃ o xs, u = .frz o (.lst xs)) (hS : SqL K H a (ns.map V.int)) (hok : HOk P w H s₁.heap) (hKa : H a ≠ none → K.lookup a = none) :
    codeAny (model P w) callerA (.call (.ref fa) ⟨[.ref a], []⟩) (fun r s' => r = .ok (.ret (.bool true)) ∧ OldK s₁.heap s'.heap ∧ s'.os = s₁.os ∧ AllBare s'.gens) s₁ := by
  have low : ∀ {b : Addr} {o : Obj}, s₁.heap.get? b = some o → (b = a → False) → (hidT s₁.heap H).get? b = some o := fun {b o} e n => hidT_get e (by
    cases q : H b with
    | none => rfl
    | some u => exact (n (hO b u q).1).elim)
  have nsOf : ∀ {b : Addr} {m : Str → Option Value}, s₁.heap.Ns b m → (hidT s₁.heap H).Ns b m := by
    rintro b m ⟨o, es, ep, e, d, r⟩
    refine ⟨o, es, ep, low e fun z => ?_, d, r⟩
    rw [z, ha] at e
    cases e
    cases d
  have kb : K.In (hidT s₁.heap H) := fun b o e => hidT_get (KX b o e) (by
    cases q : H b with
    | none => rfl
    | some u =>
      have z := (hO b u q).1
      rw [z] at e q
      rw [hKa (by rw [q]; exact fun y => nomatch y)] at e
      cases e)
  have hM : Mod K mg (hidT s₁.heap H) := ⟨kb, nsOf hns, ⟨mb, nsOf hb, hbb⟩, by
    obtain ⟨mc, z1, z2⟩ := hlim
    exact ⟨mc, nsOf z1, z2⟩⟩
  have none0 : ∀ {b : Addr} {R : Prop}, b ∈ ([] : List Addr) → R := fun z => nomatch z
  have e0 : Env0 P w K mg (hidT s₁.heap H) callerA [] s₁ H := { frames := rfl, mod := hM, bs := fun b o e => of_hidT e, bsz := Nat.le_of_eq (hidT_size _ _), funs := trivial, frf := fun b z => none0 z, hok := hok, bare := .of_eq hg }
  obtain ⟨st, hst⟩ := hsm
  have sp : spOf T sm [.ref a] H (fun v _ => v = .bl true) (fun _ _ _ => False) := by
    refine ⟨⟨H, [], []⟩, [], [.lst (ns.map D.int)], ⟨Same.refl _, rfl, ?_, ?_, ?_, List.nodup_nil, ?_⟩, .cons (.lst (by rw [hK]; exact hS) ?_) .nil, ?_⟩
    · intro n c p h1; simp at h1
    · intro n c p h1; simp at h1
    · intro q hq; cases hq
    · intro n m c d p q hnm h1; simp at h1
    · clear hst hS
      induction ns with
      | nil => exact .nil
      | cons n ns ih => exact .cons (.int n) ih
    · rw [hst]
      intro b W' H' _ _ r
      exact rep_bl r
  refine codeAny_mono ((F _ kb (nsOf hns)).run callerA [] s₁ H ⟨[.ref a], []⟩ [.ref a] [.ref a] _ _ hr rfl e0 (hbind s₁ (.ref a)) (.cons rfl .nil) sp) fun r s' h => ?_
  match r, h with
  | .error _, h =>
    obtain ⟨_, _, _, _, _, _, _, _, _, _, _, _, z⟩ := h
    exact z.elim
  | .ok .next, h => exact False.elim h
  | .ok .brk, h => exact False.elim h
  | .ok .cont, h => exact False.elim h
  | .ok (.ret u), h =>
    obtain ⟨v, H', os, bare, un, hok', r', q⟩ := h
    cases (show v = .bl true from q)
    cases (show u = Value.bool true from r')
    refine ⟨rfl, OldK.of_keep fun b o e => ?_, os, bare⟩
    cases q : H b with
    | none => exact un.keep b o e q (fun z => none0 z) (fun z => none0 z)
    | some u =>
      obtain ⟨_, ob, xs, rfl⟩ := hO b u q
      obtain ⟨g1, _⟩ := hok b _ q
      obtain ⟨g2, _⟩ := hok' b _ (un.frzs b ob _ q)
      rw [e] at g1
      cases g1
      exact g2
theorem law_go (hK : T.K = K) (KX : K.In s₁.heap) (hns : s₁.heap.Ns mainGlobals mg) (hb : s₁.heap.Ns builtinsNs mb) (hbb : ∀ x : Str, x ≠ "__name__" → mb x = bootBuiltins x) (hlim : s₁.heap.NoLimit) (hg : s₁.gens = #[])
    (ha : s₁.heap.get? a = some { cls := .type "list", data := .seq vs.toArray }) (hi : IntsAre vs ns) (hl : ns.length ≤ sizeLine) (hr : Room k callerA)
    (F : ∀ base : Heap, K.In base → base.Ns mainGlobals mg → FnG P w K mg base k fa fd [x] (spOf T sm)) (hbind : ∀ (s : Shared) (u : Value), BindsTo s fd ⟨[u], []⟩ [(x, u)])
    (hsm : ∃ st, sm [.lst (ns.map D.int)] [] = .ok (.bl true) st) :
    codeAny (model P w) callerA (.call (.ref fa) ⟨[.ref a], []⟩) (fun r s' => r = .ok (.ret (.bool true)) ∧ OldK s₁.heap s'.heap ∧ s'.os = s₁.os ∧ AllBare s'.gens) s₁ := by
  have rv := vals_ints hi
  have hlen := hi.length
  by_cases hk : ∃ o, K.lookup a = some o
  · obtain ⟨o, hk⟩ := hk
    have e := KX a o hk
    rw [ha] at e
    cases e
    refine law_at (H := fun _ => none) hK KX hns hb hbb hlim hg ha hr F hbind hsm (fun b u z => nomatch z) (.inr ⟨_, vs.toArray, 0, hk, rfl, rfl, rfl, ?_, ?_⟩) (fun b u z => nomatch z) fun z => absurd rfl z
    · rw [List.size_toArray, hlen]; exact hl
    · simpa using rv
  · have hk : K.lookup a = none := by
      cases q : K.lookup a with
      | none => rfl
      | some o => exact absurd ⟨o, q⟩ hk
    refine law_at (H := upd (fun _ => none) a (.frz { cls := .type "list", data := .seq vs.toArray } (.lst (ns.map V.int)))) hK KX hns hb hbb hlim hg ha hr F hbind hsm (fun b u z => ?_) (.inl (.inr ⟨_, upd_same⟩)) (fun b u z => ?_) fun _ => hk
    · by_cases hb : b = a
      · subst hb
        rw [upd_same] at z
        cases z
        exact ⟨rfl, _, _, rfl⟩
      · rw [upd_ne hb] at z
        cases z
    · by_cases hb : b = a
      · subst hb
        rw [upd_same] at z
        cases z
        exact ⟨ha, by rw [List.length_map]; exact hl, vs, _, rv, ha⟩
      · rw [upd_ne hb] at z
        cases z
end
/-- what k_head leaves, from the law's def by its term -/
theorem walk_G {l : PySem.W.OpenLaw} {n k : Nat} {q : Program} {loose : List Str} {XP : (Str → Option Value) → Heap → Prop} {YP : World → Heap → Prop} {d : DefRec} {K : Params → PySem.W.Frag} {x : Str} {sm : Fn}
    (hn : l.most = some n) (hn2 : n ≤ sizeLine) (hdf : d.params.defaults = []) (hr : Room k callerA) (hY : ∀ (w : World) (h : Heap), YP w h → (K w.params).In h)
    (F : ∀ (w : World) (mg : Str → Option Value) (fa : Addr) (h : Heap), (K w.params).In h → h.Ns mainGlobals mg → mg d.name = some (.ref fa) →
      ∃ (T : Tb) (fd : FuncData), T.K = K w.params ∧ (∀ (s : Shared) (u : Value), BindsTo s fd ⟨[u], []⟩ [(x, u)]) ∧
        ∀ base : Heap, (K w.params).In base → base.Ns mainGlobals mg → FnG l.prog w (K w.params) mg base k fa fd [x] (spOf T sm))
    (hsm : ∀ ns : List Int, ns.length ≤ n → ∃ st, sm [.lst (ns.map D.int)] [] = .ok (.bl true) st) :
    PySem.W.WalkO q loose XP YP l.row.toRowW d [] (fun f vs => PySem.call f vs) := by
  refine Att.attach_call hn hdf fun w s₀ s₁ mg mb fa o pm cd doc a vs ns G Y ho hd hcd hmg hobj hints hlen hg => ?_
  obtain ⟨T, fd, hK, hbd, hF⟩ := F w mg fa _ (hY w _ Y) G.T.g hmg
  exact law_go hK (hY w _ Y) G.T.g G.T.b G.T.builtins G.T.nolimit hg hobj hints (Nat.le_trans hlen hn2) hr hF hbd (hsm ns hlen)

/-! ### for the printed link -/
theorem allU {n : Nat} {hs : List Hd} (h : (hs.all fun h => decide (h.k < n)) = true) : ∀ h ∈ hs, h.k < n := fun x hx => of_decide_eq_true (List.all_eq_true.mp h x hx)
theorem exm_by {K : PySem.W.Frag} {x S : Addr} {cd : ClassData} {b : Bool} (h1 : PySem.W.subIn K (.ref S) (.type "BaseException") = some true) (h2 : PySem.W.clsIn K S = some cd) (h3 : PySem.W.typeIn K (.ref S) = some (.type "type")) (h4 : PySem.W.subIn K (.ref x) (.ref S) = some b) :
    PySem.W.exmOne K (.ref x) (.ref S) = some b := by
  have e1 : (PySem.W.subIn K (.ref S) (.type "BaseException") == some true) = true := by rw [h1]; rfl
  have e2 : ((PySem.W.clsIn K S).isSome && PySem.W.typeIn K (.ref S) == some (.type "type")) = true := by rw [h2, h3]; rfl
  unfold PySem.W.exmOne
  rw [if_pos e1]
  show (if ((PySem.W.clsIn K S).isSome && PySem.W.typeIn K (.ref S) == some (.type "type")) = true then _ else _) = _
  rw [if_pos e2]
  exact h4
theorem fn_byF {T : Tb} {Pg : Program} {w : World} {K : PySem.W.Frag} {mg : Str → Option Value} {base : Heap} {G : Nat → D → Prop} {U : Nat → Prop} {c : Cfg} {k : Nat} {P : Nat → List D → Fn → Prop} {R : Nat → MkF → Prop} {x qual : Str} {st : Stmt} {f : Addr} {fd : FuncData} {N ps : List Str} {body : ISs}
    (Gl0 : Glob T Pg w K mg base G U c) (hsc : c.sc = defScope st) (hwr : c.wr = defScope st) (hN : c.N = N) (fns : ∀ i dv sm, P i dv sm → FnAt T Pg w K mg base (c.fn i) k dv sm) (mks : ∀ x mk, R x mk → MkAt T Pg w K mg base (c.xn x) k mk)
    (F : Fun K x qual st f fd) (S : FnScope N ps (defScope st)) (ok : okSs P G R U body) (h : chkSs c body (defBody st) = true) :
    FnG Pg w K mg base (k + 1) f fd ps (spOf T (callD T.xm ps.length (N.length - ps.length) body)) := by
  obtain ⟨oc, od, kV, doc, pm, an, cdv, ct, osl, rfl, lk, hcd⟩ := F.ex
  exact fn_by Gl0 hsc hwr hN fns mks lk hcd S ok h
end Ip
set_option Elab.async false
set_option linter.all false
set_option maxRecDepth 100000
set_option maxHeartbeats 400000
/-! The terms of the law (printed by wip/link.py). -/
namespace L01
open Ip PySem
def xm : Nat → Nat → Bool := fun _ _ => true
def mk_InvalidNumber : MkF := mkStr 0
def c_BEYOND : D := (.int 1000000000000000000000000000000000000000000000000000000000000)
def c_MOST_CHOSEN : D := (.int 60)
def c_MOST_DIVIDED : D := (.int 1000000)
def b_is_whole : ISs :=
  (.cons (.ret (.and (.isi .int (.var 0)) (.not (.isi .bool (.var 0)))))
  .nil)
def sm_is_whole : Fn := callD xm 1 0 b_is_whole
def b_is_integer : ISs :=
  (.cons (.ret (.and (.call 0 [] sm_is_whole (.cons (.var 0) .nil)) (.chain .lt .lt (.un .neg (.glob 0 c_BEYOND)) (.var 0) (.glob 0 c_BEYOND))))
  .nil)
def sm_is_integer : Fn := callD xm 1 0 b_is_integer
def b_require_integer : ISs :=
  (.cons (.ite (.not (.call 1 [] sm_is_integer (.cons (.var 0) .nil))) (.cons (.raise 0 mk_InvalidNumber (.cons (.var 0) .nil))
  .nil) .nil)
  .nil)
def sm_require_integer : Fn := callD xm 1 0 b_require_integer
def b_require_within : ISs :=
  (.cons (.ite (.or (.not (.call 0 [] sm_is_whole (.cons (.var 0) .nil))) (.not (.chain .le .le (.var 1) (.var 0) (.var 2)))) (.cons (.raise 0 mk_InvalidNumber (.cons (.var 0) .nil))
  .nil) .nil)
  .nil)
def sm_require_within : Fn := callD xm 3 0 b_require_within
def l1_chosen : ISs :=
  (.cons (.asg (.nm 2) (.bin .fdiv (.bin .mul (.var 2) (.bin .sub (.var 0) (.var 3))) (.bin .add (.var 3) (.con (.int 1)))))
  .nil)
def b_chosen : ISs :=
  (.cons (.asg (.nm 2) (.con (.int 1)))
  (.cons (.for (.nm 3) (.range (.cons (.var 1) .nil)) l1_chosen)
  (.cons (.ret (.var 2))
  .nil)))
def sm_chosen : Fn := callD xm 2 2 b_chosen
def b_choose : ISs :=
  (.cons (.expr (.call 2 [] sm_require_integer (.cons (.var 0) .nil)))
  (.cons (.expr (.call 3 [] sm_require_within (.cons (.var 1) (.cons (.con (.int 0)) (.cons (.glob 1 c_MOST_CHOSEN) .nil)))))
  (.cons (.ret (.call 4 [] sm_chosen (.cons (.var 0) (.cons (.var 1) .nil))))
  .nil)))
def sm_choose : Fn := callD xm 2 0 b_choose
def b_common_divisor : ISs :=
  (.cons (.expr (.call 2 [] sm_require_integer (.cons (.var 0) .nil)))
  (.cons (.expr (.call 2 [] sm_require_integer (.cons (.var 1) .nil)))
  (.cons (.ret (.blt .gcd (.cons (.var 0) (.cons (.var 1) .nil))))
  .nil)))
def sm_common_divisor : Fn := callD xm 2 0 b_common_divisor
def w1_divisors_of : IE :=
  (.cmp .le (.bin .mul (.var 3) (.var 3)) (.var 0))
def l1_divisors_of : ISs :=
  (.cons (.ite (.cmp .eq (.bin .mod (.var 0) (.var 3)) (.con (.int 0))) (.cons (.expr (.mth .append (.var 1) (.cons (.var 3) .nil)))
  (.cons (.ite (.cmp .lt (.bin .mul (.var 3) (.var 3)) (.var 0)) (.cons (.expr (.mth .append (.var 2) (.cons (.bin .fdiv (.var 0) (.var 3)) .nil)))
  .nil) .nil)
  .nil)) .nil)
  (.cons (.aug 3 .add (.con (.int 1)))
  .nil))
def b_divisors_of : ISs :=
  (.cons (.par [1, 2, 3] (.cons (.lst true .nil) (.cons (.lst true .nil) (.cons (.con (.int 1)) .nil))))
  (.cons (.whl fuelD w1_divisors_of l1_divisors_of)
  (.cons (.ret (.bin .add (.fz (.var 1)) (.rev (.var 2))))
  .nil)))
def sm_divisors_of : Fn := callD xm 1 3 b_divisors_of
def b_divisors : ISs :=
  (.cons (.expr (.call 3 [] sm_require_within (.cons (.var 0) (.cons (.con (.int 1)) (.cons (.glob 2 c_MOST_DIVIDED) .nil)))))
  (.cons (.ret (.blt .tuple (.cons (.call 7 [] sm_divisors_of (.cons (.var 0) .nil)) .nil)))
  .nil))
def sm_divisors : Fn := callD xm 1 0 b_divisors
def l1__law_urn : ISs :=
  (.cons (.asg (.nm 2) (.bin .mod (.blt .int (.cons (.bin .add (.bin .add (.bin .mul (.var 2) (.con (.int 6700417))) (.bin .mul (.bin .mod (.blt .int (.cons (.blt .abs (.cons (.var 3) .nil)) .nil)) (.bin .pow (.con (.int 10)) (.con (.int 40)))) (.con (.int 5)))) (.bin .mul (.blt .int (.cons (.cmp .gt (.var 3) (.con (.int 0))) .nil)) (.con (.int 3)))) .nil)) (.con (.int 2305843009213693951))))
  .nil)
def b__law_urn : ISs :=
  (.cons (.asg (.nm 2) (.bin .add (.bin .mul (.con (.int 433494437)) (.var 1)) (.con (.int 28657))))
  (.cons (.for (.nm 3) (.val (.slice (.var 0) (.var 1) .no)) l1__law_urn)
  (.cons (.asg (.nm 4) (.ife (.cmp .lt (.var 1) (.blt .len (.cons (.var 0) .nil))) (.bin .mod (.blt .int (.cons (.blt .abs (.cons (.sub (.var 0) (.var 1)) .nil)) .nil)) (.bin .pow (.bin .pow (.con (.int 10)) (.con (.int 50))) (.con (.int 13)))) (.con (.int 0))))
  (.cons (.ret (.lst true (.cons (.blt .max (.cons (.con (.int 0)) (.cons (.bin .sub (.var 4) (.bin .pow (.con (.int 10)) (.con (.int 18)))) .nil))) (.cons (.var 2) (.cons (.con (.int 0)) .nil)))))
  .nil))))
def sm__law_urn : Fn := callD xm 2 3 b__law_urn
def b__law_take : ISs :=
  (.cons (.ite (.cmp .gt (.sub (.var 0) (.con (.int 0))) (.con (.int 0))) (.cons (.asg (.nm 2) (.bin .mod (.blt .int (.cons (.sub (.var 0) (.con (.int 0))) .nil)) (.var 1)))
  (.cons (.setI (.var 0) (.con (.int 0)) (.bin .fdiv (.sub (.var 0) (.con (.int 0))) (.var 1)))
  (.cons (.ret (.var 2))
  .nil))) .nil)
  (.cons (.setI (.var 0) (.con (.int 2)) (.bin .add (.sub (.var 0) (.con (.int 2))) (.con (.int 1))))
  (.cons (.asg (.nm 3) (.bin .mod (.blt .int (.cons (.bin .add (.sub (.var 0) (.con (.int 1))) (.bin .mul (.con (.int 1299709)) (.sub (.var 0) (.con (.int 2))))) .nil)) (.con (.int 2305843009213693951))))
  (.cons (.asg (.nm 4) (.bin .mod (.blt .int (.cons (.bin .add (.bin .mul (.var 3) (.var 3)) (.bin .mul (.con (.int 15485863)) (.sub (.var 0) (.con (.int 2))))) .nil)) (.con (.int 1152921504606846883))))
  (.cons (.ret (.bin .mod (.blt .int (.cons (.bin .fdiv (.bin .mod (.blt .int (.cons (.bin .add (.bin .mul (.var 4) (.con (.int 179424673))) (.var 3)) .nil)) (.con (.int 2305843009213693921))) (.con (.int 8192))) .nil)) (.var 1)))
  .nil)))))
def sm__law_take : Fn := callD xm 2 3 b__law_take
def b__law_some : ISs :=
  (.cons (.ret (.sub (.var 1) (.call 10 [] sm__law_take (.cons (.var 0) (.cons (.blt .len (.cons (.var 1) .nil)) .nil)))))
  .nil)
def sm__law_some : Fn := callD xm 2 0 b__law_some
def b__law_long : ISs :=
  (.cons (.asg (.nm 1) (.call 11 [] sm__law_some (.cons (.var 0) (.cons (.lst false (.cons (.con (.int 3)) (.cons (.con (.int 10)) (.cons (.con (.int 70)) (.cons (.bin .pow (.con (.int 10)) (.con (.int 6))) (.cons (.bin .pow (.con (.int 10)) (.con (.int 20))) (.cons (.bin .pow (.con (.int 10)) (.con (.int 59))) .nil))))))) .nil))))
  (.cons (.ret (.bin .sub (.call 10 [] sm__law_take (.cons (.var 0) (.cons (.bin .mul (.con (.int 2)) (.var 1)) .nil))) (.var 1)))
  .nil))
def sm__law_long : Fn := callD xm 1 1 b__law_long
def b__law_over : ISs :=
  (.cons (.ret (.ife (.cmp .lt (.var 0) (.con (.int 0))) (.bin .sub (.con (.int 0)) (.bin .fdiv (.bin .sub (.con (.int 0)) (.var 0)) (.var 1))) (.bin .fdiv (.var 0) (.var 1))))
  .nil)
def sm__law_over : Fn := callD xm 2 0 b__law_over
def l1__law_binomial : ISs :=
  (.cons (.par [2, 3] (.cons (.bin .mul (.var 2) (.bin .sub (.var 0) (.var 4))) (.cons (.bin .mul (.var 3) (.bin .add (.var 4) (.con (.int 1)))) .nil)))
  .nil)
def b__law_binomial : ISs :=
  (.cons (.asg (.tp [2, 3]) (.tup (.cons (.con (.int 1)) (.cons (.con (.int 1)) .nil))))
  (.cons (.for (.nm 4) (.range (.cons (.var 1) .nil)) l1__law_binomial)
  (.cons (.ret (.call 13 [] sm__law_over (.cons (.var 2) (.cons (.var 3) .nil))))
  .nil)))
def sm__law_binomial : Fn := callD xm 2 3 b__law_binomial
def b__law_refused : ISs :=
  (.cons (.try (.cons (.ite (.cmp .eq (.var 0) (.con (.int 0))) (.cons (.expr (.call 5 [] sm_choose (.cons (.var 1) (.cons (.var 2) .nil))))
  .nil) (.cons (.ite (.cmp .eq (.var 0) (.con (.int 1))) (.cons (.expr (.call 5 [] sm_choose (.cons (.var 2) (.cons (.var 1) .nil))))
  .nil) (.cons (.ite (.cmp .eq (.var 0) (.con (.int 2))) (.cons (.expr (.call 6 [] sm_common_divisor (.cons (.var 1) (.cons (.var 2) .nil))))
  .nil) (.cons (.ite (.cmp .eq (.var 0) (.con (.int 3))) (.cons (.expr (.call 6 [] sm_common_divisor (.cons (.var 2) (.cons (.var 1) .nil))))
  .nil) (.cons (.expr (.call 8 [] sm_divisors (.cons (.var 1) .nil)))
  .nil))
  .nil))
  .nil))
  .nil))
  .nil) [⟨0, (some 3), (.lst (.cons .fld .nil))⟩])
  (.cons (.ret (.lst false .nil))
  .nil))
def sm__law_refused : Fn := callD xm 3 1 b__law_refused
def w1__law_shared : IE :=
  (.cmp .gt (.var 1) (.con (.int 0)))
def l1__law_shared : ISs :=
  (.cons (.par [0, 1] (.cons (.var 1) (.cons (.bin .mod (.blt .int (.cons (.var 0) .nil)) (.var 1)) .nil)))
  .nil)
def b__law_shared : ISs :=
  (.cons (.par [0, 1] (.cons (.blt .abs (.cons (.var 0) .nil)) (.cons (.blt .abs (.cons (.var 1) .nil)) .nil)))
  (.cons (.whl fuelD w1__law_shared l1__law_shared)
  (.cons (.ret (.var 0))
  .nil)))
def sm__law_shared : Fn := callD xm 2 0 b__law_shared
def e1__law_choices_right : IE :=
  (.bin .mul (.call 5 [] sm_choose (.cons (.var 3) (.cons (.var 6) .nil))) (.call 5 [] sm_choose (.cons (.var 1) (.cons (.bin .sub (.var 2) (.var 6)) .nil))))
def b__law_choices_right : ISs :=
  (.cons (.asg (.tp [1, 2, 3]) (.tup (.cons (.call 12 [] sm__law_long (.cons (.var 0) .nil)) (.cons (.call 10 [] sm__law_take (.cons (.var 0) (.cons (.con (.int 12)) .nil))) (.cons (.bin .sub (.call 10 [] sm__law_take (.cons (.var 0) (.cons (.con (.int 9)) .nil))) (.con (.int 4))) .nil)))))
  (.cons (.asg (.nm 1) (.call 11 [] sm__law_some (.cons (.var 0) (.cons (.lst false (.cons (.var 1) (.cons (.var 1) (.cons (.bin .sub (.bin .pow (.con (.int 10)) (.con (.int 60))) (.con (.int 1))) (.cons (.bin .sub (.con (.int 1)) (.bin .pow (.con (.int 10)) (.con (.int 60)))) (.cons (.var 2) (.cons (.bin .sub (.var 2) (.con (.int 1))) (.cons (.con (.int 0)) .nil)))))))) .nil))))
  (.cons (.asg (.nm 4) (.call 5 [] sm_choose (.cons (.var 1) (.cons (.var 2) .nil))))
  (.cons (.ite (.or (.cmp .ne (.var 4) (.call 14 [] sm__law_binomial (.cons (.var 1) (.cons (.var 2) .nil)))) (.cmp .ne (.call 5 [] sm_choose (.cons (.var 1) (.cons (.con (.int 0)) .nil))) (.con (.int 1)))) (.cons (.ret (.con (.bl false)))
  .nil) .nil)
  (.cons (.ite (.and (.cmp .lt (.blt .abs (.cons (.var 1) .nil)) (.bin .pow (.con (.int 10)) (.con (.int 59)))) (.cmp .ne (.call 5 [] sm_choose (.cons (.bin .add (.var 1) (.con (.int 1))) (.cons (.bin .add (.var 2) (.con (.int 1))) .nil))) (.bin .add (.call 5 [] sm_choose (.cons (.var 1) (.cons (.var 2) .nil))) (.call 5 [] sm_choose (.cons (.var 1) (.cons (.bin .add (.var 2) (.con (.int 1))) .nil)))))) (.cons (.ret (.con (.bl false)))
  .nil) .nil)
  (.cons (.ite (.and (.cmp .lt (.blt .abs (.cons (.var 1) .nil)) (.bin .pow (.con (.int 10)) (.con (.int 59)))) (.cmp .ne (.bin .mul (.call 5 [] sm_choose (.cons (.bin .sub (.bin .sub (.var 2) (.var 1)) (.con (.int 1))) (.cons (.var 2) .nil))) (.ife (.cmp .eq (.var 2) (.bin .mul (.bin .fdiv (.var 2) (.con (.int 2))) (.con (.int 2)))) (.con (.int 1)) (.un .neg (.con (.int 1))))) (.var 4))) (.cons (.ret (.con (.bl false)))
  .nil) .nil)
  (.cons (.asg (.nm 5) (.comp false [6] (.range (.cons (.bin .add (.var 2) (.con (.int 1))) .nil)) (.nm 6) (.con (.bl true)) e1__law_choices_right))
  (.cons (.ret (.or (.cmp .ge (.blt .abs (.cons (.var 1) .nil)) (.bin .pow (.con (.int 10)) (.con (.int 59)))) (.cmp .eq (.call 5 [] sm_choose (.cons (.bin .add (.var 1) (.var 3)) (.cons (.var 2) .nil))) (.blt .sum (.cons (.var 5) .nil)))))
  .nil))))))))
def sm__law_choices_right : Fn := callD xm 1 6 b__law_choices_right
def p1__law_divisors_right : IE :=
  (.cmp .lt (.bin .mul (.var 4) (.var 4)) (.var 2))
def e1__law_divisors_right : IE :=
  (.bin .fdiv (.var 2) (.var 4))
def p2__law_divisors_right : IE :=
  (.and (.cmp .le (.bin .mul (.var 4) (.var 4)) (.var 2)) (.cmp .eq (.bin .mul (.bin .fdiv (.var 2) (.var 4)) (.var 4)) (.var 2)))
def e2__law_divisors_right : IE :=
  (.var 4)
def b__law_divisors_right : ISs :=
  (.cons (.asg (.nm 1) (.bin .add (.con (.int 1)) (.call 11 [] sm__law_some (.cons (.var 0) (.cons (.lst false (.cons (.call 10 [] sm__law_take (.cons (.var 0) (.cons (.con (.int 60)) .nil))) (.cons (.bin .add (.bin .mul (.call 10 [] sm__law_take (.cons (.var 0) (.cons (.con (.int 60)) .nil))) (.con (.int 12))) (.con (.int 11))) (.cons (.call 10 [] sm__law_take (.cons (.var 0) (.cons (.con (.int 900)) .nil))) .nil)))) .nil)))))
  (.cons (.asg (.nm 2) (.call 11 [] sm__law_some (.cons (.var 0) (.cons (.lst false (.cons (.var 1) (.cons (.bin .mul (.var 1) (.var 1)) (.cons (.bin .pow (.con (.int 10)) (.con (.int 6))) .nil)))) .nil))))
  (.cons (.asg (.nm 2) (.blt .min (.cons (.var 2) (.cons (.bin .pow (.con (.int 10)) (.con (.int 6))) .nil))))
  (.cons (.asg (.nm 3) (.comp false [4] (.range (.cons (.con (.int 1)) (.cons (.con (.int 1001)) .nil))) (.nm 4) p2__law_divisors_right e2__law_divisors_right))
  (.cons (.asg (.nm 5) (.comp false [4] (.val (.rev (.var 3))) (.nm 4) p1__law_divisors_right e1__law_divisors_right))
  (.cons (.ite (.cmp .ne (.call 8 [] sm_divisors (.cons (.var 2) .nil)) (.blt .tuple (.cons (.bin .add (.var 3) (.var 5)) .nil))) (.cons (.ret (.con (.bl false)))
  .nil) .nil)
  (.cons (.par [6, 7] (.cons (.call 12 [] sm__law_long (.cons (.var 0) .nil)) (.cons (.call 11 [] sm__law_some (.cons (.var 0) (.cons (.lst false (.cons (.con (.int 0)) (.cons (.var 2) (.cons (.call 12 [] sm__law_long (.cons (.var 0) .nil)) .nil)))) .nil))) .nil)))
  (.cons (.asg (.nm 8) (.call 6 [] sm_common_divisor (.cons (.var 6) (.cons (.var 7) .nil))))
  (.cons (.ite (.or (.cmp .ne (.var 8) (.call 16 [] sm__law_shared (.cons (.var 6) (.cons (.var 7) .nil)))) (.or (.cmp .ne (.call 6 [] sm_common_divisor (.cons (.var 7) (.cons (.var 6) .nil))) (.var 8)) (.cmp .ne (.call 6 [] sm_common_divisor (.cons (.var 6) (.cons (.con (.int 0)) .nil))) (.blt .abs (.cons (.var 6) .nil))))) (.cons (.ret (.con (.bl false)))
  .nil) .nil)
  (.cons (.ret (.cmp .eq (.call 6 [] sm_common_divisor (.cons (.ife (.cmp .lt (.blt .abs (.cons (.var 6) .nil)) (.bin .pow (.con (.int 10)) (.con (.int 59)))) (.bin .mul (.var 6) (.con (.int 7))) (.var 6)) (.cons (.bin .sub (.con (.int 0)) (.var 6)) .nil))) (.blt .abs (.cons (.var 6) .nil))))
  .nil))))))))))
def sm__law_divisors_right : Fn := callD xm 1 8 b__law_divisors_right
def b__law_wrong_right : ISs :=
  (.cons (.asg (.nm 1) (.call 11 [] sm__law_some (.cons (.var 0) (.cons (.lst false (.cons (.con .non) (.cons (.con (.bl true)) (.cons (.con (.str "3")) (.cons (.tup (.cons (.con (.int 1)) .nil)) (.cons (.bin .pow (.con (.int 10)) (.con (.int 60))) (.cons (.bin .sub (.con (.int 0)) (.bin .pow (.con (.int 10)) (.con (.int 60)))) (.cons (.lst false (.cons (.con (.int 2)) .nil)) (.cons (.con (.bl false)) (.cons .dct0 .nil)))))))))) .nil))))
  (.cons (.asg (.nm 2) (.call 11 [] sm__law_some (.cons (.var 0) (.cons (.lst false (.cons (.con .non) (.cons (.un .neg (.con (.int 1))) (.cons (.con (.int 61)) (.cons (.con (.bl true)) (.cons (.con (.str "0")) (.cons (.bin .pow (.con (.int 10)) (.con (.int 60))) .nil))))))) .nil))))
  (.cons (.ite (.or (.cmp .isnot (.call 1 [] sm_is_integer (.cons (.var 1) .nil)) (.con (.bl false))) (.cmp .isnot (.call 1 [] sm_is_integer (.cons (.call 12 [] sm__law_long (.cons (.var 0) .nil)) .nil)) (.con (.bl true)))) (.cons (.ret (.con (.bl false)))
  .nil) .nil)
  (.cons (.ite (.or (.cmp .ne (.blt .repr (.cons (.call 15 [] sm__law_refused (.cons (.con (.int 0)) (.cons (.var 1) (.cons (.var 2) .nil)))) .nil)) (.blt .repr (.cons (.lst false (.cons (.var 1) .nil)) .nil))) (.cmp .ne (.blt .repr (.cons (.call 15 [] sm__law_refused (.cons (.con (.int 1)) (.cons (.var 2) (.cons (.con (.int 5)) .nil)))) .nil)) (.blt .repr (.cons (.lst false (.cons (.var 2) .nil)) .nil)))) (.cons (.ret (.con (.bl false)))
  .nil) .nil)
  (.cons (.ite (.or (.cmp .ne (.blt .repr (.cons (.call 15 [] sm__law_refused (.cons (.con (.int 2)) (.cons (.var 1) (.cons (.con .non) .nil)))) .nil)) (.blt .repr (.cons (.lst false (.cons (.var 1) .nil)) .nil))) (.cmp .ne (.blt .repr (.cons (.call 15 [] sm__law_refused (.cons (.con (.int 3)) (.cons (.var 1) (.cons (.con (.int 7)) .nil)))) .nil)) (.blt .repr (.cons (.lst false (.cons (.var 1) .nil)) .nil)))) (.cons (.ret (.con (.bl false)))
  .nil) .nil)
  (.cons (.asg (.nm 3) (.call 11 [] sm__law_some (.cons (.var 0) (.cons (.lst false (.cons (.con (.int 0)) (.cons (.un .neg (.con (.int 1))) (.cons (.bin .add (.bin .pow (.con (.int 10)) (.con (.int 6))) (.con (.int 1))) (.cons (.con (.bl true)) (.cons (.con .non) (.cons (.bin .pow (.con (.int 10)) (.con (.int 60))) (.cons (.con (.str "6")) .nil)))))))) .nil))))
  (.cons (.ret (.cmp .eq (.blt .repr (.cons (.call 15 [] sm__law_refused (.cons (.con (.int 4)) (.cons (.var 3) (.cons (.con (.int 0)) .nil)))) .nil)) (.blt .repr (.cons (.lst false (.cons (.var 3) .nil)) .nil))))
  .nil)))))))
def sm__law_wrong_right : Fn := callD xm 1 3 b__law_wrong_right
def l1_law : ISs :=
  (.cons (.asg (.nm 2) (.call 9 [] sm__law_urn (.cons (.var 0) (.cons (.var 1) .nil))))
  (.cons (.ite (.or (.not (.call 17 [] sm__law_choices_right (.cons (.var 2) .nil))) (.or (.not (.call 18 [] sm__law_divisors_right (.cons (.var 2) .nil))) (.not (.call 19 [] sm__law_wrong_right (.cons (.var 2) .nil))))) (.cons (.ret (.con (.bl false)))
  .nil) .nil)
  .nil))
def b_law : ISs :=
  (.cons (.for (.nm 1) (.range (.cons (.blt .max (.cons (.con (.int 1)) (.cons (.blt .min (.cons (.con (.int 4)) (.cons (.blt .len (.cons (.var 0) .nil)) .nil))) .nil))) .nil)) l1_law)
  (.cons (.asg (.nm 3) (.lst false (.cons (.call 5 [] sm_choose (.cons (.con (.int 5)) (.cons (.con (.int 2)) .nil))) (.cons (.call 5 [] sm_choose (.cons (.un .neg (.con (.int 2))) (.cons (.con (.int 3)) .nil))) (.cons (.call 5 [] sm_choose (.cons (.con (.int 3)) (.cons (.con (.int 5)) .nil))) (.cons (.call 5 [] sm_choose (.cons (.un .neg (.con (.int 1))) (.cons (.con (.int 60)) .nil))) (.cons (.call 5 [] sm_choose (.cons (.con (.int 60)) (.cons (.con (.int 60)) .nil))) (.cons (.call 5 [] sm_choose (.cons (.con (.int 0)) (.cons (.con (.int 0)) .nil))) (.cons (.call 5 [] sm_choose (.cons (.un .neg (.con (.int 7))) (.cons (.con (.int 1)) .nil))) .nil)))))))))
  (.cons (.ite (.or (.cmp .ne (.var 3) (.lst false (.cons (.con (.int 10)) (.cons (.un .neg (.con (.int 4))) (.cons (.con (.int 0)) (.cons (.con (.int 1)) (.cons (.con (.int 1)) (.cons (.con (.int 1)) (.cons (.un .neg (.con (.int 7))) .nil))))))))) (.or (.cmp .ne (.call 6 [] sm_common_divisor (.cons (.con (.int 0)) (.cons (.con (.int 0)) .nil))) (.con (.int 0))) (.cmp .ne (.call 6 [] sm_common_divisor (.cons (.un .neg (.con (.int 12))) (.cons (.con (.int 18)) .nil))) (.con (.int 6))))) (.cons (.ret (.con (.bl false)))
  .nil) .nil)
  (.cons (.ret (.and (.cmp .eq (.call 8 [] sm_divisors (.cons (.con (.int 1)) .nil)) (.tup (.cons (.con (.int 1)) .nil))) (.and (.cmp .eq (.call 8 [] sm_divisors (.cons (.con (.int 999983)) .nil)) (.tup (.cons (.con (.int 1)) (.cons (.con (.int 999983)) .nil)))) (.cmp .eq (.call 8 [] sm_divisors (.cons (.con (.int 36)) .nil)) (.tup (.cons (.con (.int 1)) (.cons (.con (.int 2)) (.cons (.con (.int 3)) (.cons (.con (.int 4)) (.cons (.con (.int 6)) (.cons (.con (.int 9)) (.cons (.con (.int 12)) (.cons (.con (.int 18)) (.cons (.con (.int 36)) .nil))))))))))))))
  .nil))))
def sm_law : Fn := callD xm 1 3 b_law
end L01
set_option Elab.async false
set_option linter.all false
set_option maxRecDepth 100000
set_option maxHeartbeats 400000
/-! Plain laws: loops over items that stand, stores behind calls. -/
namespace Ip
open PySem (Str)

theorem closeSt_self (st : Store) : closeSt st st = st := by
  unfold closeSt
  split
  · exact List.take_length
  · rfl
/-- a loop over items that stand -/
def forL (t : IT) (b : EnvD → Store → OutS) : List D → EnvD → Store → OutS
  | [], σ, st => .nx σ st
  | x :: xs, σ, st => match asgT st t x σ with
    | none => .stuck
    | some σ => match b σ st with
      | .nx σ st => forL t b xs σ st
      | .cnt σ st => forL t b xs σ st
      | .brk σ st => .nx σ st
      | o => o
theorem forRun_seq (t : IT) (b : EnvD → Store → OutS) (xs : List D) : ∀ (n i : Nat) (σ : EnvD) (st : Store), xs.length < n + i → i ≤ xs.length → forRun t b (.seq xs) n i σ st = forL t b (xs.drop i) σ st
  | 0, i, σ, st, h, h2 => by omega
  | n + 1, i, σ, st, h, h2 => by
    rw [forRun]
    simp only [nextD]
    by_cases hi : i < xs.length
    · rw [List.getElem?_eq_getElem hi, List.drop_eq_getElem_cons hi, forL]
      simp only
      cases asgT st t xs[i] σ with
      | none => rfl
      | some σ2 =>
        simp only
        cases b σ2 st with
        | nx σ3 st3 => exact forRun_seq t b xs n (i + 1) σ3 st3 (by omega) (by omega)
        | cnt σ3 st3 => exact forRun_seq t b xs n (i + 1) σ3 st3 (by omega) (by omega)
        | brk _ _ => rfl
        | ret _ _ => rfl
        | raise _ _ _ => rfl
        | stuck => rfl
    · rw [List.getElem?_eq_none (by omega), List.drop_eq_nil_of_le (by omega), forL]
theorem forRun_all (t : IT) (b : EnvD → Store → OutS) (xs : List D) (σ : EnvD) (st : Store) (h : xs.length < fuelD) : forRun t b (.seq xs) fuelD 0 σ st = forL t b xs σ st := by
  rw [forRun_seq t b xs fuelD 0 σ st (by omega) (Nat.zero_le _), List.drop_zero]
/-- a comprehension over items that stand -/
def compL (g : D → Store → Out (Option D)) : List D → List D → Store → Out (List D)
  | [], acc, st => .ok acc st
  | x :: xs, acc, st => (g x st).bind fun r st1 => match r with
    | some y => if acc.length < 1000000 then compL g xs (acc ++ [y]) st1 else .stuck
    | none => compL g xs acc st1
theorem compRun_seq (g : D → Store → Out (Option D)) (xs : List D) : ∀ (n i : Nat) (acc : List D) (st : Store), xs.length < n + i → i ≤ xs.length → compRun g (.seq xs) n i acc st = compL g (xs.drop i) acc st
  | 0, i, acc, st, h, h2 => by omega
  | n + 1, i, acc, st, h, h2 => by
    rw [compRun]
    simp only [nextD]
    by_cases hi : i < xs.length
    · rw [List.getElem?_eq_getElem hi, List.drop_eq_getElem_cons hi, compL]
      simp only
      congr 1
      funext r st1
      cases r with
      | none => exact compRun_seq g xs n (i + 1) acc st1 (by omega) (by omega)
      | some y =>
        simp only
        split
        · exact compRun_seq g xs n (i + 1) _ st1 (by omega) (by omega)
        · rfl
    · rw [List.getElem?_eq_none (by omega), List.drop_eq_nil_of_le (by omega), compL]
theorem compRun_all (g : D → Store → Out (Option D)) (xs : List D) (st : Store) (h : xs.length < fuelD) : compRun g (.seq xs) fuelD 0 [] st = compL g xs [] st := by
  rw [compRun_seq g xs fuelD 0 [] st (by omega) (Nat.zero_le _), List.drop_zero]
/-- the loops, over items that stand -/
theorem exec_range {xm : Nat → Nat → Bool} {t : IT} {es : IEs} {b : ISs} {σ : EnvD} {st st1 : Store} {ds xs : List D} (h : evs es σ st = .ok ds st1) (hr : rangeD ds = some xs) (hl : xs.length < fuelD) :
    exec xm (.for t (.range es) b) σ st = forL t (execs xm b) xs σ st1 := by
  rw [exec, evi, h, Out.bind, hr, Option.map_some, ofO, Out.andS]
  exact forRun_all _ _ _ _ _ hl
theorem exec_items {xm : Nat → Nat → Bool} {t : IT} {e : IE} {b : ISs} {σ : EnvD} {st st1 : Store} {d : D} {xs : List D} (h : ev e σ st = .ok d st1) (hr : itemsD st1 d = some (.seq xs)) (hl : xs.length < fuelD) :
    exec xm (.for t (.val e) b) σ st = forL t (execs xm b) xs σ st1 := by
  rw [exec, evi, h, Out.bind, hr, ofO, Out.andS]
  exact forRun_all _ _ _ _ _ hl
end Ip
set_option Elab.async false
set_option linter.all false
set_option maxRecDepth 100000
set_option maxHeartbeats 1000000
/-! Plain laws: each equation by its name; loops, comprehensions, stores. -/
namespace Ip
open PySem (Str)

/-! ### terms -/
section
variable (σ : EnvD) (st : Store)
theorem ev_con (d : D) : ev (.con d) σ st = .ok d st := by rw [ev]
theorem ev_glob (x : Nat) (d : D) : ev (.glob x d) σ st = .ok d st := by rw [ev]
theorem ev_var (i : Nat) : ev (.var i) σ st = (match σ[i]? with
    | some (some d) => .ok d st
    | _ => .stuck) := by first | (rw [ev]; done) | (rw [ev]; rfl)
theorem ev_bin (o : BO) (a b : IE) : ev (.bin o a b) σ st = (ev a σ st).bind fun x st => (ev b σ st).bind fun y st => ofO (binD o st x y) st := by rw [ev]
theorem ev_un (o : UO) (a : IE) : ev (.un o a) σ st = (ev a σ st).bind fun x st => ofO (unD o x) st := by rw [ev]
theorem ev_cmp (o : CO) (a b : IE) : ev (.cmp o a b) σ st = (ev a σ st).bind fun x st => (ev b σ st).bind fun y st => ofO ((cmpD o st x y).map .bl) st := by rw [ev]
theorem ev_chain (o1 o2 : CO) (a b c : IE) : ev (.chain o1 o2 a b c) σ st = (ev a σ st).bind fun x st => (ev b σ st).bind fun y st => (ofO (cmpD o1 st x y) st).bind fun k st =>
      if k = true then (ev c σ st).bind fun z st => ofO ((cmpD o2 st y z).map .bl) st else .ok (.bl false) st := by rw [ev]
theorem ev_and (a b : IE) : ev (.and a b) σ st = (ev a σ st).bind fun x st => (ofO (truD st x) st).bind fun k st => if k = true then ev b σ st else .ok x st := by rw [ev]
theorem ev_or (a b : IE) : ev (.or a b) σ st = (ev a σ st).bind fun x st => (ofO (truD st x) st).bind fun k st => if k = true then .ok x st else ev b σ st := by rw [ev]
theorem ev_not (a : IE) : ev (.not a) σ st = (ev a σ st).bind fun x st => (ofO (truD st x) st).bind fun k st => .ok (.bl (!k)) st := by rw [ev]
theorem ev_ife (c a b : IE) : ev (.ife c a b) σ st = (ev c σ st).bind fun x st => (ofO (truD st x) st).bind fun k st => if k = true then ev a σ st else ev b σ st := by rw [ev]
theorem ev_tup (es : IEs) : ev (.tup es) σ st = (evs es σ st).bind fun xs st => if szOk xs.length then .ok (.tup xs) st else .stuck := by rw [ev]
theorem ev_lst (t : Bool) (es : IEs) : ev (.lst t es) σ st = (evs es σ st).bind fun xs st => if szOk xs.length then newLst t xs st else .stuck := by rw [ev]
theorem ev_sub (a b : IE) : ev (.sub a b) σ st = (ev a σ st).bind fun x st => (ev b σ st).bind fun y st => ofO (subD st x y) st := by rw [ev]
theorem ev_slice (a lo hi : IE) : ev (.slice a lo hi) σ st = (ev a σ st).bind fun x st => (evo lo σ st).bind fun i st => (evo hi σ st).bind fun j st => ofO (sliceD st x i j) st := by rw [ev]
def revD (st : Store) : D → Option D
  | .lst xs => some (.lst xs.reverse)
  | .ref n => match st[n]? with
    | some (.lst xs) => some (.lst xs.reverse)
    | _ => none
  | _ => none
theorem ev_rev (a : IE) : ev (.rev a) σ st = (ev a σ st).bind fun x st => ofO (revD st x) st := by
  rw [ev]
  congr 1
  funext x st
  cases x <;> try rfl
  rename_i n
  simp only [revD]
  rcases st[n]? with _ | c
  · rfl
  · cases c <;> rfl
theorem ev_dct0 : ev .dct0 σ st = .ok (.dct [] []) st := by rw [ev]
theorem ev_call (f : Nat) (dv : List D) (sm : Fn) (es : IEs) : ev (.call f dv sm es) σ st = (evs es σ st).bind fun xs st => sm (xs ++ dv) st := by rw [ev]
theorem ev_blt (b : Blt) (es : IEs) : ev (.blt b es) σ st = (evs es σ st).bind fun xs st => ofO (bltD b st xs) st := by rw [ev]
theorem ev_isi (t : Ty) (e : IE) : ev (.isi t e) σ st = (ev e σ st).bind fun x st => ofO ((isiD t x).map .bl) st := by rw [ev]
def mthO (m : Mth) (st : Store) (x : D) (xs : List D) : Out D := match mthD m st x xs with
    | some (d, st) => .ok d st
    | none => .stuck
theorem ev_mth (m : Mth) (o : IE) (es : IEs) : ev (.mth m o es) σ st = (ev o σ st).bind fun x st => if isLst st x = true then (evs es σ st).bind fun xs st => mthO m st x xs else .stuck := by rw [ev]; rfl
def compG (own : List Nat) (tg : IT) (cond elt : IE) (σ : EnvD) (x : D) (st : Store) : Out (Option D) := match asgT st tg x (wipeD σ own) with
        | none => .stuck
        | some σ' => noRaise ((ev cond σ' st).bind fun c st => (ofO (truD st c) st).bind fun k st => if k = true then (ev elt σ' st).bind fun y st => .ok (some y) st else .ok none st)
def compB (cond elt : IE) (σ : EnvD) (st : Store) : Out (Option D) := (ev cond σ st).bind fun c st => (ofO (truD st c) st).bind fun k st => if k = true then (ev elt σ st).bind fun y st => .ok (some y) st else .ok none st
theorem compG_nm (own : List Nat) (i : Nat) (cond elt : IE) (σ : EnvD) (x : D) (st : Store) : compG own (.nm i) cond elt σ x st = noRaise (compB cond elt ((wipeD σ own).set i (some x)) st) := rfl
def compO (cond elt : IE) (o : Option EnvD) (st : Store) : Out (Option D) := match o with
  | some σ => noRaise (compB cond elt σ st)
  | none => .stuck
theorem compO_some (cond elt : IE) (σ : EnvD) (st : Store) : compO cond elt (some σ) st = noRaise (compB cond elt σ st) := rfl
theorem compG_tp (own is : List Nat) (cond elt : IE) (σ : EnvD) (xs : List D) (st : Store) : compG own (.tp is) cond elt σ (.tup xs) st = compO cond elt (setAll is xs (wipeD σ own)) st := by
  unfold compG compO
  rw [show asgT st (.tp is) (.tup xs) (wipeD σ own) = setAll is xs (wipeD σ own) from rfl]
  cases setAll is xs (wipeD σ own) <;> rfl
theorem noR_ok {α : Type} (a : α) (st : Store) : noRaise (.ok a st) = .ok a st := rfl
theorem wipe_nil (σ : EnvD) : wipeD σ [] = σ := rfl
theorem wipe_cons (σ : EnvD) (v : Nat) (vs : List Nat) : wipeD σ (v :: vs) = (wipeD σ vs).set v none := rfl
theorem ev_comp (t : Bool) (own : List Nat) (it : IIt) (tg : IT) (cond elt : IE) : ev (.comp t own it tg cond elt) σ st = (evi it σ st).bind fun its st =>
      (compRun (compG own tg cond elt σ) its fuelD 0 [] st).bind fun ys st => newLst t ys st := by rw [ev]; rfl
def fzO (st : Store) (x : D) : Out D := match freeze st x with
    | some (d, st) => .ok d st
    | none => .stuck
theorem ev_fz (e : IE) : ev (.fz e) σ st = (ev e σ st).bind fun x st => fzO st x := by rw [ev]; rfl
theorem evs_nil : evs .nil σ st = .ok [] st := by rw [evs]
theorem evs_cons (e : IE) (es : IEs) : evs (.cons e es) σ st = (ev e σ st).bind fun x st => (evs es σ st).bind fun xs st => .ok (x :: xs) st := by rw [evs]
theorem evi_val (e : IE) : evi (.val e) σ st = (ev e σ st).bind fun x st => ofO (itemsD st x) st := by rw [evi]
theorem evi_range (es : IEs) : evi (.range es) σ st = (evs es σ st).bind fun xs st => ofO ((rangeD xs).map .seq) st := by rw [evi]
def evoK (x : D) (st : Store) : Out (Option Int) := match x with
    | .int i => .ok (some i) st
    | _ => .stuck
theorem evo_var (i : Nat) : evo (.var i) σ st = (ev (.var i) σ st).bind evoK := by rw [evo]; rfl; intro h; cases h
theorem evo_con (d : D) : evo (.con d) σ st = (ev (.con d) σ st).bind evoK := by rw [evo]; rfl; intro h; cases h
theorem evo_bin (o : BO) (a b : IE) : evo (.bin o a b) σ st = (ev (.bin o a b) σ st).bind evoK := by rw [evo]; rfl; intro h; cases h
theorem evo_un (o : UO) (a : IE) : evo (.un o a) σ st = (ev (.un o a) σ st).bind evoK := by rw [evo]; rfl; intro h; cases h
theorem evo_no : evo .no σ st = .ok none st := by rw [evo]
/-! ### statements -/
variable (xm : Nat → Nat → Bool)
theorem ex_pass : exec xm .pass σ st = .nx σ st := by rw [exec]
theorem ex_brk : exec xm .brk σ st = .brk σ st := by rw [exec]
theorem ex_cnt : exec xm .cnt σ st = .cnt σ st := by rw [exec]
theorem ex_doc (s : Str) : exec xm (.doc s) σ st = .nx σ st := by rw [exec]
theorem ex_expr (e : IE) : exec xm (.expr e) σ st = (ev e σ st).andS σ fun _ st => .nx σ st := by rw [exec]
theorem ex_ret (e : IE) : exec xm (.ret e) σ st = (ev e σ st).andS σ fun d st => .ret d st := by rw [exec]
theorem ex_retN : exec xm .retN σ st = .ret .non st := by rw [exec]
def nxO (o : Option EnvD) (st : Store) : OutS := match o with
    | some σ => .nx σ st
    | none => .stuck
theorem ex_asg (t : IT) (e : IE) : exec xm (.asg t e) σ st = (ev e σ st).andS σ fun d st => nxO (asgT st t d σ) st := by rw [exec]; rfl
theorem ex_par (is : List Nat) (es : IEs) : exec xm (.par is es) σ st = (evs es σ st).andS σ fun ds st => nxO (setAll is.reverse ds.reverse σ) st := by rw [exec]; rfl
def nxS (σ : EnvD) (o : Option Store) : OutS := match o with
    | some st => .nx σ st
    | none => .stuck
theorem ex_setI (o i v : IE) : exec xm (.setI o i v) σ st = (ev v σ st).andS σ fun d st => (ev o σ st).andS σ fun x st => (ev i σ st).andS σ fun y st => nxS σ (setD st x y d) := by rw [exec]; rfl
theorem ex_aug (i : Nat) (o : BO) (e : IE) : exec xm (.aug i o e) σ st = (match σ[i]? with
    | some (some a) => (ev e σ st).andS σ fun b st => nxO ((augD o a b).map fun d => σ.set i (some d)) st
    | _ => .stuck) := by
  rw [exec]
  rcases σ[i]? with _ | (_ | a)
  · rfl
  · rfl
  · show (ev e σ st).andS σ _ = (ev e σ st).andS σ _
    congr 1
    funext b st
    cases augD o a b <;> rfl
theorem ex_ite (c : IE) (a b : ISs) : exec xm (.ite c a b) σ st = (evt c σ st).andS σ fun k st => if k = true then execs xm a σ st else execs xm b σ st := by rw [exec]
theorem ex_whl (n : Nat) (c : IE) (b : ISs) : exec xm (.whl n c b) σ st = whlRun (evt c) (execs xm b) n σ st := by rw [exec]
theorem ex_for (t : IT) (it : IIt) (b : ISs) : exec xm (.for t it b) σ st = (evi it σ st).andS σ fun its st => forRun t (execs xm b) its fuelD 0 σ st := by rw [exec]
def raiseO (mk : MkF) (ds : List D) (σ : EnvD) (st : Store) : OutS := match mk ds st with
    | some x => .raise x σ st
    | none => .stuck
theorem ex_raise (k : Nat) (mk : MkF) (es : IEs) : exec xm (.raise k mk es) σ st = (evs es σ st).andS σ fun ds st => raiseO mk ds σ st := by rw [exec]; rfl
def tryO (xm : Nat → Nat → Bool) (hs : List Hd) (o : OutS) : OutS := match o with
    | .raise x σ st => handle xm x σ st hs
    | o => o
theorem ex_try (b : ISs) (hs : List Hd) : exec xm (.try b hs) σ st = tryO xm hs (execs xm b σ st) := by
  rw [exec]
  cases execs xm b σ st <;> rfl
theorem exs_nil : execs xm .nil σ st = .nx σ st := by rw [execs]
theorem exs_cons (s : IS) (ss : ISs) : execs xm (.cons s ss) σ st = (exec xm s σ st).seq (execs xm ss) := by rw [execs]
theorem evt_eq (e : IE) : evt e σ st = (ev e σ st).bind fun x st => ofO (truD st x) st := rfl
end
theorem bnd_ok {α β : Type} (a : α) (st : Store) (f : α → Store → Out β) : (Out.ok a st).bind f = f a st := rfl
theorem bnd_raise {α β : Type} (x : Ex) (st : Store) (f : α → Store → Out β) : (Out.raise x st).bind f = .raise x st := rfl
theorem andS_ok {α : Type} (a : α) (st : Store) (σ : EnvD) (f : α → Store → OutS) : (Out.ok a st).andS σ f = f a st := rfl
theorem andS_raise {α : Type} (x : Ex) (st : Store) (σ : EnvD) (f : α → Store → OutS) : (Out.raise x st).andS σ f = .raise x σ st := rfl
theorem seq_nx (σ : EnvD) (st : Store) (f : EnvD → Store → OutS) : (OutS.nx σ st).seq f = f σ st := rfl
theorem seq_ret (d : D) (st : Store) (f : EnvD → Store → OutS) : (OutS.ret d st).seq f = .ret d st := rfl
theorem seq_raise (x : Ex) (σ : EnvD) (st : Store) (f : EnvD → Store → OutS) : (OutS.raise x σ st).seq f = .raise x σ st := rfl
theorem seq_brk (σ : EnvD) (st : Store) (f : EnvD → Store → OutS) : (OutS.brk σ st).seq f = .brk σ st := rfl
theorem seq_cnt (σ : EnvD) (st : Store) (f : EnvD → Store → OutS) : (OutS.cnt σ st).seq f = .cnt σ st := rfl
theorem try_raise (xm : Nat → Nat → Bool) (hs : List Hd) (x : Ex) (σ : EnvD) (st : Store) : tryO xm hs (.raise x σ st) = handle xm x σ st hs := rfl
theorem try_ret (xm : Nat → Nat → Bool) (hs : List Hd) (d : D) (st : Store) : tryO xm hs (.ret d st) = .ret d st := rfl
theorem try_nx (xm : Nat → Nat → Bool) (hs : List Hd) (σ : EnvD) (st : Store) : tryO xm hs (.nx σ st) = .nx σ st := rfl
theorem ofO_some {α : Type} (a : α) (st : Store) : ofO (some a) st = .ok a st := rfl
theorem nxO_some (σ : EnvD) (st : Store) : nxO (some σ) st = .nx σ st := rfl
theorem nxS_some (σ : EnvD) (st : Store) : nxS σ (some st) = .nx σ st := rfl
theorem asgT_nm (st : Store) (i : Nat) (d : D) (σ : EnvD) : asgT st (.nm i) d σ = some (σ.set i (some d)) := rfl
theorem asgT_tp (st : Store) (is : List Nat) (ds : List D) (σ : EnvD) : asgT st (.tp is) (.tup ds) σ = setAll is ds σ := rfl
theorem setAll_nil (σ : EnvD) : setAll [] [] σ = some σ := rfl
theorem setAll_cons (i : Nat) (is : List Nat) (d : D) (ds : List D) (σ : EnvD) : setAll (i :: is) (d :: ds) σ = setAll is ds (σ.set i (some d)) := rfl
/-! ### operations -/
section
variable (st : Store)
theorem tru_bl (b : Bool) : truD st (.bl b) = some b := rfl
theorem tru_int (i : Int) : truD st (.int i) = some (i != 0) := rfl
theorem tru_non : truD st .non = some false := rfl
theorem tru_lst (xs : List D) : truD st (.lst xs) = some !xs.isEmpty := rfl
theorem tru_tup (xs : List D) : truD st (.tup xs) = some !xs.isEmpty := rfl
theorem add_int (i j : Int) : binD .add st (.int i) (.int j) = some (.int (i + j)) := rfl
theorem sub_int (i j : Int) : binD .sub st (.int i) (.int j) = some (.int (i - j)) := rfl
theorem mul_int (i j : Int) : binD .mul st (.int i) (.int j) = if mulOk i j then some (.int (i * j)) else none := rfl
theorem fdiv_int (i j : Int) : binD .fdiv st (.int i) (.int j) = if divOk j then some (.int (i.fdiv j)) else none := rfl
theorem mod_int (i j : Int) : binD .mod st (.int i) (.int j) = if j ≠ 0 then some (.int (i.fmod j)) else none := rfl
theorem pow_int (i j : Int) : binD .pow st (.int i) (.int j) = if powOk i j then some (.int (i ^ j.toNat)) else none := rfl
theorem neg_int (i : Int) : unD .neg (.int i) = some (.int (-i)) := rfl
theorem lt_int (i j : Int) : cmpD .lt st (.int i) (.int j) = some (decide (i < j)) := rfl
theorem le_int (i j : Int) : cmpD .le st (.int i) (.int j) = some (decide (i ≤ j)) := rfl
theorem gt_int (i j : Int) : cmpD .gt st (.int i) (.int j) = some (decide (j < i)) := rfl
theorem ge_int (i j : Int) : cmpD .ge st (.int i) (.int j) = some (decide (j ≤ i)) := rfl
theorem eq_int (i j : Int) : cmpD .eq st (.int i) (.int j) = some (i == j) := rfl
theorem ne_int (i j : Int) : cmpD .ne st (.int i) (.int j) = some (!(i == j)) := rfl
theorem eq_str (x y : Str) : cmpD .eq st (.str x) (.str y) = some (x == y) := rfl
theorem ne_str (x y : Str) : cmpD .ne st (.str x) (.str y) = some (!(x == y)) := rfl
theorem is_bl (a b : Bool) : cmpD .is st (.bl a) (.bl b) = some (decide (a = b)) := rfl
theorem isnot_bl (a b : Bool) : cmpD .isnot st (.bl a) (.bl b) = some (!decide (a = b)) := rfl
theorem abs_int (i : Int) : bltD .abs st [.int i] = some (.int (i.natAbs : Int)) := by
  unfold bltD
  simp only [Option.some.injEq, D.int.injEq]
  split <;> omega
theorem int_int (i : Int) : bltD .int st [.int i] = some (.int i) := rfl
theorem int_bl (k : Bool) : bltD .int st [.bl k] = some (.int (if k then 1 else 0)) := rfl
theorem bool_bl (k : Bool) : bltD .bool st [.bl k] = some (.bl k) := rfl
theorem max_int (i j : Int) : bltD .max st [.int i, .int j] = some (.int (max i j)) := by
  unfold bltD
  simp only [Option.some.injEq, D.int.injEq]
  split <;> omega
theorem min_int (i j : Int) : bltD .min st [.int i, .int j] = some (.int (min i j)) := by
  unfold bltD
  simp only [Option.some.injEq, D.int.injEq]
  split <;> omega
theorem gcd_int (i j : Int) : bltD .gcd st [.int i, .int j] = some (.int ((Nat.gcd i.natAbs j.natAbs : Nat) : Int)) := rfl
theorem len_lst (xs : List D) : bltD .len st [.lst xs] = some (.int (xs.length : Int)) := rfl
theorem len_tup (xs : List D) : bltD .len st [.tup xs] = some (.int (xs.length : Int)) := rfl
theorem tuple_lst (xs : List D) : bltD .tuple st [.lst xs] = some (.tup xs) := rfl
theorem sum_lst (xs : List D) : bltD .sum st [.lst xs] = (intsOf xs).map fun ns => .int ns.sum := rfl
theorem sub_lst (xs : List D) (i : Int) : subD st (.lst xs) (.int i) = L2.atI xs i := rfl
theorem sub_tup (xs : List D) (i : Int) : subD st (.tup xs) (.int i) = L2.atI xs i := rfl
theorem items_lst (xs : List D) : itemsD st (.lst xs) = some (.seq xs) := rfl
theorem items_tup (xs : List D) : itemsD st (.tup xs) = some (.seq xs) := rfl
theorem rev_lst (xs : List D) : revD st (.lst xs) = some (.lst xs.reverse) := rfl
theorem newLst_f (xs : List D) : newLst false xs st = .ok (.lst xs) st := rfl
theorem newLst_t (xs : List D) : newLst true xs st = .ok (.ref st.length) (st ++ [.lst xs]) := rfl
theorem add_lst (xs ys : List D) : binD .add st (.lst xs) (.lst ys) = if szOk (xs.length + ys.length) then some (.lst (xs ++ ys)) else none := rfl
theorem add_tup (xs ys : List D) : binD .add st (.tup xs) (.tup ys) = if szOk (xs.length + ys.length) then some (.tup (xs ++ ys)) else none := rfl
theorem add_str (x y : Str) : binD .add st (.str x) (.str y) = if szOk (x.length + y.length) then some (.str (x ++ y)) else none := rfl
end
theorem evoK_int (i : Int) (st : Store) : evoK (.int i) st = .ok (some i) st := rfl
theorem slice_lst (st : Store) (xs : List D) (lo hi : Option Int) : sliceD st (.lst xs) lo hi = some (.lst (cutD xs lo hi)) := rfl
theorem slice_tup (st : Store) (xs : List D) (lo hi : Option Int) : sliceD st (.tup xs) lo hi = some (.tup (cutD xs lo hi)) := rfl
theorem pow_at {i j c : Int} (h : powOk i j = true) (e : i ^ j.toNat = c) (st : Store) : binD .pow st (.int i) (.int j) = some (.int c) := by rw [pow_int, if_pos h, e]
theorem mem_cut {α : Type} {xs : List α} {lo hi : Option Int} {x : α} (h : x ∈ cutD xs lo hi) : x ∈ xs := by
  unfold cutD at h
  exact List.mem_of_mem_drop (List.mem_of_mem_take h)
theorem int_beq (i j : Int) : (i == j) = decide (i = j) := by
  by_cases h : i = j <;> simp [h]
theorem ixN_nat {n i : Nat} (h : i < n) : L2.ixN n (i : Int) = some i := by
  unfold L2.ixN
  rw [if_pos (by omega), if_pos (by omega)]; simp
theorem atI_nat {α : Type} (xs : List α) (i : Nat) : L2.atI xs (i : Int) = xs[i]? := by
  unfold L2.atI
  by_cases h : i < xs.length
  · rw [ixN_nat h]; rfl
  · unfold L2.ixN
    rw [if_pos (by omega), if_neg (by omega), List.getElem?_eq_none (by omega)]; rfl
/-! ### ints: sizes -/
theorem log2_le' {n k : Nat} (h : n < 2 ^ k) (hk : 0 < k) : n.log2 < k := by
  by_cases h0 : n = 0
  · subst h0; simpa using hk
  · exact (Nat.log2_lt h0).mpr h
theorem mul_ok {i j : Int} (a b : Nat) (ha : i.natAbs < 2 ^ a) (hb : j.natAbs < 2 ^ b) (h0 : 0 < a) (h1 : 0 < b) (h : a + b ≤ 1000000) : mulOk i j = true := by
  unfold mulOk
  have := log2_le' ha h0
  have := log2_le' hb h1
  exact decide_eq_true (by omega)
theorem div_ok {j : Int} (b : Nat) (h : j ≠ 0) (hb : j.natAbs < 2 ^ b) (h0 : 0 < b) (h9 : b ≤ 9000) : divOk j = true := by
  unfold divOk
  have := log2_le' hb h0
  exact decide_eq_true ⟨h, by omega⟩
/-! ### a call -/
def endO (st : Store) (o : OutS) : Out D := match o with
  | .nx _ st' => .ok .non (closeSt st st')
  | .ret d st' => if noRef d = true then .ok d (closeSt st st') else .ok d st'
  | .raise x _ st' => if noRefs x.vs = true then .raise x (closeSt st st') else .raise x st'
  | _ => .stuck
theorem callD_eq (xm : Nat → Nat → Bool) (np n : Nat) (b : ISs) (ds : List D) (st : Store) (h : ds.length = np) : callD xm np n b ds st = endO st (execs xm b (ds.map some ++ List.replicate n none) st) := by
  unfold callD
  rw [if_pos h]
  cases execs xm b (ds.map some ++ List.replicate n none) st <;> rfl
theorem end_nx (σ : EnvD) (st st' : Store) : endO st (.nx σ st') = .ok .non (closeSt st st') := rfl
theorem end_ret {d : D} {st st' : Store} (h : noRef d = true) : endO st (.ret d st') = .ok d (closeSt st st') := if_pos h
theorem end_ref {d : D} {st st' : Store} (h : noRef d = false) : endO st (.ret d st') = .ok d st' := if_neg (by rw [h]; decide)
theorem end_raise {x : Ex} {σ : EnvD} {st st' : Store} (h : noRefs x.vs = true) : endO st (.raise x σ st') = .raise x (closeSt st st') := if_pos h
/-! ### loops -/
theorem forL_inv {t : IT} {b : EnvD → Store → OutS} (I : Nat → EnvD → Store → Prop) (xs : List D)
    (turn : ∀ (i : Nat) (x : D) (σ : EnvD) (st : Store), xs[i]? = some x → I i σ st → ∃ σ1, asgT st t x σ = some σ1 ∧ ((∃ σ2 st2, b σ1 st = .nx σ2 st2 ∧ I (i + 1) σ2 st2) ∨ (∃ σ2 st2, b σ1 st = .cnt σ2 st2 ∧ I (i + 1) σ2 st2))) :
    ∀ (σ : EnvD) (st : Store), I 0 σ st → ∃ σ' st', forL t b xs σ st = .nx σ' st' ∧ I xs.length σ' st' := by
  have key : ∀ (ys : List D) (i : Nat) (σ : EnvD) (st : Store), ys = xs.drop i → I i σ st → ∃ σ' st', forL t b ys σ st = .nx σ' st' ∧ I (i + ys.length) σ' st' := by
    intro ys
    induction ys with
    | nil => intro i σ st _ h; exact ⟨σ, st, rfl, h⟩
    | cons y ys ih =>
      intro i σ st e h
      have hi : xs[i]? = some y := by
        have := congrArg (fun l => l[0]?) e
        simpa using this.symm
      have e2 : ys = xs.drop (i + 1) := by
        have := congrArg List.tail e
        simpa [List.tail_drop] using this
      obtain ⟨σ1, h1, h2⟩ := turn i y σ st hi h
      rw [forL]
      simp only [h1]
      have el : i + (y :: ys).length = i + 1 + ys.length := by simp; omega
      rw [el]
      rcases h2 with ⟨σ2, st2, h3, h4⟩ | ⟨σ2, st2, h3, h4⟩ <;> simp only [h3] <;> exact ih (i + 1) σ2 st2 e2 h4
  intro σ st h
  have := key xs 0 σ st (by simp) h
  simpa using this
/-- a while by a number that falls -/
theorem whl_inv {c : EnvD → Store → Out Bool} {b : EnvD → Store → OutS} (I : EnvD → Store → Prop) (m : EnvD → Store → Nat) (Q : EnvD → Store → Prop)
    (turn : ∀ σ st, I σ st → (∃ st1, c σ st = .ok false st1 ∧ Q σ st1) ∨ (∃ st1 σ2 st2, c σ st = .ok true st1 ∧ b σ st1 = .nx σ2 st2 ∧ I σ2 st2 ∧ m σ2 st2 < m σ st)) :
    ∀ (n : Nat) (σ : EnvD) (st : Store), m σ st < n → I σ st → ∃ σ' st', whlRun c b n σ st = .nx σ' st' ∧ Q σ' st' := by
  intro n
  induction n with
  | zero => intro σ st h; omega
  | succ n ih =>
    intro σ st hn h
    rw [whlRun]
    rcases turn σ st h with ⟨st1, h1, h2⟩ | ⟨st1, σ2, st2, h1, h2, h3, h4⟩
    · refine ⟨σ, st1, ?_, h2⟩
      simp [h1, Out.andS]
    · obtain ⟨σ', st', h5, h6⟩ := ih σ2 st2 (by omega) h3
      refine ⟨σ', st', ?_, h6⟩
      simp [h1, h2, Out.andS, h5]
/-! ### comprehensions -/
theorem compL_map {g : D → Store → Out (Option D)} {st : Store} (f : D → D) : ∀ (xs acc : List D), (∀ x ∈ xs, g x st = .ok (some (f x)) st) → acc.length + xs.length ≤ 1000000 → compL g xs acc st = .ok (acc ++ xs.map f) st
  | [], acc, _, _ => by simp [compL]
  | x :: xs, acc, h, hl => by
    rw [compL, h x (by simp)]
    simp only [Out.bind]
    simp at hl
    rw [if_pos (by omega), compL_map f xs _ (fun y hy => h y (by simp [hy])) (by simp; omega)]
    simp
theorem compL_filterMap {g : D → Store → Out (Option D)} {st : Store} (f : D → Option D) : ∀ (xs acc : List D), (∀ x ∈ xs, g x st = .ok (f x) st) → acc.length + xs.length ≤ 1000000 → compL g xs acc st = .ok (acc ++ xs.filterMap f) st
  | [], acc, _, _ => by simp [compL]
  | x :: xs, acc, h, hl => by
    rw [compL, h x (by simp)]
    simp only [Out.bind]
    simp at hl
    cases hf : f x with
    | none =>
      simp only []
      rw [compL_filterMap f xs _ (fun y hy => h y (by simp [hy])) (by omega)]
      simp [hf]
    | some y =>
      simp only []
      rw [if_pos (by omega), compL_filterMap f xs _ (fun y hy => h y (by simp [hy])) (by simp; omega)]
      simp [hf]
theorem comp_map {g : D → Store → Out (Option D)} {st : Store} (f : D → D) (xs : List D) (h : ∀ x ∈ xs, g x st = .ok (some (f x)) st) (hl : xs.length ≤ 1000000) : compRun g (.seq xs) fuelD 0 [] st = .ok (xs.map f) st := by
  rw [compRun_all _ _ _ (by unfold fuelD; omega), compL_map f xs [] h (by simpa using hl)]; simp
theorem comp_filterMap {g : D → Store → Out (Option D)} {st : Store} (f : D → Option D) (xs : List D) (h : ∀ x ∈ xs, g x st = .ok (f x) st) (hl : xs.length ≤ 1000000) : compRun g (.seq xs) fuelD 0 [] st = .ok (xs.filterMap f) st := by
  rw [compRun_all _ _ _ (by unfold fuelD; omega), compL_filterMap f xs [] h (by simpa using hl)]; simp
/-! ### stores -/
theorem isLst_at {st : Store} {n : Nat} {zs : List D} (h : st[n]? = some (.lst zs)) : isLst st (.ref n) = true := by simp [isLst, h]
theorem append_at {st : Store} {n : Nat} {zs : List D} (h : st[n]? = some (.lst zs)) (hl : zs.length < 1000000) (y : D) : mthO .append st (.ref n) [y] = .ok .non (st.set n (.lst (zs ++ [y]))) := by
  simp [mthO, mthD, h, hl]
theorem tuple_at {st : Store} {n : Nat} {zs : List D} (h : st[n]? = some (.lst zs)) : bltD .tuple st [.ref n] = some (.tup zs) := by simp [bltD, seqOf, h]
theorem rev_at {st : Store} {n : Nat} {zs : List D} (h : st[n]? = some (.lst zs)) : revD st (.ref n) = some (.lst zs.reverse) := by simp [revD, h]
theorem get_last (st : Store) (l : Store) (i : Nat) : (st ++ l)[st.length + i]? = l[i]? := by
  rw [List.getElem?_append_right (by omega)]
  congr 1; omega
theorem get_last0 (st : Store) (l : Store) : (st ++ l)[st.length]? = l[0]? := get_last st l 0
theorem set_last (st : Store) (l : Store) (i : Nat) (x : Cell) : (st ++ l).set (st.length + i) x = st ++ l.set i x := by
  rw [List.set_append_right _ _ (by omega)]
  congr 2; omega
theorem set_last0 (st : Store) (l : Store) (x : Cell) : (st ++ l).set st.length x = st ++ l.set 0 x := set_last st l 0 x
theorem closeSt_len {st st' : Store} (h : st'.length = st.length) : closeSt st st' = st' := by
  unfold closeSt
  split
  · exact List.take_of_length_le (by omega)
  · rfl
/-- no object is being made -/
def notIns : Cell → Bool
  | .ins _ _ => false
  | _ => true
def Calm (st : Store) : Prop := ∀ c ∈ st, notIns c = true
theorem sameC_refl {c : Cell} (h : notIns c = true) : sameC c c = true := by
  cases c <;> first | rfl | (simp only [sameC]; exact sameDs_refl _) | (simp only [sameC, sameDs_refl, Bool.and_self]; done) | cases h
theorem keepB_of : ∀ {st st' : Store}, st.length ≤ st'.length → (∀ (i : Nat) c d, st[i]? = some c → st'[i]? = some d → (sameC c d || noRefC d) = true) → keepB st st' = true
  | [], _, _, _ => by simp [keepB]
  | c :: cs, [], h, _ => by simp at h
  | c :: cs, d :: ds, h, k => by
    rw [keepB, k 0 c d rfl rfl, keepB_of (by simpa using h) fun i c' d' h1 h2 => k (i + 1) c' d' (by simpa using h1) (by simpa using h2)]
    rfl
theorem closeSt_app {st : Store} (h : Calm st) (l : Store) : closeSt st (st ++ l) = st := by
  unfold closeSt
  rw [if_pos]
  · simp
  · refine keepB_of (by simp) fun i c d h1 h2 => ?_
    have hi : i < st.length := (List.getElem?_eq_some_iff.mp h1).1
    rw [List.getElem?_append_left hi, h1] at h2
    cases h2
    rw [sameC_refl (h c (List.mem_of_getElem? h1))]; rfl
/-- a call that turns one cell into one of ints, and lays some that are let go -/
theorem closeSt_set {st : Store} (h : Calm st) (r : Nat) {x : Cell} (hx : noRefC x = true) (l : Store) : closeSt st (st.set r x ++ l) = st.set r x := by
  unfold closeSt
  rw [if_pos]
  · simp
  · refine keepB_of (by simp) fun i c d h1 h2 => ?_
    have hi : i < st.length := (List.getElem?_eq_some_iff.mp h1).1
    rw [List.getElem?_append_left (by simpa using hi)] at h2
    rw [List.getElem?_set] at h2
    split at h2
    · split at h2
      · cases h2; simp [hx]
      · cases h2
    · rw [h1] at h2
      cases h2
      rw [sameC_refl (h c (List.mem_of_getElem? h1))]; rfl
theorem Calm.set {st : Store} (h : Calm st) (r : Nat) {x : Cell} (hx : notIns x = true) : Calm (st.set r x) := by
  intro c hc
  rcases List.mem_or_eq_of_mem_set hc with h1 | h1
  · exact h c h1
  · subst h1; exact hx
theorem Calm.app {st : Store} (h : Calm st) {x : Cell} (hx : notIns x = true) : Calm (st ++ [x]) := by
  intro c hc
  rcases List.mem_append.mp hc with h1 | h1
  · exact h c h1
  · simp at h1; subst h1; exact hx
theorem Calm.nil : Calm [] := fun c hc => by cases hc
end Ip
set_option Elab.async false
set_option linter.all false
set_option maxRecDepth 100000
set_option maxHeartbeats 400000
/-! Binomials of integers. -/
namespace L01
def ff (n : Int) : Nat → Int
  | 0 => 1
  | k + 1 => ff n k * (n - k)
def fact : Nat → Int
  | 0 => 1
  | k + 1 => fact k * ((k : Int) + 1)
def up (f : Int → Int) : Nat → Int
  | 0 => 0
  | k + 1 => up f k + f k
def dn (f : Int → Int) : Nat → Int
  | 0 => 0
  | k + 1 => dn f k - f (-((k : Int) + 1))
def sumZ (f : Int → Int) (n : Int) : Int := if 0 ≤ n then up f n.toNat else dn f (-n).toNat
theorem sumZ_step (f : Int → Int) (n : Int) : sumZ f (n + 1) = sumZ f n + f n := by
  unfold sumZ
  by_cases h : 0 ≤ n
  · obtain ⟨m, rfl⟩ := Int.eq_ofNat_of_zero_le h
    rw [if_pos h, if_pos (by omega)]
    have e : ((m : Int) + 1).toNat = m + 1 := by omega
    rw [e, Int.toNat_natCast, up]
  · obtain ⟨m, rfl⟩ : ∃ m : Nat, n = -((m : Int) + 1) := ⟨(-n - 1).toNat, by omega⟩
    rw [if_neg h]
    have e : (- -((m : Int) + 1)).toNat = m + 1 := by omega
    rw [e, dn]
    cases m with
    | zero => simp [dn, up]; omega
    | succ m =>
      rw [if_neg (by omega)]
      have e2 : (-(-(((m + 1 : Nat) : Int) + 1) + 1)).toNat = m + 1 := by omega
      rw [e2]
      omega
theorem sumZ_zero (f : Int → Int) : sumZ f 0 = 0 := rfl
def bz : Nat → Int → Int
  | 0 => fun _ => 1
  | k + 1 => sumZ (bz k)
theorem bz_zero (n : Int) : bz 0 n = 1 := rfl
theorem bz_at0 (k : Nat) : bz (k + 1) 0 = 0 := rfl
theorem pascal (k : Nat) (n : Int) : bz (k + 1) (n + 1) = bz (k + 1) n + bz k n := sumZ_step _ _
theorem ff_step (n : Int) : ∀ k, ff (n + 1) (k + 1) = ff n (k + 1) + ((k : Int) + 1) * ff n k
  | 0 => by simp [ff]; 
  | k + 1 => by
    have ih := ff_step n k
    rw [ff, ih]
    rw [ff, ff] 
    have : ff n (k + 1) = ff n k * (n - k) := rfl
    push_cast
    rw [this]
    generalize ff n k = x
    grind
/-- a property of all integers by its steps -/
theorem int_ind {p : Int → Prop} (h0 : p 0) (hu : ∀ n, p n → p (n + 1)) (hd : ∀ n, p (n + 1) → p n) (n : Int) : p n := by
  have a : ∀ m : Nat, p m := fun m => by
    induction m with
    | zero => exact h0
    | succ m ih => have := hu _ ih; push_cast; exact this
  have b : ∀ m : Nat, p (-(m : Int)) := fun m => by
    induction m with
    | zero => exact h0
    | succ m ih =>
      refine hd _ ?_
      have e : -((m + 1 : Nat) : Int) + 1 = -(m : Int) := by omega
      rw [e]; exact ih
  rcases Int.le_total 0 n with h | h
  · obtain ⟨m, rfl⟩ := Int.eq_ofNat_of_zero_le h; exact a m
  · have e : n = -((-n).toNat : Int) := by omega
    rw [e]; exact b _
theorem ff_at0 : ∀ k, ff 0 (k + 1) = 0
  | 0 => by simp [ff]
  | k + 1 => by rw [ff, ff_at0 k]; simp
theorem bz_ff : ∀ (k : Nat) (n : Int), fact k * bz k n = ff n k
  | 0, n => by simp [fact, bz, ff]
  | k + 1, n => by
    have ih := bz_ff k
    refine int_ind (p := fun n => fact (k + 1) * bz (k + 1) n = ff n (k + 1)) ?_ ?_ ?_ n
    · rw [bz_at0, ff_at0]; simp
    · intro n h
      rw [pascal, Int.mul_add, h, ff_step, ← ih n, fact]
      grind
    · intro n h
      rw [pascal, Int.mul_add, ff_step, ← ih n, fact] at h
      rw [fact]
      grind
theorem fact_pos : ∀ k, 0 < fact k
  | 0 => by simp [fact]
  | k + 1 => by rw [fact]; exact Int.mul_pos (fact_pos k) (by omega)
/-- from one to the next -/
theorem bz_step (k : Nat) (n : Int) : bz (k + 1) n * ((k : Int) + 1) = bz k n * (n - k) := by
  have h1 := bz_ff (k + 1) n
  have h2 := bz_ff k n
  rw [ff, ← h2, fact] at h1
  have hp := fact_pos k
  have : fact k * (bz (k + 1) n * ((k : Int) + 1)) = fact k * (bz k n * (n - k)) := by grind
  exact Int.eq_of_mul_eq_mul_left (by omega) this
theorem bz_small {k : Nat} : ∀ {n : Nat}, n < k → bz k n = 0 := by
  induction k with
  | zero => intro n h; omega
  | succ k ih =>
    intro n
    induction n with
    | zero => intro _; rfl
    | succ n ihn =>
      intro h
      push_cast
      rw [pascal, ihn (by omega), ih (by omega)]
      rfl
/-- below 0 as above, up to the sign -/
def sg : Nat → Int
  | 0 => 1
  | k + 1 => - sg k
theorem ff_neg (n : Int) : ∀ k : Nat, ff ((k : Int) - n - 1) k = sg k * ff n k := by
  -- the factors, from the last
  have key : ∀ (k : Nat) (m : Int), ff (m + 1) (k + 1) = (m + 1) * ff m k := by
    intro k
    induction k with
    | zero => intro m; simp [ff]
    | succ k ih => intro m; rw [ff, ih, ff]; push_cast; grind
  intro k
  induction k with
  | zero => simp [ff, sg]
  | succ k ih =>
    have e : (((k + 1 : Nat) : Int) - n - 1) = ((k : Int) - n - 1) + 1 := by push_cast; omega
    rw [e, key, ih, ff, sg]
    grind
theorem bz_neg (k : Nat) (n : Int) : bz k ((k : Int) - n - 1) * sg k = bz k n := by
  have h1 := bz_ff k ((k : Int) - n - 1)
  have h2 := bz_ff k n
  rw [ff_neg, ← h2] at h1
  have hs : sg k * sg k = 1 := by
    induction k with
    | zero => rfl
    | succ k ih =>
      rw [sg]
      have : -sg k * -sg k = sg k * sg k := by grind
      rw [this]
      clear h1 h2
      have z : ∀ k, sg k * sg k = 1 := by
        intro k
        induction k with
        | zero => rfl
        | succ k ih => rw [sg]; grind
      exact z k
  have hp := fact_pos k
  have : fact k * (bz k ((k : Int) - n - 1) * sg k) = fact k * bz k n := by grind
  exact Int.eq_of_mul_eq_mul_left (by omega) this
/-- sum over i ≤ K -/
def conv (a b : Int) (K : Nat) : Nat → Int
  | 0 => bz 0 a * bz K b
  | i + 1 => conv a b K i + bz (i + 1) a * bz (K - (i + 1)) b
theorem conv_step (a b : Int) (K : Nat) : ∀ i, i ≤ K → conv (a + 1) b (K + 1) (i + 1) = conv a b (K + 1) (i + 1) + conv a b K i
  | 0, _ => by
    simp only [conv, pascal, bz_zero]
    have : K + 1 - (0 + 1) = K := by omega
    rw [this]
    grind
  | i + 1, h => by
    rw [conv, conv_step a b K i (by omega), pascal]
    rw [conv.eq_2 a b (K + 1) (i + 1), conv.eq_2 a b K i]
    have e : K + 1 - (i + 1 + 1) = K - (i + 1) := by omega
    rw [e]
    grind
theorem conv_zero (b : Int) (K : Nat) : ∀ i, conv 0 b K i = bz K b
  | 0 => by simp [conv, bz_zero]
  | i + 1 => by rw [conv, conv_zero b K i, bz_at0]; simp
theorem vander (b : Int) : ∀ (K : Nat) (a : Int), bz K (a + b) = conv a b K K
  | 0, a => by simp [conv, bz_zero]
  | K + 1, a => by
    have ih := vander b K
    refine int_ind (p := fun a => bz (K + 1) (a + b) = conv a b (K + 1) (K + 1)) ?_ ?_ ?_ a
    · rw [conv_zero]; simp
    · intro a h
      have e : a + 1 + b = (a + b) + 1 := by omega
      rw [e, pascal, conv_step a b K K (Nat.le_refl _), h, ih]
    · intro a h
      have e : a + 1 + b = (a + b) + 1 := by omega
      rw [e, pascal, conv_step a b K K (Nat.le_refl _), ih] at h
      omega
/-! ### sizes -/
theorem ff_size (n : Int) : ∀ k : Nat, (ff n k).natAbs ≤ (n.natAbs + k) ^ k
  | 0 => by simp [ff]
  | k + 1 => by
    rw [ff, Int.natAbs_mul, Nat.pow_succ]
    refine Nat.mul_le_mul (Nat.le_trans (ff_size n k) (Nat.pow_le_pow_left (by omega) k)) ?_
    omega
theorem bz_size (n : Int) (k : Nat) : (bz k n).natAbs ≤ (n.natAbs + k) ^ k := by
  have h := bz_ff k n
  have hp := fact_pos k
  refine Nat.le_trans ?_ (ff_size n k)
  rw [← h, Int.natAbs_mul]
  have : 1 ≤ (fact k).natAbs := by omega
  exact Nat.le_mul_of_pos_left _ this
theorem log2_le {n k : Nat} (h : n < 2 ^ k) (hk : 0 < k) : n.log2 < k := by
  by_cases h0 : n = 0
  · subst h0; simpa using hk
  · exact (Nat.log2_lt h0).mpr h
theorem bz_bits {n : Int} {k : Nat} (hn : n.natAbs < 2 ^ 300) (hk : k ≤ 100) : (bz k n).natAbs < 2 ^ 30200 := by
  refine Nat.lt_of_le_of_lt (bz_size n k) ?_
  have h1 : n.natAbs + k ≤ 2 ^ 301 := by
    have : (100 : Nat) ≤ 2 ^ 300 := by decide
    have e : (2 : Nat) ^ 301 = 2 ^ 300 + 2 ^ 300 := by decide
    omega
  refine Nat.lt_of_le_of_lt (Nat.pow_le_pow_left h1 k) ?_
  rw [← Nat.pow_mul]
  exact Nat.pow_lt_pow_right (by omega) (by omega)
end L01
set_option Elab.async false
set_option linter.all false
set_option maxRecDepth 100000
set_option maxHeartbeats 1000000
namespace L01
open Ip
open PySem (Str)
/-- the values that the law draws -/
def isWhole : D → Bool
  | .int _ => true
  | _ => false
def big : Int := 1000000000000000000000000000000000000000000000000000000000000
def isInt : D → Bool
  | .int i => decide (-big < i ∧ i < big)
  | _ => false
theorem whole_at {x : D} (h : isiD .int x ≠ none) (st : Store) : sm_is_whole [x] st = .ok (.bl (isWhole x)) st := by
  cases x <;> simp [sm_is_whole, callD, b_is_whole, execs, exec, ev, isiD, Out.andS, Out.bind, ofO, OutS.seq, truD, noRef, closeSt_self, isWhole] at h ⊢
  all_goals rename_i b; try (cases b <;> simp [truD, noRef, closeSt_self, ofO, Out.bind])
theorem integer_at {x : D} (h : isiD .int x ≠ none) (st : Store) : sm_is_integer [x] st = .ok (.bl (isInt x)) st := by
  cases x
  case int i =>
    simp only [sm_is_integer, callD, b_is_integer, execs, exec, ev, evs, List.map, List.length, List.replicate, List.cons_append, List.nil_append, if_true, List.getElem?_cons_zero, Out.bind, List.append_nil, whole_at h, isWhole, ofO, truD, c_BEYOND, unD, cmpD, Option.map]
    by_cases h1 : -big < i
    · have e1 : decide (-1000000000000000000000000000000000000000000000000000000000000 < i) = true := decide_eq_true h1
      simp only [e1, if_true, Out.andS, OutS.seq, noRef, closeSt_self, isInt]
      congr 3
      simp only [big] at h1 ⊢
      simp [h1]
    · have e1 : decide (-1000000000000000000000000000000000000000000000000000000000000 < i) = false := decide_eq_false h1
      simp only [e1, Bool.false_eq_true, if_false, Out.andS, OutS.seq, noRef, if_true, closeSt_self, isInt]
      congr 3
      exact (decide_eq_false fun z => h1 z.1).symm
  all_goals
    simp [sm_is_integer, callD, b_is_integer, execs, exec, ev, evs, whole_at h, Out.andS, Out.bind, ofO, OutS.seq, truD, noRef, closeSt_self, isWhole, isInt]
/-- what may be told by an exception -/
structure Shown (x : D) : Prop where
  isi : isiD .int x ≠ none
  dep : depthD x ≤ 60
  str : (strD x).isSome = true
  pure : noRef x = true
theorem integer_req {x : D} (h : Shown x) (st : Store) : sm_require_integer [x] st = if isInt x = true then .ok .non st else .raise ⟨0, [x]⟩ st := by
  have hn : noRefs [x] = true := by simp [noRefs, h.pure]
  simp only [sm_require_integer, callD, b_require_integer, execs, exec, ev, evs, evt, List.map, List.length, List.replicate, List.cons_append, List.nil_append, if_true, List.getElem?_cons_zero, Out.bind, List.append_nil, integer_at h.isi, ofO, truD]
  cases isInt x with
  | true => simp [Out.andS, OutS.seq, closeSt_self]
  | false =>
    simp [Out.andS, OutS.seq, closeSt_self, mk_InvalidNumber, mkStr, h.dep, h.str, hn]
def within (x : D) (l m : Int) : Bool := match x with
  | .int i => decide (l ≤ i ∧ i ≤ m)
  | _ => false
theorem within_req {x : D} (h : Shown x) (l m : Int) (st : Store) : sm_require_within [x, .int l, .int m] st = if within x l m = true then .ok .non st else .raise ⟨0, [x]⟩ st := by
  have hn : noRefs [x] = true := by simp [noRefs, h.pure]
  simp only [sm_require_within, callD, b_require_within, execs, exec, ev, evs, evt, List.map, List.length, List.replicate, List.cons_append, List.nil_append, if_true, List.getElem?_cons_zero, List.getElem?_cons_succ, Out.bind, List.append_nil, whole_at h.isi, ofO, truD]
  cases x
  case int i =>
    by_cases h1 : l ≤ i
    · by_cases h2 : i ≤ m
      · simp [isWhole, within, ofO, Out.bind, truD, cmpD, h1, h2, Out.andS, OutS.seq, closeSt_self]
      · simp [isWhole, within, ofO, Out.bind, truD, cmpD, h1, h2, Out.andS, OutS.seq, closeSt_self, mk_InvalidNumber, mkStr, h.dep, h.str, hn]
    · simp [isWhole, within, ofO, Out.bind, truD, cmpD, h1, Out.andS, OutS.seq, closeSt_self, mk_InvalidNumber, mkStr, h.dep, h.str, hn]
  all_goals
    simp [isWhole, within, ofO, Out.bind, truD, cmpD, Out.andS, OutS.seq, closeSt_self, mk_InvalidNumber, mkStr, h.dep, h.str, hn]
set_option exponentiation.threshold 400
theorem step_chosen {n : Int} {k i : Nat} (hn : n.natAbs < 2 ^ 300) (hk : k ≤ 100) (h : i < k) (st : Store) :
    execs xm l1_chosen [some (.int n), some (.int k), some (.int (bz i n)), some (.int (0 + (i : Int)))] st = .nx [some (.int n), some (.int k), some (.int (bz (i + 1) n)), some (.int (0 + (i : Int)))] st := by
  have hm : mulOk (bz i n) (n - (0 + (i : Int))) = true := mul_ok 30200 302 (bz_bits hn (by omega)) (by
    have e1 : (2 : Nat) ^ 302 = 4 * 2 ^ 300 := by decide
    have e2 : (100 : Nat) ≤ 2 ^ 300 := by decide
    rw [e1]; omega) (by decide) (by decide) (by decide)
  have hd : divOk (0 + (i : Int) + 1) = true := div_ok 8 (by omega) (by
    have : (2 : Nat) ^ 8 = 256 := by decide
    omega) (by decide) (by decide)
  have hs : (bz i n * (n - (0 + (i : Int)))).fdiv (0 + (i : Int) + 1) = bz (i + 1) n := by
    have := bz_step i n
    rw [Int.zero_add, ← this]
    exact Int.mul_fdiv_cancel _ (by omega)
  rw [l1_chosen]
  simp -implicitDefEqProofs only [exs_nil, exs_cons, ex_pass, ex_brk, ex_cnt, ex_doc, ex_expr, ex_ret, ex_retN, ex_asg, ex_par, ex_setI, ex_aug, ex_ite, ex_whl, ex_for, ex_raise, ex_try,
    ev_con, ev_glob, ev_var, ev_bin, ev_un, ev_cmp, ev_chain, ev_and, ev_or, ev_not, ev_ife, ev_tup, ev_lst, ev_sub, ev_slice, ev_rev, ev_dct0, ev_call, ev_blt, ev_isi, ev_mth, ev_comp, ev_fz, evs_nil, evs_cons, evi_val, evi_range, evo_no, evo_var, evo_con, evo_bin, evo_un, evoK_int, slice_lst, slice_tup, compG_nm, compG_tp, compO_some, compB, noR_ok, wipe_nil, wipe_cons, evt_eq,
    bnd_ok, bnd_raise, andS_ok, andS_raise, seq_nx, seq_ret, seq_raise, seq_brk, seq_cnt, ofO_some, nxO_some, nxS_some, try_raise, try_ret, try_nx, asgT_nm, asgT_tp, setAll_nil, setAll_cons,
    tru_bl, tru_int, tru_non, tru_lst, tru_tup, add_int, sub_int, mul_int, fdiv_int, mod_int, neg_int, lt_int, le_int, gt_int, ge_int, eq_int, ne_int, eq_str, ne_str, is_bl, isnot_bl, abs_int, int_int, int_bl, bool_bl, max_int, min_int, gcd_int, len_lst, len_tup, tuple_lst, sub_lst, sub_tup, items_lst, items_tup, add_lst, add_tup, add_str, rev_lst, newLst_f, newLst_t, end_nx,
    List.map_cons, List.map_nil, List.length_cons, List.length_nil, List.replicate_succ, List.replicate_zero, List.cons_append, List.nil_append, List.append_nil, List.getElem?_cons_zero, List.getElem?_cons_succ, List.set_cons_zero, List.set_cons_succ, List.reverse_cons, List.reverse_nil, Option.map_some, Option.map_none,
    if_true, if_false, Bool.false_eq_true, Bool.not_true, Bool.not_false, decide_true, decide_false, Bool.and_true, Bool.true_and, Bool.false_and, Bool.and_false, Bool.or_true, Bool.true_or, Bool.or_false, Bool.false_or, Nat.zero_add, Nat.reduceAdd, reduceCtorEq, reduceIte, *]
theorem loop_chosen {n : Int} {k : Nat} (hn : n.natAbs < 2 ^ 300) (hk : k ≤ 100) (st : Store) : ∀ (m i : Nat) (x : Option D), i + m = k → ∃ x', forL (.nm 3) (execs xm l1_chosen)
      ((List.range' i m).map fun (j : Nat) => D.int (0 + (j : Int))) [some (.int n), some (.int k), some (.int (bz i n)), x] st = .nx [some (.int n), some (.int k), some (.int (bz k n)), x'] st := by
  intro m
  induction m with
  | zero => intro i x h; exact ⟨x, by simp at h; subst h; rfl⟩
  | succ m ih =>
    intro i x h
    obtain ⟨x', e⟩ := ih (i + 1) (some (.int (0 + (i : Int)))) (by omega)
    refine ⟨x', ?_⟩
    rw [List.range'_succ, List.map_cons, forL]
    simp only [asgT, List.set, step_chosen hn hk (by omega : i < k)]
    exact e
theorem range_k {k : Nat} (hk : k ≤ 100000) : rangeD [.int (k : Int)] = some ((List.range k).map fun (j : Nat) => D.int (0 + (j : Int))) := by
  have h : (-2 ^ 62 : Int) ≤ (k : Int) ∧ (k : Int) < 2 ^ 62 := by omega
  simp only [rangeD, if_pos h, Int.toNat_natCast]
theorem range_run {k : Nat} (hk : k ≤ 100000) (t : IT) (b : EnvD → Store → OutS) (σ : EnvD) (st : Store) : forRun t b (.seq ((List.range k).map fun (j : Nat) => D.int (0 + (j : Int)))) fuelD 0 σ st = forL t b ((List.range' 0 k).map fun (j : Nat) => D.int (0 + (j : Int))) σ st := by
  rw [forRun_all _ _ _ _ _ (by rw [List.length_map, List.length_range, fuelD]; omega), List.range_eq_range']
theorem chosen_at {n : Int} {k : Nat} (hn : n.natAbs < 2 ^ 300) (hk : k ≤ 100) (st : Store) : sm_chosen [.int n, .int k] st = .ok (.int (bz k n)) st := by
  obtain ⟨x', e⟩ := loop_chosen hn hk st k 0 none (by omega)
  rw [bz_zero] at e
  have hr := range_k (k := k) (by omega)
  have hrr := range_run (k := k) (by omega) (.nm 3) (execs xm l1_chosen) [some (.int n), some (.int k), some (.int 1), none] st
  rw [sm_chosen, callD_eq xm 2 2 _ [.int n, .int k] _ rfl, b_chosen]
  simp -implicitDefEqProofs only [exs_nil, exs_cons, ex_pass, ex_brk, ex_cnt, ex_doc, ex_expr, ex_ret, ex_retN, ex_asg, ex_par, ex_setI, ex_aug, ex_ite, ex_whl, ex_for, ex_raise, ex_try,
    ev_con, ev_glob, ev_var, ev_bin, ev_un, ev_cmp, ev_chain, ev_and, ev_or, ev_not, ev_ife, ev_tup, ev_lst, ev_sub, ev_slice, ev_rev, ev_dct0, ev_call, ev_blt, ev_isi, ev_mth, ev_comp, ev_fz, evs_nil, evs_cons, evi_val, evi_range, evo_no, evo_var, evo_con, evo_bin, evo_un, evoK_int, slice_lst, slice_tup, compG_nm, compG_tp, compO_some, compB, noR_ok, wipe_nil, wipe_cons, evt_eq,
    bnd_ok, bnd_raise, andS_ok, andS_raise, seq_nx, seq_ret, seq_raise, seq_brk, seq_cnt, ofO_some, nxO_some, nxS_some, try_raise, try_ret, try_nx, asgT_nm, asgT_tp, setAll_nil, setAll_cons,
    tru_bl, tru_int, tru_non, tru_lst, tru_tup, add_int, sub_int, mul_int, fdiv_int, mod_int, neg_int, lt_int, le_int, gt_int, ge_int, eq_int, ne_int, eq_str, ne_str, is_bl, isnot_bl, abs_int, int_int, int_bl, bool_bl, max_int, min_int, gcd_int, len_lst, len_tup, tuple_lst, sub_lst, sub_tup, items_lst, items_tup, add_lst, add_tup, add_str, rev_lst, newLst_f, newLst_t, end_nx,
    List.map_cons, List.map_nil, List.length_cons, List.length_nil, List.replicate_succ, List.replicate_zero, List.cons_append, List.nil_append, List.append_nil, List.getElem?_cons_zero, List.getElem?_cons_succ, List.set_cons_zero, List.set_cons_succ, List.reverse_cons, List.reverse_nil, Option.map_some, Option.map_none,
    if_true, if_false, Bool.false_eq_true, Bool.not_true, Bool.not_false, decide_true, decide_false, Bool.and_true, Bool.true_and, Bool.false_and, Bool.and_false, Bool.or_true, Bool.true_or, Bool.or_false, Bool.false_or, Nat.zero_add, Nat.reduceAdd, reduceCtorEq, reduceIte, *]
  rw [end_ret rfl, closeSt_self]
end L01
set_option Elab.async false
set_option linter.all false
set_option maxRecDepth 100000
set_option maxHeartbeats 1000000
namespace L01
open Ip
open PySem (Str)
/-! ### the law's draws -/
def M61 : Int := 2305843009213693951
structure Urn (k r : Nat) (st : Store) : Prop where
  calm : Calm st
  urn : ∃ g m c : Int, st[r]? = some (.lst [.int g, .int m, .int c]) ∧ 0 ≤ g ∧ 0 ≤ m ∧ m < M61 ∧ 0 ≤ c ∧ c ≤ k
theorem Urn.mono {k k' r : Nat} {st : Store} (h : Urn k r st) (le : k ≤ k') : Urn k' r st := by
  obtain ⟨g, m, c, h1, h2, h3, h4, h5, h6⟩ := h.urn
  exact ⟨h.calm, g, m, c, h1, h2, h3, h4, h5, by omega⟩
theorem sub_ref3 {st : Store} {r : Nat} {a b c : D} (h : st[r]? = some (.lst [a, b, c])) : subD st (.ref r) (.int 0) = some a ∧ subD st (.ref r) (.int 1) = some b ∧ subD st (.ref r) (.int 2) = some c := by
  simp only [subD, seqOf, h]
  exact ⟨rfl, rfl, rfl⟩
theorem set_ref3 {st : Store} {r : Nat} {a b c : D} (h : st[r]? = some (.lst [a, b, c])) (v : D) : setD st (.ref r) (.int 0) v = some (st.set r (.lst [v, b, c])) ∧ setD st (.ref r) (.int 2) v = some (st.set r (.lst [a, b, v])) := by
  simp only [setD, h]
  exact ⟨rfl, rfl⟩
theorem get_set {st : Store} {r : Nat} {x y : Cell} (h : st[r]? = some x) : (st.set r y)[r]? = some y := by
  have : r < st.length := (List.getElem?_eq_some_iff.mp h).1
  rw [List.getElem?_set]; simp [this]
theorem fmod_nonneg {a b : Int} (h : 0 < b) : 0 ≤ a.fmod b ∧ a.fmod b < b := ⟨Int.fmod_nonneg_of_pos _ h, Int.fmod_lt_of_pos _ h⟩
theorem fdiv_nonneg {a b : Int} (h : 0 ≤ a) (h2 : 0 < b) : 0 ≤ a.fdiv b := Int.fdiv_nonneg h (by omega)
theorem take_at {k r : Nat} {st : Store} (h : Urn k r st) (hk : k < 2 ^ 60) {t : Int} (ht : 0 < t) (ht2 : t.natAbs < 2 ^ 8999) :
    ∃ v st', sm__law_take [.ref r, .int t] st = .ok (.int v) st' ∧ 0 ≤ v ∧ v < t ∧ Urn (k + 1) r st' ∧ st'.length = st.length := by
  obtain ⟨g, m, c, h1, h2, h3, h4, h5, h6⟩ := h.urn
  obtain ⟨e0, e1, e2⟩ := sub_ref3 h1
  have ht0 : t ≠ 0 := by omega
  have hd : divOk t = true := div_ok 8999 ht0 ht2 (by decide) (by decide)
  have hcall : sm__law_take [.ref r, .int t] st = endO st (execs xm b__law_take ([.ref r, .int t].map some ++ List.replicate 3 none) st) := by rw [sm__law_take, callD_eq xm 2 3 _ [.ref r, .int t] _ rfl]
  rw [hcall, b__law_take]
  by_cases hg : 0 < g
  · obtain ⟨s0, s2⟩ := set_ref3 h1 (.int (g.fdiv t))
    refine ⟨g.fmod t, st.set r (.lst [.int (g.fdiv t), .int m, .int c]), ?_, (fmod_nonneg ht).1, (fmod_nonneg ht).2, ⟨h.calm.set _ rfl, _, m, c, get_set h1, fdiv_nonneg h2 ht, h3, h4, h5, by omega⟩, by simp⟩
    simp -implicitDefEqProofs only [exs_nil, exs_cons, ex_pass, ex_brk, ex_cnt, ex_doc, ex_expr, ex_ret, ex_retN, ex_asg, ex_par, ex_setI, ex_aug, ex_ite, ex_whl, ex_for, ex_raise, ex_try,
    ev_con, ev_glob, ev_var, ev_bin, ev_un, ev_cmp, ev_chain, ev_and, ev_or, ev_not, ev_ife, ev_tup, ev_lst, ev_sub, ev_slice, ev_rev, ev_dct0, ev_call, ev_blt, ev_isi, ev_mth, ev_comp, ev_fz, evs_nil, evs_cons, evi_val, evi_range, evo_no, evo_var, evo_con, evo_bin, evo_un, evoK_int, slice_lst, slice_tup, compG_nm, compG_tp, compO_some, compB, noR_ok, wipe_nil, wipe_cons, evt_eq,
    bnd_ok, bnd_raise, andS_ok, andS_raise, seq_nx, seq_ret, seq_raise, seq_brk, seq_cnt, ofO_some, nxO_some, nxS_some, try_raise, try_ret, try_nx, asgT_nm, asgT_tp, setAll_nil, setAll_cons,
    tru_bl, tru_int, tru_non, tru_lst, tru_tup, add_int, sub_int, mul_int, fdiv_int, mod_int, neg_int, lt_int, le_int, gt_int, ge_int, eq_int, ne_int, eq_str, ne_str, is_bl, isnot_bl, abs_int, int_int, int_bl, bool_bl, max_int, min_int, gcd_int, len_lst, len_tup, tuple_lst, sub_lst, sub_tup, items_lst, items_tup, add_lst, add_tup, add_str, rev_lst, newLst_f, newLst_t, end_nx,
    List.map_cons, List.map_nil, List.length_cons, List.length_nil, List.replicate_succ, List.replicate_zero, List.cons_append, List.nil_append, List.append_nil, List.getElem?_cons_zero, List.getElem?_cons_succ, List.set_cons_zero, List.set_cons_succ, List.reverse_cons, List.reverse_nil, Option.map_some, Option.map_none,
    if_true, if_false, Bool.false_eq_true, Bool.not_true, Bool.not_false, decide_true, decide_false, Bool.and_true, Bool.true_and, Bool.false_and, Bool.and_false, Bool.or_true, Bool.true_or, Bool.or_false, Bool.false_or, Nat.zero_add, Nat.reduceAdd, reduceCtorEq, reduceIte, e0, e1, e2, hg, hd, ht0, s0, ne_eq, not_false_eq_true]
    rw [end_ret rfl, closeSt_len (by simp)]
  · obtain ⟨s0, s2⟩ := set_ref3 h1 (.int (c + 1))
    have g1 : (st.set r (.lst [.int g, .int m, .int (c + 1)]))[r]? = some (.lst [.int g, .int m, .int (c + 1)]) := get_set h1
    obtain ⟨f0, f1, f2⟩ := sub_ref3 g1
    have p60 : (2 : Nat) ^ 60 = 1152921504606846976 := by decide
    have p61 : (2 : Nat) ^ 61 = 2305843009213693952 := by decide
    have p80 : (2 : Nat) ^ 80 = 1208925819614629174706176 := by decide
    have m1 : mulOk 1299709 (c + 1) = true := mul_ok 61 61 (by omega) (by omega) (by decide) (by decide) (by decide)
    have m2 : mulOk 15485863 (c + 1) = true := mul_ok 61 61 (by omega) (by omega) (by decide) (by decide) (by decide)
    generalize hone : (m + 1299709 * (c + 1)).fmod 2305843009213693951 = one
    have one1 : 0 ≤ one ∧ one < 2305843009213693951 := by rw [← hone]; exact fmod_nonneg (by decide)
    have m3 : mulOk one one = true := mul_ok 61 61 (by omega) (by omega) (by decide) (by decide) (by decide)
    generalize htwo : (one * one + 15485863 * (c + 1)).fmod 1152921504606846883 = two
    have two1 : 0 ≤ two ∧ two < 1152921504606846883 := by rw [← htwo]; exact fmod_nonneg (by decide)
    have m4 : mulOk two 179424673 = true := mul_ok 61 61 (by omega) (by omega) (by decide) (by decide) (by decide)
    have d1 : divOk 8192 = true := by decide
    refine ⟨(((two * 179424673 + one).fmod 2305843009213693921).fdiv 8192).fmod t, st.set r (.lst [.int g, .int m, .int (c + 1)]), ?_, (fmod_nonneg ht).1, (fmod_nonneg ht).2, ⟨h.calm.set _ rfl, g, m, c + 1, g1, h2, h3, h4, by omega, by omega⟩, by simp⟩
    have n1 : (2305843009213693951 : Int) ≠ 0 := by decide
    have n2 : (1152921504606846883 : Int) ≠ 0 := by decide
    have n3 : (2305843009213693921 : Int) ≠ 0 := by decide
    simp -implicitDefEqProofs only [exs_nil, exs_cons, ex_pass, ex_brk, ex_cnt, ex_doc, ex_expr, ex_ret, ex_retN, ex_asg, ex_par, ex_setI, ex_aug, ex_ite, ex_whl, ex_for, ex_raise, ex_try,
    ev_con, ev_glob, ev_var, ev_bin, ev_un, ev_cmp, ev_chain, ev_and, ev_or, ev_not, ev_ife, ev_tup, ev_lst, ev_sub, ev_slice, ev_rev, ev_dct0, ev_call, ev_blt, ev_isi, ev_mth, ev_comp, ev_fz, evs_nil, evs_cons, evi_val, evi_range, evo_no, evo_var, evo_con, evo_bin, evo_un, evoK_int, slice_lst, slice_tup, compG_nm, compG_tp, compO_some, compB, noR_ok, wipe_nil, wipe_cons, evt_eq,
    bnd_ok, bnd_raise, andS_ok, andS_raise, seq_nx, seq_ret, seq_raise, seq_brk, seq_cnt, ofO_some, nxO_some, nxS_some, try_raise, try_ret, try_nx, asgT_nm, asgT_tp, setAll_nil, setAll_cons,
    tru_bl, tru_int, tru_non, tru_lst, tru_tup, add_int, sub_int, mul_int, fdiv_int, mod_int, neg_int, lt_int, le_int, gt_int, ge_int, eq_int, ne_int, eq_str, ne_str, is_bl, isnot_bl, abs_int, int_int, int_bl, bool_bl, max_int, min_int, gcd_int, len_lst, len_tup, tuple_lst, sub_lst, sub_tup, items_lst, items_tup, add_lst, add_tup, add_str, rev_lst, newLst_f, newLst_t, end_nx,
    List.map_cons, List.map_nil, List.length_cons, List.length_nil, List.replicate_succ, List.replicate_zero, List.cons_append, List.nil_append, List.append_nil, List.getElem?_cons_zero, List.getElem?_cons_succ, List.set_cons_zero, List.set_cons_succ, List.reverse_cons, List.reverse_nil, Option.map_some, Option.map_none,
    if_true, if_false, Bool.false_eq_true, Bool.not_true, Bool.not_false, decide_true, decide_false, Bool.and_true, Bool.true_and, Bool.false_and, Bool.and_false, Bool.or_true, Bool.true_or, Bool.or_false, Bool.false_or, Nat.zero_add, Nat.reduceAdd, reduceCtorEq, reduceIte, e0, e1, e2, hg, hd, ht0, s2, f0, f1, f2, m1, m2, m3, m4, d1, hone, htwo, n1, n2, n3, ne_eq, not_false_eq_true]
    rw [end_ret rfl, closeSt_len (by simp)]
/-- one of some items -/
theorem some_at {k r : Nat} {st : Store} (h : Urn k r st) (hk : k < 2 ^ 60) (xs : List D) (hx : xs ≠ []) (hl : xs.length < 100000) (hn : ∀ x ∈ xs, noRef x = true) :
    ∃ x st', sm__law_some [.ref r, .lst xs] st = .ok x st' ∧ x ∈ xs ∧ Urn (k + 1) r st' ∧ st'.length = st.length := by
  have hp : 0 < xs.length := List.length_pos_iff.mpr hx
  obtain ⟨v, st', e, v0, v1, u, l⟩ := take_at h hk (t := (xs.length : Int)) (by omega) (by
    refine Nat.lt_of_lt_of_le (m := 2 ^ 17) (by omega) (Nat.pow_le_pow_right (by decide) (by decide)))
  obtain ⟨i, rfl⟩ := Int.eq_ofNat_of_zero_le v0
  have hi : i < xs.length := by omega
  refine ⟨xs[i], st', ?_, List.getElem_mem hi, u, l⟩
  have ha : L2.atI xs (i : Int) = some xs[i] := by rw [atI_nat, List.getElem?_eq_getElem hi]
  rw [sm__law_some, callD_eq xm 2 0 _ [.ref r, .lst xs] _ rfl, b__law_some]
  simp -implicitDefEqProofs only [exs_nil, exs_cons, ex_pass, ex_brk, ex_cnt, ex_doc, ex_expr, ex_ret, ex_retN, ex_asg, ex_par, ex_setI, ex_aug, ex_ite, ex_whl, ex_for, ex_raise, ex_try,
    ev_con, ev_glob, ev_var, ev_bin, ev_un, ev_cmp, ev_chain, ev_and, ev_or, ev_not, ev_ife, ev_tup, ev_lst, ev_sub, ev_slice, ev_rev, ev_dct0, ev_call, ev_blt, ev_isi, ev_mth, ev_comp, ev_fz, evs_nil, evs_cons, evi_val, evi_range, evo_no, evo_var, evo_con, evo_bin, evo_un, evoK_int, slice_lst, slice_tup, compG_nm, compG_tp, compO_some, compB, noR_ok, wipe_nil, wipe_cons, evt_eq,
    bnd_ok, bnd_raise, andS_ok, andS_raise, seq_nx, seq_ret, seq_raise, seq_brk, seq_cnt, ofO_some, nxO_some, nxS_some, try_raise, try_ret, try_nx, asgT_nm, asgT_tp, setAll_nil, setAll_cons,
    tru_bl, tru_int, tru_non, tru_lst, tru_tup, add_int, sub_int, mul_int, fdiv_int, mod_int, neg_int, lt_int, le_int, gt_int, ge_int, eq_int, ne_int, eq_str, ne_str, is_bl, isnot_bl, abs_int, int_int, int_bl, bool_bl, max_int, min_int, gcd_int, len_lst, len_tup, tuple_lst, sub_lst, sub_tup, items_lst, items_tup, add_lst, add_tup, add_str, rev_lst, newLst_f, newLst_t, end_nx,
    List.map_cons, List.map_nil, List.length_cons, List.length_nil, List.replicate_succ, List.replicate_zero, List.cons_append, List.nil_append, List.append_nil, List.getElem?_cons_zero, List.getElem?_cons_succ, List.set_cons_zero, List.set_cons_succ, List.reverse_cons, List.reverse_nil, Option.map_some, Option.map_none,
    if_true, if_false, Bool.false_eq_true, Bool.not_true, Bool.not_false, decide_true, decide_false, Bool.and_true, Bool.true_and, Bool.false_and, Bool.and_false, Bool.or_true, Bool.true_or, Bool.or_false, Bool.false_or, Nat.zero_add, Nat.reduceAdd, reduceCtorEq, reduceIte, e, ha, Int.ofNat_eq_natCast]
  rw [end_ret (hn _ (List.getElem_mem hi)), closeSt_len l]
end L01
set_option Elab.async false
set_option linter.all false
set_option maxRecDepth 100000
set_option maxHeartbeats 1000000
namespace L01
open Ip
open PySem (Str)
theorem p10_40 (st : Store) : binD .pow st (.int 10) (.int 40) = some (.int (10 ^ 40)) := pow_at (by decide) (by decide) st
theorem p10_50 (st : Store) : binD .pow st (.int 10) (.int 50) = some (.int (10 ^ 50)) := pow_at (by decide) (by decide) st
theorem p10_650 (st : Store) : binD .pow st (.int (10 ^ 50)) (.int 13) = some (.int ((10 ^ 50) ^ 13)) := pow_at (by decide) (by decide) st
theorem p10_18 (st : Store) : binD .pow st (.int 10) (.int 18) = some (.int (10 ^ 18)) := pow_at (by decide) (by decide) st
theorem p10_6 (st : Store) : binD .pow st (.int 10) (.int 6) = some (.int (10 ^ 6)) := pow_at (by decide) (by decide) st
theorem p10_20 (st : Store) : binD .pow st (.int 10) (.int 20) = some (.int (10 ^ 20)) := pow_at (by decide) (by decide) st
theorem p10_59 (st : Store) : binD .pow st (.int 10) (.int 59) = some (.int (10 ^ 59)) := pow_at (by decide) (by decide) st
theorem p10_60 (st : Store) : binD .pow st (.int 10) (.int 60) = some (.int (10 ^ 60)) := pow_at (by decide) (by decide) st
theorem turn_urn {m n a : Int} {L : D} (h0 : 0 ≤ m) (h1 : m < M61) (st : Store) : ∃ m' : Int, 0 ≤ m' ∧ m' < M61 ∧
    execs xm l1__law_urn [some L, some (.int a), some (.int m), some (.int n), none] st = .nx [some L, some (.int a), some (.int m'), some (.int n), none] st := by
  have hn : (0 : Int) ≤ (n.natAbs : Int).fmod (10 ^ 40) ∧ (n.natAbs : Int).fmod (10 ^ 40) < 10 ^ 40 := fmod_nonneg (by decide)
  have e40 : (10 : Int) ^ 40 = 10000000000000000000000000000000000000000 := by decide
  have p61 : (2 : Nat) ^ 61 = 2305843009213693952 := by decide
  have p150 : (2 : Nat) ^ 150 = 1427247692705959881058285969449495136382746624 := by decide
  have m1 : mulOk m 6700417 = true := mul_ok 61 61 (by unfold M61 at h1; omega) (by omega) (by decide) (by decide) (by decide)
  have m2 : mulOk ((n.natAbs : Int).fmod (10 ^ 40)) 5 = true := mul_ok 150 61 (by rw [e40] at hn ⊢; omega) (by omega) (by decide) (by decide) (by decide)
  have m3 : mulOk (if decide (0 < n) = true then (1 : Int) else 0) 3 = true := by split <;> decide
  have n1 : (10 : Int) ^ 40 ≠ 0 := by decide
  have n2 : (2305843009213693951 : Int) ≠ 0 := by decide
  refine ⟨(m * 6700417 + (n.natAbs : Int).fmod (10 ^ 40) * 5 + (if decide (0 < n) = true then (1 : Int) else 0) * 3).fmod 2305843009213693951, (fmod_nonneg (by decide)).1, (fmod_nonneg (by decide)).2, ?_⟩
  rw [l1__law_urn]
  simp -implicitDefEqProofs only [exs_nil, exs_cons, ex_pass, ex_brk, ex_cnt, ex_doc, ex_expr, ex_ret, ex_retN, ex_asg, ex_par, ex_setI, ex_aug, ex_ite, ex_whl, ex_for, ex_raise, ex_try,
    ev_con, ev_glob, ev_var, ev_bin, ev_un, ev_cmp, ev_chain, ev_and, ev_or, ev_not, ev_ife, ev_tup, ev_lst, ev_sub, ev_slice, ev_rev, ev_dct0, ev_call, ev_blt, ev_isi, ev_mth, ev_comp, ev_fz, evs_nil, evs_cons, evi_val, evi_range, evo_no, evo_var, evo_con, evo_bin, evo_un, evoK_int, slice_lst, slice_tup, compG_nm, compG_tp, compO_some, compB, noR_ok, wipe_nil, wipe_cons, evt_eq,
    bnd_ok, bnd_raise, andS_ok, andS_raise, seq_nx, seq_ret, seq_raise, seq_brk, seq_cnt, ofO_some, nxO_some, nxS_some, try_raise, try_ret, try_nx, asgT_nm, asgT_tp, setAll_nil, setAll_cons,
    tru_bl, tru_int, tru_non, tru_lst, tru_tup, add_int, sub_int, mul_int, fdiv_int, mod_int, neg_int, lt_int, le_int, gt_int, ge_int, eq_int, ne_int, eq_str, ne_str, is_bl, isnot_bl, abs_int, int_int, int_bl, bool_bl, max_int, min_int, gcd_int, len_lst, len_tup, tuple_lst, sub_lst, sub_tup, items_lst, items_tup, add_lst, add_tup, add_str, rev_lst, newLst_f, newLst_t, end_nx,
    List.map_cons, List.map_nil, List.length_cons, List.length_nil, List.replicate_succ, List.replicate_zero, List.cons_append, List.nil_append, List.append_nil, List.getElem?_cons_zero, List.getElem?_cons_succ, List.set_cons_zero, List.set_cons_succ, List.reverse_cons, List.reverse_nil, Option.map_some, Option.map_none,
    if_true, if_false, Bool.false_eq_true, Bool.not_true, Bool.not_false, decide_true, decide_false, Bool.and_true, Bool.true_and, Bool.false_and, Bool.and_false, Bool.or_true, Bool.true_or, Bool.or_false, Bool.false_or, Nat.zero_add, Nat.reduceAdd, reduceCtorEq, reduceIte, m1, m2, m3, n1, n2, p10_40, ne_eq, not_false_eq_true]
theorem urn_at (ns : List Int) (hns : ns.length ≤ 63) (at_ : Nat) (ha : at_ ≤ 1000) {st : Store} (hc : Calm st) : ∃ st', sm__law_urn [.lst (ns.map D.int), .int (at_ : Int)] st = .ok (.ref st.length) st' ∧ Urn 0 st.length st' ∧ st'.length = st.length + 1 := by
  have n3 : ((10 : Int) ^ 50) ^ 13 ≠ 0 := by decide
  have m0 : mulOk 433494437 (at_ : Int) = true := mul_ok 61 61 (by omega) (by omega) (by decide) (by decide) (by decide)
  have hl : (cutD (ns.map D.int) (some (at_ : Int)) none).length ≤ 63 := by
    unfold cutD
    simp only [List.length_take, List.length_drop, List.length_map]
    omega
  obtain ⟨σ', st', e, m, x, rfl, rfl, hm0, hm1⟩ := forL_inv (t := .nm 3) (b := execs xm l1__law_urn) (I := fun _ σ st' => ∃ (m : Int) (x : Option D), σ = [some (.lst (ns.map D.int)), some (.int (at_ : Int)), some (.int m), x, none] ∧ st' = st ∧ 0 ≤ m ∧ m < M61) (cutD (ns.map D.int) (some (at_ : Int)) none)
    (by
      rintro i x σ st1 hx ⟨m, y, rfl, rfl, h0, h1⟩
      obtain ⟨n, _, rfl⟩ := List.mem_map.mp (mem_cut (List.mem_of_getElem? hx))
      obtain ⟨m', k0, k1, k2⟩ := turn_urn (n := n) (a := (at_ : Int)) (L := .lst (ns.map D.int)) h0 h1 st1
      exact ⟨_, rfl, .inl ⟨_, _, k2, m', some (.int n), rfl, rfl, k0, k1⟩⟩)
    [some (.lst (ns.map D.int)), some (.int (at_ : Int)), some (.int (433494437 * (at_ : Int) + 28657)), none, none] st ⟨_, none, rfl, rfl, by omega, by unfold M61; omega⟩
  have hrun : forRun (.nm 3) (execs xm l1__law_urn) (.seq (cutD (ns.map D.int) (some (at_ : Int)) none)) fuelD 0 [some (.lst (ns.map D.int)), some (.int (at_ : Int)), some (.int (433494437 * (at_ : Int) + 28657)), none, none] st' = .nx [some (.lst (ns.map D.int)), some (.int (at_ : Int)), some (.int m), x, none] st' := by
    rw [forRun_all _ _ _ _ _ (by unfold fuelD; omega)]
    exact e
  have fin : ∀ g : Int, Urn 0 st'.length (st' ++ [.lst [.int (max 0 (g - 10 ^ 18)), .int m, .int 0]]) := fun g =>
    ⟨hc.app rfl, max 0 (g - 10 ^ 18), m, 0, by simp, by omega, hm0, hm1, by omega, by omega⟩
  by_cases hat : at_ < ns.length
  · have hat' : (at_ : Int) < (ns.length : Int) := by omega
    have hsub : L2.atI (ns.map D.int) (at_ : Int) = some (.int ns[at_]) := by
      rw [atI_nat, List.getElem?_map, List.getElem?_eq_getElem hat]; rfl
    refine ⟨_, ?_, fin (((ns[at_]).natAbs : Int).fmod ((10 ^ 50) ^ 13)), by simp⟩
    rw [sm__law_urn, callD_eq xm 2 3 _ [.lst (ns.map D.int), .int (at_ : Int)] _ rfl, b__law_urn]
    simp -implicitDefEqProofs only [exs_nil, exs_cons, ex_pass, ex_brk, ex_cnt, ex_doc, ex_expr, ex_ret, ex_retN, ex_asg, ex_par, ex_setI, ex_aug, ex_ite, ex_whl, ex_for, ex_raise, ex_try,
    ev_con, ev_glob, ev_var, ev_bin, ev_un, ev_cmp, ev_chain, ev_and, ev_or, ev_not, ev_ife, ev_tup, ev_lst, ev_sub, ev_slice, ev_rev, ev_dct0, ev_call, ev_blt, ev_isi, ev_mth, ev_comp, ev_fz, evs_nil, evs_cons, evi_val, evi_range, evo_no, evo_var, evo_con, evo_bin, evo_un, evoK_int, slice_lst, slice_tup, compG_nm, compG_tp, compO_some, compB, noR_ok, wipe_nil, wipe_cons, evt_eq,
    bnd_ok, bnd_raise, andS_ok, andS_raise, seq_nx, seq_ret, seq_raise, seq_brk, seq_cnt, ofO_some, nxO_some, nxS_some, try_raise, try_ret, try_nx, asgT_nm, asgT_tp, setAll_nil, setAll_cons,
    tru_bl, tru_int, tru_non, tru_lst, tru_tup, add_int, sub_int, mul_int, fdiv_int, mod_int, neg_int, lt_int, le_int, gt_int, ge_int, eq_int, ne_int, eq_str, ne_str, is_bl, isnot_bl, abs_int, int_int, int_bl, bool_bl, max_int, min_int, gcd_int, len_lst, len_tup, tuple_lst, sub_lst, sub_tup, items_lst, items_tup, add_lst, add_tup, add_str, rev_lst, newLst_f, newLst_t, end_nx,
    List.map_cons, List.map_nil, List.length_cons, List.length_nil, List.replicate_succ, List.replicate_zero, List.cons_append, List.nil_append, List.append_nil, List.getElem?_cons_zero, List.getElem?_cons_succ, List.set_cons_zero, List.set_cons_succ, List.reverse_cons, List.reverse_nil, Option.map_some, Option.map_none,
    if_true, if_false, Bool.false_eq_true, Bool.not_true, Bool.not_false, decide_true, decide_false, Bool.and_true, Bool.true_and, Bool.false_and, Bool.and_false, Bool.or_true, Bool.true_or, Bool.or_false, Bool.false_or, Nat.zero_add, Nat.reduceAdd, reduceCtorEq, reduceIte, m0, hrun, hat', hsub, p10_50, p10_650, p10_18, n3, ne_eq, not_false_eq_true, List.length_map]
    have hz : szOk 3 = true := by decide
    simp -implicitDefEqProofs only [exs_nil, exs_cons, ex_pass, ex_brk, ex_cnt, ex_doc, ex_expr, ex_ret, ex_retN, ex_asg, ex_par, ex_setI, ex_aug, ex_ite, ex_whl, ex_for, ex_raise, ex_try,
    ev_con, ev_glob, ev_var, ev_bin, ev_un, ev_cmp, ev_chain, ev_and, ev_or, ev_not, ev_ife, ev_tup, ev_lst, ev_sub, ev_slice, ev_rev, ev_dct0, ev_call, ev_blt, ev_isi, ev_mth, ev_comp, ev_fz, evs_nil, evs_cons, evi_val, evi_range, evo_no, evo_var, evo_con, evo_bin, evo_un, evoK_int, slice_lst, slice_tup, compG_nm, compG_tp, compO_some, compB, noR_ok, wipe_nil, wipe_cons, evt_eq,
    bnd_ok, bnd_raise, andS_ok, andS_raise, seq_nx, seq_ret, seq_raise, seq_brk, seq_cnt, ofO_some, nxO_some, nxS_some, try_raise, try_ret, try_nx, asgT_nm, asgT_tp, setAll_nil, setAll_cons,
    tru_bl, tru_int, tru_non, tru_lst, tru_tup, add_int, sub_int, mul_int, fdiv_int, mod_int, neg_int, lt_int, le_int, gt_int, ge_int, eq_int, ne_int, eq_str, ne_str, is_bl, isnot_bl, abs_int, int_int, int_bl, bool_bl, max_int, min_int, gcd_int, len_lst, len_tup, tuple_lst, sub_lst, sub_tup, items_lst, items_tup, add_lst, add_tup, add_str, rev_lst, newLst_f, newLst_t, end_nx,
    List.map_cons, List.map_nil, List.length_cons, List.length_nil, List.replicate_succ, List.replicate_zero, List.cons_append, List.nil_append, List.append_nil, List.getElem?_cons_zero, List.getElem?_cons_succ, List.set_cons_zero, List.set_cons_succ, List.reverse_cons, List.reverse_nil, Option.map_some, Option.map_none,
    if_true, if_false, Bool.false_eq_true, Bool.not_true, Bool.not_false, decide_true, decide_false, Bool.and_true, Bool.true_and, Bool.false_and, Bool.and_false, Bool.or_true, Bool.true_or, Bool.or_false, Bool.false_or, Nat.zero_add, Nat.reduceAdd, reduceCtorEq, reduceIte, hz]
    rw [end_ref rfl]
  · have hat' : ¬ (at_ : Int) < (ns.length : Int) := by omega
    refine ⟨_, ?_, fin 0, by simp⟩
    rw [sm__law_urn, callD_eq xm 2 3 _ [.lst (ns.map D.int), .int (at_ : Int)] _ rfl, b__law_urn]
    have hz : szOk 3 = true := by decide
    simp -implicitDefEqProofs only [exs_nil, exs_cons, ex_pass, ex_brk, ex_cnt, ex_doc, ex_expr, ex_ret, ex_retN, ex_asg, ex_par, ex_setI, ex_aug, ex_ite, ex_whl, ex_for, ex_raise, ex_try,
    ev_con, ev_glob, ev_var, ev_bin, ev_un, ev_cmp, ev_chain, ev_and, ev_or, ev_not, ev_ife, ev_tup, ev_lst, ev_sub, ev_slice, ev_rev, ev_dct0, ev_call, ev_blt, ev_isi, ev_mth, ev_comp, ev_fz, evs_nil, evs_cons, evi_val, evi_range, evo_no, evo_var, evo_con, evo_bin, evo_un, evoK_int, slice_lst, slice_tup, compG_nm, compG_tp, compO_some, compB, noR_ok, wipe_nil, wipe_cons, evt_eq,
    bnd_ok, bnd_raise, andS_ok, andS_raise, seq_nx, seq_ret, seq_raise, seq_brk, seq_cnt, ofO_some, nxO_some, nxS_some, try_raise, try_ret, try_nx, asgT_nm, asgT_tp, setAll_nil, setAll_cons,
    tru_bl, tru_int, tru_non, tru_lst, tru_tup, add_int, sub_int, mul_int, fdiv_int, mod_int, neg_int, lt_int, le_int, gt_int, ge_int, eq_int, ne_int, eq_str, ne_str, is_bl, isnot_bl, abs_int, int_int, int_bl, bool_bl, max_int, min_int, gcd_int, len_lst, len_tup, tuple_lst, sub_lst, sub_tup, items_lst, items_tup, add_lst, add_tup, add_str, rev_lst, newLst_f, newLst_t, end_nx,
    List.map_cons, List.map_nil, List.length_cons, List.length_nil, List.replicate_succ, List.replicate_zero, List.cons_append, List.nil_append, List.append_nil, List.getElem?_cons_zero, List.getElem?_cons_succ, List.set_cons_zero, List.set_cons_succ, List.reverse_cons, List.reverse_nil, Option.map_some, Option.map_none,
    if_true, if_false, Bool.false_eq_true, Bool.not_true, Bool.not_false, decide_true, decide_false, Bool.and_true, Bool.true_and, Bool.false_and, Bool.and_false, Bool.or_true, Bool.true_or, Bool.or_false, Bool.false_or, Nat.zero_add, Nat.reduceAdd, reduceCtorEq, reduceIte, m0, hrun, hat', hz, p10_50, p10_650, p10_18, n3, ne_eq, not_false_eq_true, List.length_map]
    rw [end_ref rfl]
/-- a drawn integer -/
theorem long_at {k r : Nat} {st : Store} (h : Urn k r st) (hk : k + 2 < 2 ^ 60) :
    ∃ v st', sm__law_long [.ref r] st = .ok (.int v) st' ∧ -(10 ^ 59) ≤ v ∧ v < 10 ^ 59 ∧ Urn (k + 2) r st' ∧ st'.length = st.length := by
  obtain ⟨x, st1, e1, hx, u1, l1⟩ := some_at h (by omega) [.int 3, .int 10, .int 70, .int (10 ^ 6), .int (10 ^ 20), .int (10 ^ 59)] (by simp) (by decide) (by simp [noRef])
  obtain ⟨b, rfl, hb0, hb1⟩ : ∃ b : Int, x = .int b ∧ 0 < b ∧ b ≤ 10 ^ 59 := by
    simp only [List.mem_cons, List.mem_nil_iff, or_false] at hx
    rcases hx with rfl | rfl | rfl | rfl | rfl | rfl <;> exact ⟨_, rfl, by decide, by decide⟩
  have p59 : (10 : Int) ^ 59 = 100000000000000000000000000000000000000000000000000000000000 := by decide
  have p210 : (2 : Nat) ^ 210 = 1645504557321206042154969182557350504982735865633579863348609024 := by decide
  rw [p59] at hb1
  have hb2 : (2 * b).natAbs < 2 ^ 210 := by rw [p210]; omega
  obtain ⟨v, st2, e2, v0, v1, u2, l2⟩ := take_at u1 (by omega) (t := 2 * b) (by omega) (Nat.lt_of_lt_of_le hb2 (Nat.pow_le_pow_right (by decide) (by decide)))
  refine ⟨v - b, st2, ?_, by rw [p59]; omega, by rw [p59]; omega, u2, by omega⟩
  have m1 : mulOk 2 b = true := mul_ok 61 210 (by decide) (by rw [p210]; omega) (by decide) (by decide) (by decide)
  have hz : szOk 6 = true := by decide
  rw [sm__law_long, callD_eq xm 1 1 _ [.ref r] _ rfl, b__law_long]
  simp -implicitDefEqProofs only [exs_nil, exs_cons, ex_pass, ex_brk, ex_cnt, ex_doc, ex_expr, ex_ret, ex_retN, ex_asg, ex_par, ex_setI, ex_aug, ex_ite, ex_whl, ex_for, ex_raise, ex_try,
    ev_con, ev_glob, ev_var, ev_bin, ev_un, ev_cmp, ev_chain, ev_and, ev_or, ev_not, ev_ife, ev_tup, ev_lst, ev_sub, ev_slice, ev_rev, ev_dct0, ev_call, ev_blt, ev_isi, ev_mth, ev_comp, ev_fz, evs_nil, evs_cons, evi_val, evi_range, evo_no, evo_var, evo_con, evo_bin, evo_un, evoK_int, slice_lst, slice_tup, compG_nm, compG_tp, compO_some, compB, noR_ok, wipe_nil, wipe_cons, evt_eq,
    bnd_ok, bnd_raise, andS_ok, andS_raise, seq_nx, seq_ret, seq_raise, seq_brk, seq_cnt, ofO_some, nxO_some, nxS_some, try_raise, try_ret, try_nx, asgT_nm, asgT_tp, setAll_nil, setAll_cons,
    tru_bl, tru_int, tru_non, tru_lst, tru_tup, add_int, sub_int, mul_int, fdiv_int, mod_int, neg_int, lt_int, le_int, gt_int, ge_int, eq_int, ne_int, eq_str, ne_str, is_bl, isnot_bl, abs_int, int_int, int_bl, bool_bl, max_int, min_int, gcd_int, len_lst, len_tup, tuple_lst, sub_lst, sub_tup, items_lst, items_tup, add_lst, add_tup, add_str, rev_lst, newLst_f, newLst_t, end_nx,
    List.map_cons, List.map_nil, List.length_cons, List.length_nil, List.replicate_succ, List.replicate_zero, List.cons_append, List.nil_append, List.append_nil, List.getElem?_cons_zero, List.getElem?_cons_succ, List.set_cons_zero, List.set_cons_succ, List.reverse_cons, List.reverse_nil, Option.map_some, Option.map_none,
    if_true, if_false, Bool.false_eq_true, Bool.not_true, Bool.not_false, decide_true, decide_false, Bool.and_true, Bool.true_and, Bool.false_and, Bool.and_false, Bool.or_true, Bool.true_or, Bool.or_false, Bool.false_or, Nat.zero_add, Nat.reduceAdd, reduceCtorEq, reduceIte, e1, e2, m1, hz, p10_6, p10_20, p10_59]
  rw [end_ret rfl, closeSt_len (by omega)]
end L01
set_option Elab.async false
set_option linter.all false
set_option maxRecDepth 100000
set_option maxHeartbeats 1000000
set_option exponentiation.threshold 20000
namespace L01
open Ip
open PySem (Str)
theorem closeSt_me (st : Store) : closeSt st st = st := closeSt_self st
/-! ### the program's functions -/
theorem shown_int {n : Int} (h : n.natAbs < 2 ^ 1900) : Shown (.int n) where
  isi := by simp [isiD]
  dep := by simp [depthD]
  str := by
    have : bits n < 1920 := by
      unfold bits
      have := log2_le' h (by decide)
      omega
    simp [strD, reprD, this]
  pure := rfl
theorem pow200 : (big : Int).natAbs < 2 ^ 200 := by decide
theorem isInt_int {n : Int} (h0 : -big < n) (h1 : n < big) : isInt (.int n) = true := by simp [isInt, h0, h1]
theorem small_of {n : Int} (h0 : -big < n) (h1 : n < big) : n.natAbs < 2 ^ 200 := by
  have := pow200
  unfold big at *
  omega
theorem small_le {n : Int} {a b : Nat} (h : n.natAbs < 2 ^ a) (le : a ≤ b) : n.natAbs < 2 ^ b := Nat.lt_of_lt_of_le h (Nat.pow_le_pow_right (by decide) le)
theorem choose_at {n : Int} {k : Nat} (h0 : -big < n) (h1 : n < big) (hk : k ≤ 60) (st : Store) : sm_choose [.int n, .int (k : Int)] st = .ok (.int (bz k n)) st := by
  have e1 := integer_req (shown_int (small_le (small_of h0 h1) (by decide : 200 ≤ 1900))) st
  rw [isInt_int h0 h1] at e1
  have e2 := within_req (shown_int (n := (k : Int)) (small_le (a := 7) (b := 1900) (by omega) (by decide))) 0 60 st
  rw [show within (.int (k : Int)) 0 60 = true by simp [within]; omega] at e2
  rw [if_pos rfl] at e1 e2
  have e3 := chosen_at (small_le (small_of h0 h1) (by decide : 200 ≤ 300)) (by omega : k ≤ 100) st
  rw [sm_choose, callD_eq xm 2 0 _ [.int n, .int (k : Int)] _ rfl, b_choose, c_MOST_CHOSEN]
  simp -implicitDefEqProofs only [exs_nil, exs_cons, ex_pass, ex_brk, ex_cnt, ex_doc, ex_expr, ex_ret, ex_retN, ex_asg, ex_par, ex_setI, ex_aug, ex_ite, ex_whl, ex_for, ex_raise, ex_try,
    ev_con, ev_glob, ev_var, ev_bin, ev_un, ev_cmp, ev_chain, ev_and, ev_or, ev_not, ev_ife, ev_tup, ev_lst, ev_sub, ev_slice, ev_rev, ev_dct0, ev_call, ev_blt, ev_isi, ev_mth, ev_comp, ev_fz, evs_nil, evs_cons, evi_val, evi_range, evo_no, evo_var, evo_con, evo_bin, evo_un, evoK_int, slice_lst, slice_tup, compG_nm, compG_tp, compO_some, compB, noR_ok, wipe_nil, wipe_cons, evt_eq,
    bnd_ok, bnd_raise, andS_ok, andS_raise, seq_nx, seq_ret, seq_raise, seq_brk, seq_cnt, ofO_some, nxO_some, nxS_some, try_raise, try_ret, try_nx, asgT_nm, asgT_tp, setAll_nil, setAll_cons,
    tru_bl, tru_int, tru_non, tru_lst, tru_tup, add_int, sub_int, mul_int, fdiv_int, mod_int, neg_int, lt_int, le_int, gt_int, ge_int, eq_int, ne_int, eq_str, ne_str, is_bl, isnot_bl, abs_int, int_int, int_bl, bool_bl, max_int, min_int, gcd_int, len_lst, len_tup, tuple_lst, sub_lst, sub_tup, items_lst, items_tup, add_lst, add_tup, add_str, rev_lst, newLst_f, newLst_t, end_nx,
    List.map_cons, List.map_nil, List.length_cons, List.length_nil, List.replicate_succ, List.replicate_zero, List.cons_append, List.nil_append, List.append_nil, List.getElem?_cons_zero, List.getElem?_cons_succ, List.set_cons_zero, List.set_cons_succ, List.reverse_cons, List.reverse_nil, Option.map_some, Option.map_none,
    if_true, if_false, Bool.false_eq_true, Bool.not_true, Bool.not_false, decide_true, decide_false, Bool.and_true, Bool.true_and, Bool.false_and, Bool.and_false, Bool.or_true, Bool.true_or, Bool.or_false, Bool.false_or, Nat.zero_add, Nat.reduceAdd, reduceCtorEq, reduceIte, *]
  rw [end_ret rfl, closeSt_me]
theorem choose_bad1 {x y : D} (hx : Shown x) (h : isInt x = false) (st : Store) : sm_choose [x, y] st = .raise ⟨0, [x]⟩ st := by
  have e1 := integer_req hx st
  rw [h, if_neg (by decide)] at e1
  rw [sm_choose, callD_eq xm 2 0 _ [x, y] _ rfl, b_choose]
  simp -implicitDefEqProofs only [exs_nil, exs_cons, ex_pass, ex_brk, ex_cnt, ex_doc, ex_expr, ex_ret, ex_retN, ex_asg, ex_par, ex_setI, ex_aug, ex_ite, ex_whl, ex_for, ex_raise, ex_try,
    ev_con, ev_glob, ev_var, ev_bin, ev_un, ev_cmp, ev_chain, ev_and, ev_or, ev_not, ev_ife, ev_tup, ev_lst, ev_sub, ev_slice, ev_rev, ev_dct0, ev_call, ev_blt, ev_isi, ev_mth, ev_comp, ev_fz, evs_nil, evs_cons, evi_val, evi_range, evo_no, evo_var, evo_con, evo_bin, evo_un, evoK_int, slice_lst, slice_tup, compG_nm, compG_tp, compO_some, compB, noR_ok, wipe_nil, wipe_cons, evt_eq,
    bnd_ok, bnd_raise, andS_ok, andS_raise, seq_nx, seq_ret, seq_raise, seq_brk, seq_cnt, ofO_some, nxO_some, nxS_some, try_raise, try_ret, try_nx, asgT_nm, asgT_tp, setAll_nil, setAll_cons,
    tru_bl, tru_int, tru_non, tru_lst, tru_tup, add_int, sub_int, mul_int, fdiv_int, mod_int, neg_int, lt_int, le_int, gt_int, ge_int, eq_int, ne_int, eq_str, ne_str, is_bl, isnot_bl, abs_int, int_int, int_bl, bool_bl, max_int, min_int, gcd_int, len_lst, len_tup, tuple_lst, sub_lst, sub_tup, items_lst, items_tup, add_lst, add_tup, add_str, rev_lst, newLst_f, newLst_t, end_nx,
    List.map_cons, List.map_nil, List.length_cons, List.length_nil, List.replicate_succ, List.replicate_zero, List.cons_append, List.nil_append, List.append_nil, List.getElem?_cons_zero, List.getElem?_cons_succ, List.set_cons_zero, List.set_cons_succ, List.reverse_cons, List.reverse_nil, Option.map_some, Option.map_none,
    if_true, if_false, Bool.false_eq_true, Bool.not_true, Bool.not_false, decide_true, decide_false, Bool.and_true, Bool.true_and, Bool.false_and, Bool.and_false, Bool.or_true, Bool.true_or, Bool.or_false, Bool.false_or, Nat.zero_add, Nat.reduceAdd, reduceCtorEq, reduceIte, e1]
  rw [end_raise (by simp [noRefs, hx.pure]), closeSt_me]
theorem choose_bad2 {x y : D} (hx : Shown x) (h : isInt x = true) (hy : Shown y) (h2 : within y 0 60 = false) (st : Store) : sm_choose [x, y] st = .raise ⟨0, [y]⟩ st := by
  have e1 := integer_req hx st
  rw [h, if_pos rfl] at e1
  have e2 := within_req hy 0 60 st
  rw [h2, if_neg (by decide)] at e2
  rw [sm_choose, callD_eq xm 2 0 _ [x, y] _ rfl, b_choose, c_MOST_CHOSEN]
  simp -implicitDefEqProofs only [exs_nil, exs_cons, ex_pass, ex_brk, ex_cnt, ex_doc, ex_expr, ex_ret, ex_retN, ex_asg, ex_par, ex_setI, ex_aug, ex_ite, ex_whl, ex_for, ex_raise, ex_try,
    ev_con, ev_glob, ev_var, ev_bin, ev_un, ev_cmp, ev_chain, ev_and, ev_or, ev_not, ev_ife, ev_tup, ev_lst, ev_sub, ev_slice, ev_rev, ev_dct0, ev_call, ev_blt, ev_isi, ev_mth, ev_comp, ev_fz, evs_nil, evs_cons, evi_val, evi_range, evo_no, evo_var, evo_con, evo_bin, evo_un, evoK_int, slice_lst, slice_tup, compG_nm, compG_tp, compO_some, compB, noR_ok, wipe_nil, wipe_cons, evt_eq,
    bnd_ok, bnd_raise, andS_ok, andS_raise, seq_nx, seq_ret, seq_raise, seq_brk, seq_cnt, ofO_some, nxO_some, nxS_some, try_raise, try_ret, try_nx, asgT_nm, asgT_tp, setAll_nil, setAll_cons,
    tru_bl, tru_int, tru_non, tru_lst, tru_tup, add_int, sub_int, mul_int, fdiv_int, mod_int, neg_int, lt_int, le_int, gt_int, ge_int, eq_int, ne_int, eq_str, ne_str, is_bl, isnot_bl, abs_int, int_int, int_bl, bool_bl, max_int, min_int, gcd_int, len_lst, len_tup, tuple_lst, sub_lst, sub_tup, items_lst, items_tup, add_lst, add_tup, add_str, rev_lst, newLst_f, newLst_t, end_nx,
    List.map_cons, List.map_nil, List.length_cons, List.length_nil, List.replicate_succ, List.replicate_zero, List.cons_append, List.nil_append, List.append_nil, List.getElem?_cons_zero, List.getElem?_cons_succ, List.set_cons_zero, List.set_cons_succ, List.reverse_cons, List.reverse_nil, Option.map_some, Option.map_none,
    if_true, if_false, Bool.false_eq_true, Bool.not_true, Bool.not_false, decide_true, decide_false, Bool.and_true, Bool.true_and, Bool.false_and, Bool.and_false, Bool.or_true, Bool.true_or, Bool.or_false, Bool.false_or, Nat.zero_add, Nat.reduceAdd, reduceCtorEq, reduceIte, e1, e2]
  rw [end_raise (by simp [noRefs, hy.pure]), closeSt_me]
theorem gcd_at {a b : Int} (h0 : -big < a) (h1 : a < big) (h2 : -big < b) (h3 : b < big) (st : Store) : sm_common_divisor [.int a, .int b] st = .ok (.int (Nat.gcd a.natAbs b.natAbs : Nat)) st := by
  have e1 := integer_req (shown_int (small_le (small_of h0 h1) (by decide : 200 ≤ 1900))) st
  rw [isInt_int h0 h1, if_pos rfl] at e1
  have e2 := integer_req (shown_int (small_le (small_of h2 h3) (by decide : 200 ≤ 1900))) st
  rw [isInt_int h2 h3, if_pos rfl] at e2
  rw [sm_common_divisor, callD_eq xm 2 0 _ [.int a, .int b] _ rfl, b_common_divisor]
  simp -implicitDefEqProofs only [exs_nil, exs_cons, ex_pass, ex_brk, ex_cnt, ex_doc, ex_expr, ex_ret, ex_retN, ex_asg, ex_par, ex_setI, ex_aug, ex_ite, ex_whl, ex_for, ex_raise, ex_try,
    ev_con, ev_glob, ev_var, ev_bin, ev_un, ev_cmp, ev_chain, ev_and, ev_or, ev_not, ev_ife, ev_tup, ev_lst, ev_sub, ev_slice, ev_rev, ev_dct0, ev_call, ev_blt, ev_isi, ev_mth, ev_comp, ev_fz, evs_nil, evs_cons, evi_val, evi_range, evo_no, evo_var, evo_con, evo_bin, evo_un, evoK_int, slice_lst, slice_tup, compG_nm, compG_tp, compO_some, compB, noR_ok, wipe_nil, wipe_cons, evt_eq,
    bnd_ok, bnd_raise, andS_ok, andS_raise, seq_nx, seq_ret, seq_raise, seq_brk, seq_cnt, ofO_some, nxO_some, nxS_some, try_raise, try_ret, try_nx, asgT_nm, asgT_tp, setAll_nil, setAll_cons,
    tru_bl, tru_int, tru_non, tru_lst, tru_tup, add_int, sub_int, mul_int, fdiv_int, mod_int, neg_int, lt_int, le_int, gt_int, ge_int, eq_int, ne_int, eq_str, ne_str, is_bl, isnot_bl, abs_int, int_int, int_bl, bool_bl, max_int, min_int, gcd_int, len_lst, len_tup, tuple_lst, sub_lst, sub_tup, items_lst, items_tup, add_lst, add_tup, add_str, rev_lst, newLst_f, newLst_t, end_nx,
    List.map_cons, List.map_nil, List.length_cons, List.length_nil, List.replicate_succ, List.replicate_zero, List.cons_append, List.nil_append, List.append_nil, List.getElem?_cons_zero, List.getElem?_cons_succ, List.set_cons_zero, List.set_cons_succ, List.reverse_cons, List.reverse_nil, Option.map_some, Option.map_none,
    if_true, if_false, Bool.false_eq_true, Bool.not_true, Bool.not_false, decide_true, decide_false, Bool.and_true, Bool.true_and, Bool.false_and, Bool.and_false, Bool.or_true, Bool.true_or, Bool.or_false, Bool.false_or, Nat.zero_add, Nat.reduceAdd, reduceCtorEq, reduceIte, e1, e2]
  rw [end_ret rfl, closeSt_me]
theorem gcd_bad1 {x y : D} (hx : Shown x) (h : isInt x = false) (st : Store) : sm_common_divisor [x, y] st = .raise ⟨0, [x]⟩ st := by
  have e1 := integer_req hx st
  rw [h, if_neg (by decide)] at e1
  rw [sm_common_divisor, callD_eq xm 2 0 _ [x, y] _ rfl, b_common_divisor]
  simp -implicitDefEqProofs only [exs_nil, exs_cons, ex_pass, ex_brk, ex_cnt, ex_doc, ex_expr, ex_ret, ex_retN, ex_asg, ex_par, ex_setI, ex_aug, ex_ite, ex_whl, ex_for, ex_raise, ex_try,
    ev_con, ev_glob, ev_var, ev_bin, ev_un, ev_cmp, ev_chain, ev_and, ev_or, ev_not, ev_ife, ev_tup, ev_lst, ev_sub, ev_slice, ev_rev, ev_dct0, ev_call, ev_blt, ev_isi, ev_mth, ev_comp, ev_fz, evs_nil, evs_cons, evi_val, evi_range, evo_no, evo_var, evo_con, evo_bin, evo_un, evoK_int, slice_lst, slice_tup, compG_nm, compG_tp, compO_some, compB, noR_ok, wipe_nil, wipe_cons, evt_eq,
    bnd_ok, bnd_raise, andS_ok, andS_raise, seq_nx, seq_ret, seq_raise, seq_brk, seq_cnt, ofO_some, nxO_some, nxS_some, try_raise, try_ret, try_nx, asgT_nm, asgT_tp, setAll_nil, setAll_cons,
    tru_bl, tru_int, tru_non, tru_lst, tru_tup, add_int, sub_int, mul_int, fdiv_int, mod_int, neg_int, lt_int, le_int, gt_int, ge_int, eq_int, ne_int, eq_str, ne_str, is_bl, isnot_bl, abs_int, int_int, int_bl, bool_bl, max_int, min_int, gcd_int, len_lst, len_tup, tuple_lst, sub_lst, sub_tup, items_lst, items_tup, add_lst, add_tup, add_str, rev_lst, newLst_f, newLst_t, end_nx,
    List.map_cons, List.map_nil, List.length_cons, List.length_nil, List.replicate_succ, List.replicate_zero, List.cons_append, List.nil_append, List.append_nil, List.getElem?_cons_zero, List.getElem?_cons_succ, List.set_cons_zero, List.set_cons_succ, List.reverse_cons, List.reverse_nil, Option.map_some, Option.map_none,
    if_true, if_false, Bool.false_eq_true, Bool.not_true, Bool.not_false, decide_true, decide_false, Bool.and_true, Bool.true_and, Bool.false_and, Bool.and_false, Bool.or_true, Bool.true_or, Bool.or_false, Bool.false_or, Nat.zero_add, Nat.reduceAdd, reduceCtorEq, reduceIte, e1]
  rw [end_raise (by simp [noRefs, hx.pure]), closeSt_me]
theorem gcd_bad2 {x y : D} (hx : Shown x) (h : isInt x = true) (hy : Shown y) (h2 : isInt y = false) (st : Store) : sm_common_divisor [x, y] st = .raise ⟨0, [y]⟩ st := by
  have e1 := integer_req hx st
  rw [h, if_pos rfl] at e1
  have e2 := integer_req hy st
  rw [h2, if_neg (by decide)] at e2
  rw [sm_common_divisor, callD_eq xm 2 0 _ [x, y] _ rfl, b_common_divisor]
  simp -implicitDefEqProofs only [exs_nil, exs_cons, ex_pass, ex_brk, ex_cnt, ex_doc, ex_expr, ex_ret, ex_retN, ex_asg, ex_par, ex_setI, ex_aug, ex_ite, ex_whl, ex_for, ex_raise, ex_try,
    ev_con, ev_glob, ev_var, ev_bin, ev_un, ev_cmp, ev_chain, ev_and, ev_or, ev_not, ev_ife, ev_tup, ev_lst, ev_sub, ev_slice, ev_rev, ev_dct0, ev_call, ev_blt, ev_isi, ev_mth, ev_comp, ev_fz, evs_nil, evs_cons, evi_val, evi_range, evo_no, evo_var, evo_con, evo_bin, evo_un, evoK_int, slice_lst, slice_tup, compG_nm, compG_tp, compO_some, compB, noR_ok, wipe_nil, wipe_cons, evt_eq,
    bnd_ok, bnd_raise, andS_ok, andS_raise, seq_nx, seq_ret, seq_raise, seq_brk, seq_cnt, ofO_some, nxO_some, nxS_some, try_raise, try_ret, try_nx, asgT_nm, asgT_tp, setAll_nil, setAll_cons,
    tru_bl, tru_int, tru_non, tru_lst, tru_tup, add_int, sub_int, mul_int, fdiv_int, mod_int, neg_int, lt_int, le_int, gt_int, ge_int, eq_int, ne_int, eq_str, ne_str, is_bl, isnot_bl, abs_int, int_int, int_bl, bool_bl, max_int, min_int, gcd_int, len_lst, len_tup, tuple_lst, sub_lst, sub_tup, items_lst, items_tup, add_lst, add_tup, add_str, rev_lst, newLst_f, newLst_t, end_nx,
    List.map_cons, List.map_nil, List.length_cons, List.length_nil, List.replicate_succ, List.replicate_zero, List.cons_append, List.nil_append, List.append_nil, List.getElem?_cons_zero, List.getElem?_cons_succ, List.set_cons_zero, List.set_cons_succ, List.reverse_cons, List.reverse_nil, Option.map_some, Option.map_none,
    if_true, if_false, Bool.false_eq_true, Bool.not_true, Bool.not_false, decide_true, decide_false, Bool.and_true, Bool.true_and, Bool.false_and, Bool.and_false, Bool.or_true, Bool.true_or, Bool.or_false, Bool.false_or, Nat.zero_add, Nat.reduceAdd, reduceCtorEq, reduceIte, e1, e2]
  rw [end_raise (by simp [noRefs, hy.pure]), closeSt_me]
/-! ### the law's binomials -/
theorem fact_size : ∀ k : Nat, (fact k).natAbs ≤ k ^ k
  | 0 => by simp [fact]
  | k + 1 => by
    rw [fact, Int.natAbs_mul, Nat.pow_succ]
    refine Nat.mul_le_mul (Nat.le_trans (fact_size k) (Nat.pow_le_pow_left (by omega) k)) (by omega)
theorem fact_bits {k : Nat} (hk : k ≤ 64) : (fact k).natAbs < 2 ^ 400 := by
  refine Nat.lt_of_le_of_lt (fact_size k) (Nat.lt_of_le_of_lt (Nat.pow_le_pow_left hk k) ?_)
  rw [show (64 : Nat) = 2 ^ 6 by decide, ← Nat.pow_mul]
  exact Nat.pow_lt_pow_right (by decide) (by omega)
theorem ff_bits {n : Int} {k : Nat} (hn : n.natAbs < 2 ^ 200) (hk : k ≤ 64) : (ff n k).natAbs < 2 ^ 20000 := by
  refine Nat.lt_of_le_of_lt (ff_size n k) ?_
  have h1 : n.natAbs + k ≤ 2 ^ 201 := by
    have : (64 : Nat) ≤ 2 ^ 200 := by decide
    have e : (2 : Nat) ^ 201 = 2 ^ 200 + 2 ^ 200 := by decide
    omega
  refine Nat.lt_of_le_of_lt (Nat.pow_le_pow_left h1 k) ?_
  rw [← Nat.pow_mul]
  exact Nat.pow_lt_pow_right (by omega) (by omega)
theorem turn_binomial {n : Int} {k i : Nat} (hn : n.natAbs < 2 ^ 200) (hk : k ≤ 60) (h : i < k) (st : Store) :
    execs xm l1__law_binomial [some (.int n), some (.int (k : Int)), some (.int (ff n i)), some (.int (fact i)), some (.int (0 + (i : Int)))] st
      = .nx [some (.int n), some (.int (k : Int)), some (.int (ff n (i + 1))), some (.int (fact (i + 1))), some (.int (0 + (i : Int)))] st := by
  have m1 : mulOk (ff n i) (n - (0 + (i : Int))) = true := mul_ok 20000 202 (ff_bits hn (by omega)) (by
    have e1 : (2 : Nat) ^ 202 = 4 * 2 ^ 200 := by decide
    have e2 : (100 : Nat) ≤ 2 ^ 200 := by decide
    rw [e1]; omega) (by decide) (by decide) (by decide)
  have m2 : mulOk (fact i) (0 + (i : Int) + 1) = true := mul_ok 400 7 (fact_bits (by omega)) (by omega) (by decide) (by decide) (by decide)
  rw [l1__law_binomial]
  simp -implicitDefEqProofs only [exs_nil, exs_cons, ex_pass, ex_brk, ex_cnt, ex_doc, ex_expr, ex_ret, ex_retN, ex_asg, ex_par, ex_setI, ex_aug, ex_ite, ex_whl, ex_for, ex_raise, ex_try,
    ev_con, ev_glob, ev_var, ev_bin, ev_un, ev_cmp, ev_chain, ev_and, ev_or, ev_not, ev_ife, ev_tup, ev_lst, ev_sub, ev_slice, ev_rev, ev_dct0, ev_call, ev_blt, ev_isi, ev_mth, ev_comp, ev_fz, evs_nil, evs_cons, evi_val, evi_range, evo_no, evo_var, evo_con, evo_bin, evo_un, evoK_int, slice_lst, slice_tup, compG_nm, compG_tp, compO_some, compB, noR_ok, wipe_nil, wipe_cons, evt_eq,
    bnd_ok, bnd_raise, andS_ok, andS_raise, seq_nx, seq_ret, seq_raise, seq_brk, seq_cnt, ofO_some, nxO_some, nxS_some, try_raise, try_ret, try_nx, asgT_nm, asgT_tp, setAll_nil, setAll_cons,
    tru_bl, tru_int, tru_non, tru_lst, tru_tup, add_int, sub_int, mul_int, fdiv_int, mod_int, neg_int, lt_int, le_int, gt_int, ge_int, eq_int, ne_int, eq_str, ne_str, is_bl, isnot_bl, abs_int, int_int, int_bl, bool_bl, max_int, min_int, gcd_int, len_lst, len_tup, tuple_lst, sub_lst, sub_tup, items_lst, items_tup, add_lst, add_tup, add_str, rev_lst, newLst_f, newLst_t, end_nx,
    List.map_cons, List.map_nil, List.length_cons, List.length_nil, List.replicate_succ, List.replicate_zero, List.cons_append, List.nil_append, List.append_nil, List.getElem?_cons_zero, List.getElem?_cons_succ, List.set_cons_zero, List.set_cons_succ, List.reverse_cons, List.reverse_nil, Option.map_some, Option.map_none,
    if_true, if_false, Bool.false_eq_true, Bool.not_true, Bool.not_false, decide_true, decide_false, Bool.and_true, Bool.true_and, Bool.false_and, Bool.and_false, Bool.or_true, Bool.true_or, Bool.or_false, Bool.false_or, Nat.zero_add, Nat.reduceAdd, reduceCtorEq, reduceIte, m1, m2]
  simp only [ff, fact, Int.zero_add]
theorem over_at {q b : Int} (hb : 0 < b) (hb2 : b.natAbs < 2 ^ 400) (st : Store) : sm__law_over [.int (b * q), .int b] st = .ok (.int q) st := by
  have hd : divOk b = true := div_ok 400 (by omega) hb2 (by decide) (by decide)
  rw [sm__law_over, callD_eq xm 2 0 _ [.int (b * q), .int b] _ rfl, b__law_over]
  by_cases h : b * q < 0
  · have e : (0 - b * q).fdiv b = -q := by
      rw [show 0 - b * q = b * (-q) by grind]
      exact Int.mul_fdiv_cancel_left _ (by omega)
    simp -implicitDefEqProofs only [exs_nil, exs_cons, ex_pass, ex_brk, ex_cnt, ex_doc, ex_expr, ex_ret, ex_retN, ex_asg, ex_par, ex_setI, ex_aug, ex_ite, ex_whl, ex_for, ex_raise, ex_try,
    ev_con, ev_glob, ev_var, ev_bin, ev_un, ev_cmp, ev_chain, ev_and, ev_or, ev_not, ev_ife, ev_tup, ev_lst, ev_sub, ev_slice, ev_rev, ev_dct0, ev_call, ev_blt, ev_isi, ev_mth, ev_comp, ev_fz, evs_nil, evs_cons, evi_val, evi_range, evo_no, evo_var, evo_con, evo_bin, evo_un, evoK_int, slice_lst, slice_tup, compG_nm, compG_tp, compO_some, compB, noR_ok, wipe_nil, wipe_cons, evt_eq,
    bnd_ok, bnd_raise, andS_ok, andS_raise, seq_nx, seq_ret, seq_raise, seq_brk, seq_cnt, ofO_some, nxO_some, nxS_some, try_raise, try_ret, try_nx, asgT_nm, asgT_tp, setAll_nil, setAll_cons,
    tru_bl, tru_int, tru_non, tru_lst, tru_tup, add_int, sub_int, mul_int, fdiv_int, mod_int, neg_int, lt_int, le_int, gt_int, ge_int, eq_int, ne_int, eq_str, ne_str, is_bl, isnot_bl, abs_int, int_int, int_bl, bool_bl, max_int, min_int, gcd_int, len_lst, len_tup, tuple_lst, sub_lst, sub_tup, items_lst, items_tup, add_lst, add_tup, add_str, rev_lst, newLst_f, newLst_t, end_nx,
    List.map_cons, List.map_nil, List.length_cons, List.length_nil, List.replicate_succ, List.replicate_zero, List.cons_append, List.nil_append, List.append_nil, List.getElem?_cons_zero, List.getElem?_cons_succ, List.set_cons_zero, List.set_cons_succ, List.reverse_cons, List.reverse_nil, Option.map_some, Option.map_none,
    if_true, if_false, Bool.false_eq_true, Bool.not_true, Bool.not_false, decide_true, decide_false, Bool.and_true, Bool.true_and, Bool.false_and, Bool.and_false, Bool.or_true, Bool.true_or, Bool.or_false, Bool.false_or, Nat.zero_add, Nat.reduceAdd, reduceCtorEq, reduceIte, h, hd, e]
    rw [end_ret rfl, closeSt_me]
    congr 2; omega
  · have e : (b * q).fdiv b = q := Int.mul_fdiv_cancel_left _ (by omega)
    simp -implicitDefEqProofs only [exs_nil, exs_cons, ex_pass, ex_brk, ex_cnt, ex_doc, ex_expr, ex_ret, ex_retN, ex_asg, ex_par, ex_setI, ex_aug, ex_ite, ex_whl, ex_for, ex_raise, ex_try,
    ev_con, ev_glob, ev_var, ev_bin, ev_un, ev_cmp, ev_chain, ev_and, ev_or, ev_not, ev_ife, ev_tup, ev_lst, ev_sub, ev_slice, ev_rev, ev_dct0, ev_call, ev_blt, ev_isi, ev_mth, ev_comp, ev_fz, evs_nil, evs_cons, evi_val, evi_range, evo_no, evo_var, evo_con, evo_bin, evo_un, evoK_int, slice_lst, slice_tup, compG_nm, compG_tp, compO_some, compB, noR_ok, wipe_nil, wipe_cons, evt_eq,
    bnd_ok, bnd_raise, andS_ok, andS_raise, seq_nx, seq_ret, seq_raise, seq_brk, seq_cnt, ofO_some, nxO_some, nxS_some, try_raise, try_ret, try_nx, asgT_nm, asgT_tp, setAll_nil, setAll_cons,
    tru_bl, tru_int, tru_non, tru_lst, tru_tup, add_int, sub_int, mul_int, fdiv_int, mod_int, neg_int, lt_int, le_int, gt_int, ge_int, eq_int, ne_int, eq_str, ne_str, is_bl, isnot_bl, abs_int, int_int, int_bl, bool_bl, max_int, min_int, gcd_int, len_lst, len_tup, tuple_lst, sub_lst, sub_tup, items_lst, items_tup, add_lst, add_tup, add_str, rev_lst, newLst_f, newLst_t, end_nx,
    List.map_cons, List.map_nil, List.length_cons, List.length_nil, List.replicate_succ, List.replicate_zero, List.cons_append, List.nil_append, List.append_nil, List.getElem?_cons_zero, List.getElem?_cons_succ, List.set_cons_zero, List.set_cons_succ, List.reverse_cons, List.reverse_nil, Option.map_some, Option.map_none,
    if_true, if_false, Bool.false_eq_true, Bool.not_true, Bool.not_false, decide_true, decide_false, Bool.and_true, Bool.true_and, Bool.false_and, Bool.and_false, Bool.or_true, Bool.true_or, Bool.or_false, Bool.false_or, Nat.zero_add, Nat.reduceAdd, reduceCtorEq, reduceIte, h, hd, e]
    rw [end_ret rfl, closeSt_me]
theorem binomial_at {n : Int} {k : Nat} (h0 : -big < n) (h1 : n < big) (hk : k ≤ 60) (st : Store) : sm__law_binomial [.int n, .int (k : Int)] st = .ok (.int (bz k n)) st := by
  have hn := small_of h0 h1
  obtain ⟨σ', st', e, x, rfl, rfl⟩ := forL_inv (t := .nm 4) (b := execs xm l1__law_binomial) (I := fun i σ st' => ∃ (x : Option D), σ = [some (.int n), some (.int (k : Int)), some (.int (ff n i)), some (.int (fact i)), x] ∧ st' = st) ((List.range k).map fun (j : Nat) => D.int (0 + (j : Int)))
    (by
      rintro i x σ st1 hx ⟨y, rfl, rfl⟩
      rw [List.getElem?_map] at hx
      obtain ⟨j, hj, rfl⟩ := Option.map_eq_some_iff.mp hx
      obtain ⟨hi, rfl⟩ := List.getElem?_eq_some_iff.mp hj
      simp only [List.getElem_range, List.length_range] at hi ⊢
      refine ⟨_, rfl, .inl ⟨_, _, turn_binomial hn hk hi st1, some (.int (0 + (i : Int))), rfl, rfl⟩⟩)
    [some (.int n), some (.int (k : Int)), some (.int 1), some (.int 1), none] st ⟨none, rfl, rfl⟩
  have hr := range_k (k := k) (by omega)
  have hrun : forRun (.nm 4) (execs xm l1__law_binomial) (.seq ((List.range k).map fun (j : Nat) => D.int (0 + (j : Int)))) fuelD 0 [some (.int n), some (.int (k : Int)), some (.int 1), some (.int 1), none] st' = .nx [some (.int n), some (.int (k : Int)), some (.int (ff n k)), some (.int (fact k)), x] st' := by
    rw [forRun_all _ _ _ _ _ (by simp [fuelD]; omega)]
    simpa only [List.length_map, List.length_range] using e
  have ho := over_at (q := bz k n) (fact_pos k) (fact_bits (by omega)) st'
  rw [bz_ff] at ho
  have hz : szOk 2 = true := by decide
  rw [sm__law_binomial, callD_eq xm 2 3 _ [.int n, .int (k : Int)] _ rfl, b__law_binomial]
  simp -implicitDefEqProofs only [exs_nil, exs_cons, ex_pass, ex_brk, ex_cnt, ex_doc, ex_expr, ex_ret, ex_retN, ex_asg, ex_par, ex_setI, ex_aug, ex_ite, ex_whl, ex_for, ex_raise, ex_try,
    ev_con, ev_glob, ev_var, ev_bin, ev_un, ev_cmp, ev_chain, ev_and, ev_or, ev_not, ev_ife, ev_tup, ev_lst, ev_sub, ev_slice, ev_rev, ev_dct0, ev_call, ev_blt, ev_isi, ev_mth, ev_comp, ev_fz, evs_nil, evs_cons, evi_val, evi_range, evo_no, evo_var, evo_con, evo_bin, evo_un, evoK_int, slice_lst, slice_tup, compG_nm, compG_tp, compO_some, compB, noR_ok, wipe_nil, wipe_cons, evt_eq,
    bnd_ok, bnd_raise, andS_ok, andS_raise, seq_nx, seq_ret, seq_raise, seq_brk, seq_cnt, ofO_some, nxO_some, nxS_some, try_raise, try_ret, try_nx, asgT_nm, asgT_tp, setAll_nil, setAll_cons,
    tru_bl, tru_int, tru_non, tru_lst, tru_tup, add_int, sub_int, mul_int, fdiv_int, mod_int, neg_int, lt_int, le_int, gt_int, ge_int, eq_int, ne_int, eq_str, ne_str, is_bl, isnot_bl, abs_int, int_int, int_bl, bool_bl, max_int, min_int, gcd_int, len_lst, len_tup, tuple_lst, sub_lst, sub_tup, items_lst, items_tup, add_lst, add_tup, add_str, rev_lst, newLst_f, newLst_t, end_nx,
    List.map_cons, List.map_nil, List.length_cons, List.length_nil, List.replicate_succ, List.replicate_zero, List.cons_append, List.nil_append, List.append_nil, List.getElem?_cons_zero, List.getElem?_cons_succ, List.set_cons_zero, List.set_cons_succ, List.reverse_cons, List.reverse_nil, Option.map_some, Option.map_none,
    if_true, if_false, Bool.false_eq_true, Bool.not_true, Bool.not_false, decide_true, decide_false, Bool.and_true, Bool.true_and, Bool.false_and, Bool.and_false, Bool.or_true, Bool.true_or, Bool.or_false, Bool.false_or, Nat.zero_add, Nat.reduceAdd, reduceCtorEq, reduceIte, hr, hrun, ho, hz]
  rw [end_ret rfl, closeSt_me]
/-! ### the law's common divisors -/
def steps (x y : Nat) : Nat := if h : y = 0 then 0 else 1 + steps y (x % y)
termination_by y
decreasing_by exact Nat.mod_lt _ (by omega)
theorem steps_le : ∀ (n x y : Nat), y < 2 ^ n → steps x y ≤ 2 * n
  | 0, x, y, h => by
    rw [steps, dif_pos (by simpa using h)]; omega
  | n + 1, x, y, h => by
    rw [steps]
    split
    · omega
    · rename_i hy
      rw [steps]
      split
      · omega
      · rename_i hr
        have h1 : x % y < y := Nat.mod_lt _ (by omega)
        have h2 : y % (x % y) < x % y := Nat.mod_lt _ (by omega)
        have h3 : (x % y) * (y / (x % y)) + y % (x % y) = y := Nat.div_add_mod _ _
        have h4 : 1 ≤ y / (x % y) := Nat.div_pos (by omega) (by omega)
        have h5 : (x % y) * 1 ≤ (x % y) * (y / (x % y)) := Nat.mul_le_mul_left _ h4
        have := steps_le n (x % y) (y % (x % y)) (by rw [Nat.pow_succ] at h; omega)
        omega
theorem shared_at {a b : Int} (hb : b.natAbs < 2 ^ 300) (st : Store) : sm__law_shared [.int a, .int b] st = .ok (.int (Nat.gcd a.natAbs b.natAbs : Nat)) st := by
  obtain ⟨σ', st', e, rfl, rfl⟩ := whl_inv (c := evt w1__law_shared) (b := execs xm l1__law_shared)
    (fun σ st' => ∃ x y : Nat, σ = [some (.int (x : Int)), some (.int (y : Int))] ∧ Nat.gcd x y = Nat.gcd a.natAbs b.natAbs ∧ st' = st)
    (fun σ _ => match σ with
      | [some (.int x), some (.int y)] => steps x.natAbs y.natAbs
      | _ => 0)
    (fun σ st' => σ = [some (.int (Nat.gcd a.natAbs b.natAbs : Nat)), some (.int 0)] ∧ st' = st)
    (by
      rintro σ st1 ⟨x, y, rfl, hg, rfl⟩
      by_cases hy : y = 0
      · subst hy
        refine .inl ⟨st1, ?_, ?_, rfl⟩
        · rw [w1__law_shared]
          simp -implicitDefEqProofs only [exs_nil, exs_cons, ex_pass, ex_brk, ex_cnt, ex_doc, ex_expr, ex_ret, ex_retN, ex_asg, ex_par, ex_setI, ex_aug, ex_ite, ex_whl, ex_for, ex_raise, ex_try,
    ev_con, ev_glob, ev_var, ev_bin, ev_un, ev_cmp, ev_chain, ev_and, ev_or, ev_not, ev_ife, ev_tup, ev_lst, ev_sub, ev_slice, ev_rev, ev_dct0, ev_call, ev_blt, ev_isi, ev_mth, ev_comp, ev_fz, evs_nil, evs_cons, evi_val, evi_range, evo_no, evo_var, evo_con, evo_bin, evo_un, evoK_int, slice_lst, slice_tup, compG_nm, compG_tp, compO_some, compB, noR_ok, wipe_nil, wipe_cons, evt_eq,
    bnd_ok, bnd_raise, andS_ok, andS_raise, seq_nx, seq_ret, seq_raise, seq_brk, seq_cnt, ofO_some, nxO_some, nxS_some, try_raise, try_ret, try_nx, asgT_nm, asgT_tp, setAll_nil, setAll_cons,
    tru_bl, tru_int, tru_non, tru_lst, tru_tup, add_int, sub_int, mul_int, fdiv_int, mod_int, neg_int, lt_int, le_int, gt_int, ge_int, eq_int, ne_int, eq_str, ne_str, is_bl, isnot_bl, abs_int, int_int, int_bl, bool_bl, max_int, min_int, gcd_int, len_lst, len_tup, tuple_lst, sub_lst, sub_tup, items_lst, items_tup, add_lst, add_tup, add_str, rev_lst, newLst_f, newLst_t, end_nx,
    List.map_cons, List.map_nil, List.length_cons, List.length_nil, List.replicate_succ, List.replicate_zero, List.cons_append, List.nil_append, List.append_nil, List.getElem?_cons_zero, List.getElem?_cons_succ, List.set_cons_zero, List.set_cons_succ, List.reverse_cons, List.reverse_nil, Option.map_some, Option.map_none,
    if_true, if_false, Bool.false_eq_true, Bool.not_true, Bool.not_false, decide_true, decide_false, Bool.and_true, Bool.true_and, Bool.false_and, Bool.and_false, Bool.or_true, Bool.true_or, Bool.or_false, Bool.false_or, Nat.zero_add, Nat.reduceAdd, reduceCtorEq, reduceIte]
          rfl
        · rw [← hg]; simp
      · refine .inr ⟨st1, [some (.int (y : Int)), some (.int ((x % y : Nat) : Int))], st1, ?_, ?_, ⟨y, x % y, rfl, ?_, rfl⟩, ?_⟩
        · have : (0 : Int) < (y : Int) := by omega
          rw [w1__law_shared]
          simp -implicitDefEqProofs only [exs_nil, exs_cons, ex_pass, ex_brk, ex_cnt, ex_doc, ex_expr, ex_ret, ex_retN, ex_asg, ex_par, ex_setI, ex_aug, ex_ite, ex_whl, ex_for, ex_raise, ex_try,
    ev_con, ev_glob, ev_var, ev_bin, ev_un, ev_cmp, ev_chain, ev_and, ev_or, ev_not, ev_ife, ev_tup, ev_lst, ev_sub, ev_slice, ev_rev, ev_dct0, ev_call, ev_blt, ev_isi, ev_mth, ev_comp, ev_fz, evs_nil, evs_cons, evi_val, evi_range, evo_no, evo_var, evo_con, evo_bin, evo_un, evoK_int, slice_lst, slice_tup, compG_nm, compG_tp, compO_some, compB, noR_ok, wipe_nil, wipe_cons, evt_eq,
    bnd_ok, bnd_raise, andS_ok, andS_raise, seq_nx, seq_ret, seq_raise, seq_brk, seq_cnt, ofO_some, nxO_some, nxS_some, try_raise, try_ret, try_nx, asgT_nm, asgT_tp, setAll_nil, setAll_cons,
    tru_bl, tru_int, tru_non, tru_lst, tru_tup, add_int, sub_int, mul_int, fdiv_int, mod_int, neg_int, lt_int, le_int, gt_int, ge_int, eq_int, ne_int, eq_str, ne_str, is_bl, isnot_bl, abs_int, int_int, int_bl, bool_bl, max_int, min_int, gcd_int, len_lst, len_tup, tuple_lst, sub_lst, sub_tup, items_lst, items_tup, add_lst, add_tup, add_str, rev_lst, newLst_f, newLst_t, end_nx,
    List.map_cons, List.map_nil, List.length_cons, List.length_nil, List.replicate_succ, List.replicate_zero, List.cons_append, List.nil_append, List.append_nil, List.getElem?_cons_zero, List.getElem?_cons_succ, List.set_cons_zero, List.set_cons_succ, List.reverse_cons, List.reverse_nil, Option.map_some, Option.map_none,
    if_true, if_false, Bool.false_eq_true, Bool.not_true, Bool.not_false, decide_true, decide_false, Bool.and_true, Bool.true_and, Bool.false_and, Bool.and_false, Bool.or_true, Bool.true_or, Bool.or_false, Bool.false_or, Nat.zero_add, Nat.reduceAdd, reduceCtorEq, reduceIte, this]
        · have : (y : Int) ≠ 0 := by omega
          have e : ((x : Int)).fmod (y : Int) = ((x % y : Nat) : Int) := by
            rw [Int.fmod_eq_emod_of_nonneg _ (by omega)]; rfl
          rw [l1__law_shared]
          simp -implicitDefEqProofs only [exs_nil, exs_cons, ex_pass, ex_brk, ex_cnt, ex_doc, ex_expr, ex_ret, ex_retN, ex_asg, ex_par, ex_setI, ex_aug, ex_ite, ex_whl, ex_for, ex_raise, ex_try,
    ev_con, ev_glob, ev_var, ev_bin, ev_un, ev_cmp, ev_chain, ev_and, ev_or, ev_not, ev_ife, ev_tup, ev_lst, ev_sub, ev_slice, ev_rev, ev_dct0, ev_call, ev_blt, ev_isi, ev_mth, ev_comp, ev_fz, evs_nil, evs_cons, evi_val, evi_range, evo_no, evo_var, evo_con, evo_bin, evo_un, evoK_int, slice_lst, slice_tup, compG_nm, compG_tp, compO_some, compB, noR_ok, wipe_nil, wipe_cons, evt_eq,
    bnd_ok, bnd_raise, andS_ok, andS_raise, seq_nx, seq_ret, seq_raise, seq_brk, seq_cnt, ofO_some, nxO_some, nxS_some, try_raise, try_ret, try_nx, asgT_nm, asgT_tp, setAll_nil, setAll_cons,
    tru_bl, tru_int, tru_non, tru_lst, tru_tup, add_int, sub_int, mul_int, fdiv_int, mod_int, neg_int, lt_int, le_int, gt_int, ge_int, eq_int, ne_int, eq_str, ne_str, is_bl, isnot_bl, abs_int, int_int, int_bl, bool_bl, max_int, min_int, gcd_int, len_lst, len_tup, tuple_lst, sub_lst, sub_tup, items_lst, items_tup, add_lst, add_tup, add_str, rev_lst, newLst_f, newLst_t, end_nx,
    List.map_cons, List.map_nil, List.length_cons, List.length_nil, List.replicate_succ, List.replicate_zero, List.cons_append, List.nil_append, List.append_nil, List.getElem?_cons_zero, List.getElem?_cons_succ, List.set_cons_zero, List.set_cons_succ, List.reverse_cons, List.reverse_nil, Option.map_some, Option.map_none,
    if_true, if_false, Bool.false_eq_true, Bool.not_true, Bool.not_false, decide_true, decide_false, Bool.and_true, Bool.true_and, Bool.false_and, Bool.and_false, Bool.or_true, Bool.true_or, Bool.or_false, Bool.false_or, Nat.zero_add, Nat.reduceAdd, reduceCtorEq, reduceIte, this, e, ne_eq, not_false_eq_true]
        · rw [← hg, Nat.gcd_comm x y, Nat.gcd_rec y x, Nat.gcd_comm]
        · show steps y (x % y) < steps x y
          rw [steps.eq_1 x y, dif_neg hy]; omega)
    fuelD [some (.int (a.natAbs : Int)), some (.int (b.natAbs : Int))] st (by
      have := steps_le 300 a.natAbs b.natAbs hb
      show steps a.natAbs b.natAbs < fuelD
      unfold fuelD; omega) ⟨a.natAbs, b.natAbs, rfl, rfl, rfl⟩
  rw [sm__law_shared, callD_eq xm 2 0 _ [.int a, .int b] _ rfl, b__law_shared]
  simp -implicitDefEqProofs only [exs_nil, exs_cons, ex_pass, ex_brk, ex_cnt, ex_doc, ex_expr, ex_ret, ex_retN, ex_asg, ex_par, ex_setI, ex_aug, ex_ite, ex_whl, ex_for, ex_raise, ex_try,
    ev_con, ev_glob, ev_var, ev_bin, ev_un, ev_cmp, ev_chain, ev_and, ev_or, ev_not, ev_ife, ev_tup, ev_lst, ev_sub, ev_slice, ev_rev, ev_dct0, ev_call, ev_blt, ev_isi, ev_mth, ev_comp, ev_fz, evs_nil, evs_cons, evi_val, evi_range, evo_no, evo_var, evo_con, evo_bin, evo_un, evoK_int, slice_lst, slice_tup, compG_nm, compG_tp, compO_some, compB, noR_ok, wipe_nil, wipe_cons, evt_eq,
    bnd_ok, bnd_raise, andS_ok, andS_raise, seq_nx, seq_ret, seq_raise, seq_brk, seq_cnt, ofO_some, nxO_some, nxS_some, try_raise, try_ret, try_nx, asgT_nm, asgT_tp, setAll_nil, setAll_cons,
    tru_bl, tru_int, tru_non, tru_lst, tru_tup, add_int, sub_int, mul_int, fdiv_int, mod_int, neg_int, lt_int, le_int, gt_int, ge_int, eq_int, ne_int, eq_str, ne_str, is_bl, isnot_bl, abs_int, int_int, int_bl, bool_bl, max_int, min_int, gcd_int, len_lst, len_tup, tuple_lst, sub_lst, sub_tup, items_lst, items_tup, add_lst, add_tup, add_str, rev_lst, newLst_f, newLst_t, end_nx,
    List.map_cons, List.map_nil, List.length_cons, List.length_nil, List.replicate_succ, List.replicate_zero, List.cons_append, List.nil_append, List.append_nil, List.getElem?_cons_zero, List.getElem?_cons_succ, List.set_cons_zero, List.set_cons_succ, List.reverse_cons, List.reverse_nil, Option.map_some, Option.map_none,
    if_true, if_false, Bool.false_eq_true, Bool.not_true, Bool.not_false, decide_true, decide_false, Bool.and_true, Bool.true_and, Bool.false_and, Bool.and_false, Bool.or_true, Bool.true_or, Bool.or_false, Bool.false_or, Nat.zero_add, Nat.reduceAdd, reduceCtorEq, reduceIte, e]
  rw [end_ret rfl, closeSt_me]
end L01
set_option Elab.async false
set_option linter.all false
set_option maxRecDepth 100000
set_option maxHeartbeats 1000000
namespace L01
open Ip
open PySem (Str)
/-! ### divisors -/
def dl (xs : List Nat) : List D := xs.map fun n : Nat => D.int (n : Int)
theorem dl_app (xs ys : List Nat) : dl (xs ++ ys) = dl xs ++ dl ys := List.map_append
theorem dl_rev (xs : List Nat) : (dl xs).reverse = dl xs.reverse := by simp [dl]
theorem dl_len (xs : List Nat) : (dl xs).length = xs.length := by simp [dl]
theorem noRefs_dl : ∀ xs : List Nat, noRefs (dl xs) = true
  | [] => rfl
  | x :: xs => by
    show (noRef (.int (x : Int)) && noRefs (dl xs)) = true
    rw [noRefs_dl xs]; rfl
theorem noRef_dl (xs : List Nat) : noRef (.lst (dl xs)) = true := by rw [noRef]; exact noRefs_dl xs
def SS (N m : Nat) : List Nat := (List.range' 1 m).filter fun i => N % i == 0
def LL (N m : Nat) : List Nat := ((SS N m).filter fun i => decide (i * i < N)).map (N / ·)
theorem SS_len (N m : Nat) : (SS N m).length ≤ m := by
  unfold SS
  refine Nat.le_trans (List.length_filter_le _ _) (by simp)
theorem LL_len (N m : Nat) : (LL N m).length ≤ m := by
  unfold LL
  rw [List.length_map]
  exact Nat.le_trans (List.length_filter_le _ _) (SS_len N m)
theorem SS_step (N m : Nat) : SS N (m + 1) = SS N m ++ if N % (m + 1) = 0 then [m + 1] else [] := by
  unfold SS
  rw [List.range'_1_concat, List.filter_append]
  congr 1
  rw [Nat.add_comm 1 m]
  by_cases h : N % (m + 1) = 0 <;> simp [h]
theorem LL_step (N m : Nat) : LL N (m + 1) = LL N m ++ if N % (m + 1) = 0 ∧ (m + 1) * (m + 1) < N then [N / (m + 1)] else [] := by
  unfold LL
  rw [SS_step, List.filter_append, List.map_append]
  congr 1
  by_cases h : N % (m + 1) = 0
  · by_cases h2 : (m + 1) * (m + 1) < N <;> simp [h, h2]
  · simp [h]
theorem sq_le {m : Nat} (h : m * m ≤ 1000000) : m ≤ 1000 := by
  apply Nat.le_of_not_lt
  intro h2
  have : 1001 * 1001 ≤ m * m := Nat.mul_le_mul h2 h2
  omega
def stD (st : Store) (S L : List Nat) : Store := st ++ [.lst (dl S), .lst (dl L)]
def envD (N : Nat) (n d : Nat) : EnvD := [some (.int (N : Int)), some (.ref n), some (.ref (n + 1)), some (.int ((d : Nat) : Int))]
theorem turn_divisors {N m : Nat} (hN : N ≤ 1000000) (h : (m + 1) * (m + 1) ≤ N) (st : Store) :
    execs xm l1_divisors_of (envD N st.length (m + 1)) (stD st (SS N m) (LL N m)) = .nx (envD N st.length (m + 2)) (stD st (SS N (m + 1)) (LL N (m + 1))) := by
  have hm := sq_le (Nat.le_trans h hN)
  have c1 : ((N : Int)).fmod ((m + 1 : Nat) : Int) = ((N % (m + 1) : Nat) : Int) := by
    rw [Int.fmod_eq_emod_of_nonneg _ (by omega)]; rfl
  have c2 : ((N : Int)).fdiv ((m + 1 : Nat) : Int) = ((N / (m + 1) : Nat) : Int) := by
    rw [Int.fdiv_eq_ediv_of_nonneg _ (by omega)]; rfl
  have n0 : ((m + 1 : Nat) : Int) ≠ 0 := by omega
  have hd : divOk ((m + 1 : Nat) : Int) = true := div_ok 20 n0 (by omega) (by decide) (by decide)
  have hmul : mulOk ((m + 1 : Nat) : Int) ((m + 1 : Nat) : Int) = true := mul_ok 20 20 (by omega) (by omega) (by decide) (by decide) (by decide)
  have ga : (stD st (SS N m) (LL N m))[st.length]? = some (.lst (dl (SS N m))) := get_last0 _ _
  have sl := SS_len N m
  have ll := LL_len N m
  have ap := append_at ga (by rw [dl_len]; omega) (.int ((m + 1 : Nat) : Int))
  have is := isLst_at ga
  have au : augD .add (.int ((m + 1 : Nat) : Int)) (.int 1) = some (.int ((m + 2 : Nat) : Int)) := rfl
  rw [l1_divisors_of, SS_step, LL_step]
  unfold envD
  by_cases h0 : N % (m + 1) = 0
  · have e1 : (stD st (SS N m) (LL N m)).set st.length (.lst (dl (SS N m) ++ [.int ((m + 1 : Nat) : Int)])) = stD st (SS N m ++ [m + 1]) (LL N m) := by
      unfold stD
      rw [set_last0, dl_app]; rfl
    rw [e1] at ap
    have gb : (stD st (SS N m ++ [m + 1]) (LL N m))[st.length + 1]? = some (.lst (dl (LL N m))) := get_last _ _ 1
    have is2 := isLst_at gb
    have ap2 := append_at gb (by rw [dl_len]; omega) (.int ((N / (m + 1) : Nat) : Int))
    have e2 : (stD st (SS N m ++ [m + 1]) (LL N m)).set (st.length + 1) (.lst (dl (LL N m) ++ [.int ((N / (m + 1) : Nat) : Int)])) = stD st (SS N m ++ [m + 1]) (LL N m ++ [N / (m + 1)]) := by
      unfold stD
      rw [set_last, dl_app (LL N m)]; rfl
    rw [e2] at ap2
    by_cases h2 : (m + 1) * (m + 1) < N
    · have h3 : ((m + 1 : Nat) : Int) * ((m + 1 : Nat) : Int) < (N : Int) := by exact_mod_cast h2
      simp -implicitDefEqProofs only [exs_nil, exs_cons, ex_pass, ex_brk, ex_cnt, ex_doc, ex_expr, ex_ret, ex_retN, ex_asg, ex_par, ex_setI, ex_aug, ex_ite, ex_whl, ex_for, ex_raise, ex_try,
    ev_con, ev_glob, ev_var, ev_bin, ev_un, ev_cmp, ev_chain, ev_and, ev_or, ev_not, ev_ife, ev_tup, ev_lst, ev_sub, ev_slice, ev_rev, ev_dct0, ev_call, ev_blt, ev_isi, ev_mth, ev_comp, ev_fz, evs_nil, evs_cons, evi_val, evi_range, evo_no, evo_var, evo_con, evo_bin, evo_un, evoK_int, slice_lst, slice_tup, compG_nm, compG_tp, compO_some, compB, noR_ok, wipe_nil, wipe_cons, evt_eq,
    bnd_ok, bnd_raise, andS_ok, andS_raise, seq_nx, seq_ret, seq_raise, seq_brk, seq_cnt, ofO_some, nxO_some, nxS_some, try_raise, try_ret, try_nx, asgT_nm, asgT_tp, setAll_nil, setAll_cons,
    tru_bl, tru_int, tru_non, tru_lst, tru_tup, add_int, sub_int, mul_int, fdiv_int, mod_int, neg_int, lt_int, le_int, gt_int, ge_int, eq_int, ne_int, eq_str, ne_str, is_bl, isnot_bl, abs_int, int_int, int_bl, bool_bl, max_int, min_int, gcd_int, len_lst, len_tup, tuple_lst, sub_lst, sub_tup, items_lst, items_tup, add_lst, add_tup, add_str, rev_lst, newLst_f, newLst_t, end_nx,
    List.map_cons, List.map_nil, List.length_cons, List.length_nil, List.replicate_succ, List.replicate_zero, List.cons_append, List.nil_append, List.append_nil, List.getElem?_cons_zero, List.getElem?_cons_succ, List.set_cons_zero, List.set_cons_succ, List.reverse_cons, List.reverse_nil, Option.map_some, Option.map_none,
    if_true, if_false, Bool.false_eq_true, Bool.not_true, Bool.not_false, decide_true, decide_false, Bool.and_true, Bool.true_and, Bool.false_and, Bool.and_false, Bool.or_true, Bool.true_or, Bool.or_false, Bool.false_or, Nat.zero_add, Nat.reduceAdd, reduceCtorEq, reduceIte, c1, c2, n0, hd, hmul, h0, is, ap, is2, ap2, h3, h2, au, ne_eq, not_false_eq_true, beq_self_eq_true, Int.cast_ofNat_Int, and_self]
    · have h3 : ¬ ((m + 1 : Nat) : Int) * ((m + 1 : Nat) : Int) < (N : Int) := by exact_mod_cast h2
      simp -implicitDefEqProofs only [exs_nil, exs_cons, ex_pass, ex_brk, ex_cnt, ex_doc, ex_expr, ex_ret, ex_retN, ex_asg, ex_par, ex_setI, ex_aug, ex_ite, ex_whl, ex_for, ex_raise, ex_try,
    ev_con, ev_glob, ev_var, ev_bin, ev_un, ev_cmp, ev_chain, ev_and, ev_or, ev_not, ev_ife, ev_tup, ev_lst, ev_sub, ev_slice, ev_rev, ev_dct0, ev_call, ev_blt, ev_isi, ev_mth, ev_comp, ev_fz, evs_nil, evs_cons, evi_val, evi_range, evo_no, evo_var, evo_con, evo_bin, evo_un, evoK_int, slice_lst, slice_tup, compG_nm, compG_tp, compO_some, compB, noR_ok, wipe_nil, wipe_cons, evt_eq,
    bnd_ok, bnd_raise, andS_ok, andS_raise, seq_nx, seq_ret, seq_raise, seq_brk, seq_cnt, ofO_some, nxO_some, nxS_some, try_raise, try_ret, try_nx, asgT_nm, asgT_tp, setAll_nil, setAll_cons,
    tru_bl, tru_int, tru_non, tru_lst, tru_tup, add_int, sub_int, mul_int, fdiv_int, mod_int, neg_int, lt_int, le_int, gt_int, ge_int, eq_int, ne_int, eq_str, ne_str, is_bl, isnot_bl, abs_int, int_int, int_bl, bool_bl, max_int, min_int, gcd_int, len_lst, len_tup, tuple_lst, sub_lst, sub_tup, items_lst, items_tup, add_lst, add_tup, add_str, rev_lst, newLst_f, newLst_t, end_nx,
    List.map_cons, List.map_nil, List.length_cons, List.length_nil, List.replicate_succ, List.replicate_zero, List.cons_append, List.nil_append, List.append_nil, List.getElem?_cons_zero, List.getElem?_cons_succ, List.set_cons_zero, List.set_cons_succ, List.reverse_cons, List.reverse_nil, Option.map_some, Option.map_none,
    if_true, if_false, Bool.false_eq_true, Bool.not_true, Bool.not_false, decide_true, decide_false, Bool.and_true, Bool.true_and, Bool.false_and, Bool.and_false, Bool.or_true, Bool.true_or, Bool.or_false, Bool.false_or, Nat.zero_add, Nat.reduceAdd, reduceCtorEq, reduceIte, c1, c2, n0, hd, hmul, h0, is, ap, h3, h2, au, ne_eq, not_false_eq_true, beq_self_eq_true, Int.cast_ofNat_Int, and_false]
  · have h1 : (((N % (m + 1) : Nat) : Int) == 0) = false := by
      rw [int_beq]; exact decide_eq_false (by omega)
    simp -implicitDefEqProofs only [exs_nil, exs_cons, ex_pass, ex_brk, ex_cnt, ex_doc, ex_expr, ex_ret, ex_retN, ex_asg, ex_par, ex_setI, ex_aug, ex_ite, ex_whl, ex_for, ex_raise, ex_try,
    ev_con, ev_glob, ev_var, ev_bin, ev_un, ev_cmp, ev_chain, ev_and, ev_or, ev_not, ev_ife, ev_tup, ev_lst, ev_sub, ev_slice, ev_rev, ev_dct0, ev_call, ev_blt, ev_isi, ev_mth, ev_comp, ev_fz, evs_nil, evs_cons, evi_val, evi_range, evo_no, evo_var, evo_con, evo_bin, evo_un, evoK_int, slice_lst, slice_tup, compG_nm, compG_tp, compO_some, compB, noR_ok, wipe_nil, wipe_cons, evt_eq,
    bnd_ok, bnd_raise, andS_ok, andS_raise, seq_nx, seq_ret, seq_raise, seq_brk, seq_cnt, ofO_some, nxO_some, nxS_some, try_raise, try_ret, try_nx, asgT_nm, asgT_tp, setAll_nil, setAll_cons,
    tru_bl, tru_int, tru_non, tru_lst, tru_tup, add_int, sub_int, mul_int, fdiv_int, mod_int, neg_int, lt_int, le_int, gt_int, ge_int, eq_int, ne_int, eq_str, ne_str, is_bl, isnot_bl, abs_int, int_int, int_bl, bool_bl, max_int, min_int, gcd_int, len_lst, len_tup, tuple_lst, sub_lst, sub_tup, items_lst, items_tup, add_lst, add_tup, add_str, rev_lst, newLst_f, newLst_t, end_nx,
    List.map_cons, List.map_nil, List.length_cons, List.length_nil, List.replicate_succ, List.replicate_zero, List.cons_append, List.nil_append, List.append_nil, List.getElem?_cons_zero, List.getElem?_cons_succ, List.set_cons_zero, List.set_cons_succ, List.reverse_cons, List.reverse_nil, Option.map_some, Option.map_none,
    if_true, if_false, Bool.false_eq_true, Bool.not_true, Bool.not_false, decide_true, decide_false, Bool.and_true, Bool.true_and, Bool.false_and, Bool.and_false, Bool.or_true, Bool.true_or, Bool.or_false, Bool.false_or, Nat.zero_add, Nat.reduceAdd, reduceCtorEq, reduceIte, c1, n0, h0, h1, au, ne_eq, not_false_eq_true, false_and]
theorem divisors_of_at {N : Nat} (h1 : 1 ≤ N) (hN : N ≤ 1000000) {st : Store} (hc : Calm st) : ∃ m, m * m ≤ N ∧ N < (m + 1) * (m + 1) ∧ sm_divisors_of [.int (N : Int)] st = .ok (.lst (dl (SS N m) ++ dl (LL N m).reverse)) st := by
  obtain ⟨σ', st', e, m, rfl, rfl, hm1, hm2⟩ := whl_inv (c := evt w1_divisors_of) (b := execs xm l1_divisors_of)
    (fun σ st' => ∃ m : Nat, σ = envD N st.length (m + 1) ∧ st' = stD st (SS N m) (LL N m) ∧ m * m ≤ N)
    (fun σ _ => match σ with
      | [_, _, _, some (.int d)] => 2000 - d.toNat
      | _ => 0)
    (fun σ st' => ∃ m : Nat, σ = envD N st.length (m + 1) ∧ st' = stD st (SS N m) (LL N m) ∧ m * m ≤ N ∧ N < (m + 1) * (m + 1))
    (by
      rintro σ st1 ⟨m, rfl, rfl, hm⟩
      have hm' := sq_le (Nat.le_trans hm hN)
      have hmul : mulOk ((m + 1 : Nat) : Int) ((m + 1 : Nat) : Int) = true := mul_ok 20 20 (by omega) (by omega) (by decide) (by decide) (by decide)
      by_cases hlt : (m + 1) * (m + 1) ≤ N
      · have h3 : ((m + 1 : Nat) : Int) * ((m + 1 : Nat) : Int) ≤ (N : Int) := by exact_mod_cast hlt
        refine .inr ⟨_, _, _, ?_, turn_divisors hN hlt st, ⟨m + 1, rfl, rfl, hlt⟩, ?_⟩
        · rw [w1_divisors_of]
          unfold envD
          simp -implicitDefEqProofs only [exs_nil, exs_cons, ex_pass, ex_brk, ex_cnt, ex_doc, ex_expr, ex_ret, ex_retN, ex_asg, ex_par, ex_setI, ex_aug, ex_ite, ex_whl, ex_for, ex_raise, ex_try,
    ev_con, ev_glob, ev_var, ev_bin, ev_un, ev_cmp, ev_chain, ev_and, ev_or, ev_not, ev_ife, ev_tup, ev_lst, ev_sub, ev_slice, ev_rev, ev_dct0, ev_call, ev_blt, ev_isi, ev_mth, ev_comp, ev_fz, evs_nil, evs_cons, evi_val, evi_range, evo_no, evo_var, evo_con, evo_bin, evo_un, evoK_int, slice_lst, slice_tup, compG_nm, compG_tp, compO_some, compB, noR_ok, wipe_nil, wipe_cons, evt_eq,
    bnd_ok, bnd_raise, andS_ok, andS_raise, seq_nx, seq_ret, seq_raise, seq_brk, seq_cnt, ofO_some, nxO_some, nxS_some, try_raise, try_ret, try_nx, asgT_nm, asgT_tp, setAll_nil, setAll_cons,
    tru_bl, tru_int, tru_non, tru_lst, tru_tup, add_int, sub_int, mul_int, fdiv_int, mod_int, neg_int, lt_int, le_int, gt_int, ge_int, eq_int, ne_int, eq_str, ne_str, is_bl, isnot_bl, abs_int, int_int, int_bl, bool_bl, max_int, min_int, gcd_int, len_lst, len_tup, tuple_lst, sub_lst, sub_tup, items_lst, items_tup, add_lst, add_tup, add_str, rev_lst, newLst_f, newLst_t, end_nx,
    List.map_cons, List.map_nil, List.length_cons, List.length_nil, List.replicate_succ, List.replicate_zero, List.cons_append, List.nil_append, List.append_nil, List.getElem?_cons_zero, List.getElem?_cons_succ, List.set_cons_zero, List.set_cons_succ, List.reverse_cons, List.reverse_nil, Option.map_some, Option.map_none,
    if_true, if_false, Bool.false_eq_true, Bool.not_true, Bool.not_false, decide_true, decide_false, Bool.and_true, Bool.true_and, Bool.false_and, Bool.and_false, Bool.or_true, Bool.true_or, Bool.or_false, Bool.false_or, Nat.zero_add, Nat.reduceAdd, reduceCtorEq, reduceIte, hmul, h3]
        · show 2000 - (((m + 2 : Nat) : Int)).toNat < 2000 - (((m + 1 : Nat) : Int)).toNat
          omega
      · have h3 : ¬ ((m + 1 : Nat) : Int) * ((m + 1 : Nat) : Int) ≤ (N : Int) := by exact_mod_cast hlt
        refine .inl ⟨stD st (SS N m) (LL N m), ?_, m, rfl, rfl, hm, by omega⟩
        rw [w1_divisors_of]
        unfold envD
        simp -implicitDefEqProofs only [exs_nil, exs_cons, ex_pass, ex_brk, ex_cnt, ex_doc, ex_expr, ex_ret, ex_retN, ex_asg, ex_par, ex_setI, ex_aug, ex_ite, ex_whl, ex_for, ex_raise, ex_try,
    ev_con, ev_glob, ev_var, ev_bin, ev_un, ev_cmp, ev_chain, ev_and, ev_or, ev_not, ev_ife, ev_tup, ev_lst, ev_sub, ev_slice, ev_rev, ev_dct0, ev_call, ev_blt, ev_isi, ev_mth, ev_comp, ev_fz, evs_nil, evs_cons, evi_val, evi_range, evo_no, evo_var, evo_con, evo_bin, evo_un, evoK_int, slice_lst, slice_tup, compG_nm, compG_tp, compO_some, compB, noR_ok, wipe_nil, wipe_cons, evt_eq,
    bnd_ok, bnd_raise, andS_ok, andS_raise, seq_nx, seq_ret, seq_raise, seq_brk, seq_cnt, ofO_some, nxO_some, nxS_some, try_raise, try_ret, try_nx, asgT_nm, asgT_tp, setAll_nil, setAll_cons,
    tru_bl, tru_int, tru_non, tru_lst, tru_tup, add_int, sub_int, mul_int, fdiv_int, mod_int, neg_int, lt_int, le_int, gt_int, ge_int, eq_int, ne_int, eq_str, ne_str, is_bl, isnot_bl, abs_int, int_int, int_bl, bool_bl, max_int, min_int, gcd_int, len_lst, len_tup, tuple_lst, sub_lst, sub_tup, items_lst, items_tup, add_lst, add_tup, add_str, rev_lst, newLst_f, newLst_t, end_nx,
    List.map_cons, List.map_nil, List.length_cons, List.length_nil, List.replicate_succ, List.replicate_zero, List.cons_append, List.nil_append, List.append_nil, List.getElem?_cons_zero, List.getElem?_cons_succ, List.set_cons_zero, List.set_cons_succ, List.reverse_cons, List.reverse_nil, Option.map_some, Option.map_none,
    if_true, if_false, Bool.false_eq_true, Bool.not_true, Bool.not_false, decide_true, decide_false, Bool.and_true, Bool.true_and, Bool.false_and, Bool.and_false, Bool.or_true, Bool.true_or, Bool.or_false, Bool.false_or, Nat.zero_add, Nat.reduceAdd, reduceCtorEq, reduceIte, hmul, h3])
    fuelD (envD N st.length 1) (stD st [] []) (by
      show 2000 - _ < fuelD
      unfold fuelD; omega) ⟨0, rfl, rfl, by omega⟩
  refine ⟨m, hm1, hm2, ?_⟩
  have ga : (stD st (SS N m) (LL N m))[st.length]? = some (.lst (dl (SS N m))) := get_last0 _ _
  have hm' := sq_le (Nat.le_trans hm1 hN)
  have fz : fzO (stD st (SS N m) (LL N m)) (.ref st.length) = .ok (.lst (dl (SS N m))) (st ++ [.dead, .lst (dl (LL N m))]) := by
    unfold fzO freeze
    simp only [ga]
    unfold stD
    rw [set_last0]; rfl
  have gb : (st ++ [Cell.dead, .lst (dl (LL N m))])[st.length + 1]? = some (.lst (dl (LL N m))) := get_last _ _ 1
  have sl := SS_len N m
  have ll := LL_len N m
  have hz2 : szOk ((dl (SS N m)).length + (dl (LL N m)).reverse.length) = true := decide_eq_true (by rw [List.length_reverse, dl_len, dl_len]; omega)
  have rv := rev_at gb
  have hz : szOk 0 = true := by decide
  have e0 : whlRun (evt w1_divisors_of) (execs xm l1_divisors_of) fuelD [some (.int (N : Int)), some (.ref st.length), some (.ref (st.length + 1)), some (.int 1)] (st ++ [.lst [], .lst []]) = _ := e
  unfold envD at e0
  rw [sm_divisors_of, callD_eq xm 1 3 _ [.int (N : Int)] _ rfl, b_divisors_of]
  simp -implicitDefEqProofs only [exs_nil, exs_cons, ex_pass, ex_brk, ex_cnt, ex_doc, ex_expr, ex_ret, ex_retN, ex_asg, ex_par, ex_setI, ex_aug, ex_ite, ex_whl, ex_for, ex_raise, ex_try,
    ev_con, ev_glob, ev_var, ev_bin, ev_un, ev_cmp, ev_chain, ev_and, ev_or, ev_not, ev_ife, ev_tup, ev_lst, ev_sub, ev_slice, ev_rev, ev_dct0, ev_call, ev_blt, ev_isi, ev_mth, ev_comp, ev_fz, evs_nil, evs_cons, evi_val, evi_range, evo_no, evo_var, evo_con, evo_bin, evo_un, evoK_int, slice_lst, slice_tup, compG_nm, compG_tp, compO_some, compB, noR_ok, wipe_nil, wipe_cons, evt_eq,
    bnd_ok, bnd_raise, andS_ok, andS_raise, seq_nx, seq_ret, seq_raise, seq_brk, seq_cnt, ofO_some, nxO_some, nxS_some, try_raise, try_ret, try_nx, asgT_nm, asgT_tp, setAll_nil, setAll_cons,
    tru_bl, tru_int, tru_non, tru_lst, tru_tup, add_int, sub_int, mul_int, fdiv_int, mod_int, neg_int, lt_int, le_int, gt_int, ge_int, eq_int, ne_int, eq_str, ne_str, is_bl, isnot_bl, abs_int, int_int, int_bl, bool_bl, max_int, min_int, gcd_int, len_lst, len_tup, tuple_lst, sub_lst, sub_tup, items_lst, items_tup, add_lst, add_tup, add_str, rev_lst, newLst_f, newLst_t, end_nx,
    List.map_cons, List.map_nil, List.length_cons, List.length_nil, List.replicate_succ, List.replicate_zero, List.cons_append, List.nil_append, List.append_nil, List.getElem?_cons_zero, List.getElem?_cons_succ, List.set_cons_zero, List.set_cons_succ, List.reverse_cons, List.reverse_nil, Option.map_some, Option.map_none,
    if_true, if_false, Bool.false_eq_true, Bool.not_true, Bool.not_false, decide_true, decide_false, Bool.and_true, Bool.true_and, Bool.false_and, Bool.and_false, Bool.or_true, Bool.true_or, Bool.or_false, Bool.false_or, Nat.zero_add, Nat.reduceAdd, reduceCtorEq, reduceIte, hz, List.length_append, List.append_assoc, e0, fz, rv, add_lst, hz2]
  rw [end_ret (by rw [dl_rev, ← dl_app]; exact noRef_dl _), closeSt_app hc, dl_rev]
end L01
set_option Elab.async false
set_option linter.all false
set_option maxRecDepth 100000
set_option maxHeartbeats 1000000
namespace L01
open Ip
open PySem (Str)
def low (N : Nat) : List Nat := (List.range' 1 1000).filter fun i => decide (i * i ≤ N) && (N % i == 0)
def high (N : Nat) : List Nat := ((low N).reverse.filter fun i => decide (i * i < N)).map (N / ·)
theorem SS_low {N m : Nat} (h1 : m * m ≤ N) (h2 : N < (m + 1) * (m + 1)) (hN : N ≤ 1000000) : SS N m = low N := by
  have hm := sq_le (Nat.le_trans h1 hN)
  unfold SS low
  have e : List.range' 1 1000 = List.range' 1 m ++ List.range' (1 + m) (1000 - m) := by
    rw [List.range'_append_1]
    congr 1; omega
  rw [e, List.filter_append]
  have e2 : (List.range' (1 + m) (1000 - m)).filter (fun i => decide (i * i ≤ N) && (N % i == 0)) = [] := by
    rw [List.filter_eq_nil_iff]
    intro i hi
    have := (List.mem_range'_1.mp hi).1
    have h3 : (m + 1) * (m + 1) ≤ i * i := Nat.mul_le_mul (by omega) (by omega)
    simp
    intro h; omega
  rw [e2, List.append_nil]
  refine List.filter_congr fun i hi => ?_
  have := (List.mem_range'_1.mp hi).2
  have h3 : i * i ≤ m * m := Nat.mul_le_mul (by omega) (by omega)
  have h4 : decide (i * i ≤ N) = true := decide_eq_true (by omega)
  rw [h4, Bool.true_and]
theorem LL_high {N m : Nat} (h1 : m * m ≤ N) (h2 : N < (m + 1) * (m + 1)) (hN : N ≤ 1000000) : (LL N m).reverse = high N := by
  unfold LL high
  rw [SS_low h1 h2 hN, ← List.map_reverse, List.filter_reverse]
theorem divisors_at {N : Nat} (h1 : 1 ≤ N) (hN : N ≤ 1000000) {st : Store} (hc : Calm st) : sm_divisors [.int (N : Int)] st = .ok (.tup (dl (low N ++ high N))) st := by
  obtain ⟨m, hm1, hm2, e⟩ := divisors_of_at h1 hN hc
  rw [LL_high hm1 hm2 hN, SS_low hm1 hm2 hN] at e
  have e2 := within_req (shown_int (n := (N : Int)) (small_le (a := 20) (b := 1900) (by omega) (by decide))) 1 1000000 st
  rw [show within (.int (N : Int)) 1 1000000 = true by simp [within]; omega, if_pos rfl] at e2
  rw [sm_divisors, callD_eq xm 1 0 _ [.int (N : Int)] _ rfl, b_divisors, c_MOST_DIVIDED]
  simp -implicitDefEqProofs only [exs_nil, exs_cons, ex_pass, ex_brk, ex_cnt, ex_doc, ex_expr, ex_ret, ex_retN, ex_asg, ex_par, ex_setI, ex_aug, ex_ite, ex_whl, ex_for, ex_raise, ex_try,
    ev_con, ev_glob, ev_var, ev_bin, ev_un, ev_cmp, ev_chain, ev_and, ev_or, ev_not, ev_ife, ev_tup, ev_lst, ev_sub, ev_slice, ev_rev, ev_dct0, ev_call, ev_blt, ev_isi, ev_mth, ev_comp, ev_fz, evs_nil, evs_cons, evi_val, evi_range, evo_no, evo_var, evo_con, evo_bin, evo_un, evoK_int, slice_lst, slice_tup, compG_nm, compG_tp, compO_some, compB, noR_ok, wipe_nil, wipe_cons, evt_eq,
    bnd_ok, bnd_raise, andS_ok, andS_raise, seq_nx, seq_ret, seq_raise, seq_brk, seq_cnt, ofO_some, nxO_some, nxS_some, try_raise, try_ret, try_nx, asgT_nm, asgT_tp, setAll_nil, setAll_cons,
    tru_bl, tru_int, tru_non, tru_lst, tru_tup, add_int, sub_int, mul_int, fdiv_int, mod_int, neg_int, lt_int, le_int, gt_int, ge_int, eq_int, ne_int, eq_str, ne_str, is_bl, isnot_bl, abs_int, int_int, int_bl, bool_bl, max_int, min_int, gcd_int, len_lst, len_tup, tuple_lst, sub_lst, sub_tup, items_lst, items_tup, add_lst, add_tup, add_str, rev_lst, newLst_f, newLst_t, end_nx,
    List.map_cons, List.map_nil, List.length_cons, List.length_nil, List.replicate_succ, List.replicate_zero, List.cons_append, List.nil_append, List.append_nil, List.getElem?_cons_zero, List.getElem?_cons_succ, List.set_cons_zero, List.set_cons_succ, List.reverse_cons, List.reverse_nil, Option.map_some, Option.map_none,
    if_true, if_false, Bool.false_eq_true, Bool.not_true, Bool.not_false, decide_true, decide_false, Bool.and_true, Bool.true_and, Bool.false_and, Bool.and_false, Bool.or_true, Bool.true_or, Bool.or_false, Bool.false_or, Nat.zero_add, Nat.reduceAdd, reduceCtorEq, reduceIte, e, e2, ← dl_app]
  rw [end_ret (by rw [noRef]; exact noRefs_dl _), closeSt_me]
theorem divisors_bad {x : D} (hx : Shown x) (h : within x 1 1000000 = false) (st : Store) : sm_divisors [x] st = .raise ⟨0, [x]⟩ st := by
  have e2 := within_req hx 1 1000000 st
  rw [h, if_neg (by decide)] at e2
  rw [sm_divisors, callD_eq xm 1 0 _ [x] _ rfl, b_divisors, c_MOST_DIVIDED]
  simp -implicitDefEqProofs only [exs_nil, exs_cons, ex_pass, ex_brk, ex_cnt, ex_doc, ex_expr, ex_ret, ex_retN, ex_asg, ex_par, ex_setI, ex_aug, ex_ite, ex_whl, ex_for, ex_raise, ex_try,
    ev_con, ev_glob, ev_var, ev_bin, ev_un, ev_cmp, ev_chain, ev_and, ev_or, ev_not, ev_ife, ev_tup, ev_lst, ev_sub, ev_slice, ev_rev, ev_dct0, ev_call, ev_blt, ev_isi, ev_mth, ev_comp, ev_fz, evs_nil, evs_cons, evi_val, evi_range, evo_no, evo_var, evo_con, evo_bin, evo_un, evoK_int, slice_lst, slice_tup, compG_nm, compG_tp, compO_some, compB, noR_ok, wipe_nil, wipe_cons, evt_eq,
    bnd_ok, bnd_raise, andS_ok, andS_raise, seq_nx, seq_ret, seq_raise, seq_brk, seq_cnt, ofO_some, nxO_some, nxS_some, try_raise, try_ret, try_nx, asgT_nm, asgT_tp, setAll_nil, setAll_cons,
    tru_bl, tru_int, tru_non, tru_lst, tru_tup, add_int, sub_int, mul_int, fdiv_int, mod_int, neg_int, lt_int, le_int, gt_int, ge_int, eq_int, ne_int, eq_str, ne_str, is_bl, isnot_bl, abs_int, int_int, int_bl, bool_bl, max_int, min_int, gcd_int, len_lst, len_tup, tuple_lst, sub_lst, sub_tup, items_lst, items_tup, add_lst, add_tup, add_str, rev_lst, newLst_f, newLst_t, end_nx,
    List.map_cons, List.map_nil, List.length_cons, List.length_nil, List.replicate_succ, List.replicate_zero, List.cons_append, List.nil_append, List.append_nil, List.getElem?_cons_zero, List.getElem?_cons_succ, List.set_cons_zero, List.set_cons_succ, List.reverse_cons, List.reverse_nil, Option.map_some, Option.map_none,
    if_true, if_false, Bool.false_eq_true, Bool.not_true, Bool.not_false, decide_true, decide_false, Bool.and_true, Bool.true_and, Bool.false_and, Bool.and_false, Bool.or_true, Bool.true_or, Bool.or_false, Bool.false_or, Nat.zero_add, Nat.reduceAdd, reduceCtorEq, reduceIte, e2]
  rw [end_raise (by simp [noRefs, hx.pure]), closeSt_me]
/-! ### the law's lists -/
theorem fm_dl {α : Type} (f : α → Option D) (P : α → Bool) (g : α → Nat) : ∀ xs : List α, (∀ x ∈ xs, f x = if P x = true then some (.int (g x : Nat)) else none) → xs.filterMap f = dl ((xs.filter P).map g)
  | [], _ => rfl
  | x :: xs, h => by
    rw [List.filterMap_cons, h x (by simp), List.filter_cons]
    have ih := fm_dl f P g xs fun y hy => h y (by simp [hy])
    cases P x with
    | true => simp [ih, dl]
    | false => simp [ih]
theorem low_run {N : Nat} (hN : N ≤ 1000000) (σ : EnvD) (hs : σ[2]? = some (some (.int (N : Int)))) (h4 : 4 < σ.length) (st : Store) :
    compRun (compG [4] (.nm 4) p2__law_divisors_right e2__law_divisors_right σ) (.seq ((List.range 1000).map fun (k : Nat) => D.int (1 + (k : Int)))) fuelD 0 [] st = .ok (dl (low N)) st := by
  rw [comp_filterMap (fun x => match x with
    | .int i => if decide (i.toNat * i.toNat ≤ N) && (N % i.toNat == 0) then some (.int (i.toNat : Nat)) else none
    | _ => none) _ _ (by simp), List.filterMap_map]
  · rw [fm_dl _ (fun k => decide ((1 + k) * (1 + k) ≤ N) && (N % (1 + k) == 0)) (fun k => 1 + k)]
    · congr 2
      unfold low
      rw [List.range'_eq_map_range, List.filter_map]
      rfl
    · intro k _
      simp only [Function.comp]
      rw [show (1 + (k : Int)).toNat = 1 + k by omega]
  · intro x hx
    obtain ⟨k, hk, rfl⟩ := List.mem_map.mp hx
    have hk' : k < 1000 := List.mem_range.mp hk
    have e1 : (1 : Int) + (k : Int) = ((1 + k : Nat) : Int) := by omega
    rw [e1]
    simp only [Int.toNat_natCast]
    obtain ⟨j, hj⟩ : ∃ j, 1 + k = j := ⟨_, rfl⟩
    rw [hj]
    have j1 : 1 ≤ j := by omega
    have j2 : j ≤ 1000 := by omega
    clear e1 hx hj hk hk'
    have s2 : ((σ.set 4 none).set 4 (some (.int (j : Int))))[2]? = some (some (.int (N : Int))) := by
      rw [List.getElem?_set_ne (by decide), List.getElem?_set_ne (by decide)]; exact hs
    have s4 : ((σ.set 4 none).set 4 (some (.int (j : Int))))[4]? = some (some (.int (j : Int))) := by
      rw [List.getElem?_set_self (by simpa using h4)]
    rw [compG_nm, wipe_cons, wipe_nil]
    generalize (σ.set 4 none).set 4 (some (.int (j : Int))) = σ' at s2 s4
    have n0 : (j : Int) ≠ 0 := by omega
    have hmul : mulOk (j : Int) (j : Int) = true := mul_ok 20 20 (by omega) (by omega) (by decide) (by decide) (by decide)
    have hd : divOk (j : Int) = true := div_ok 20 n0 (by omega) (by decide) (by decide)
    have c2 : ((N : Int)).fdiv (j : Int) = ((N / j : Nat) : Int) := by
      rw [Int.fdiv_eq_ediv_of_nonneg _ (by omega)]; rfl
    have hmul2 : mulOk ((N / j : Nat) : Int) (j : Int) = true := mul_ok 20 20 (by
      have : N / j ≤ N := Nat.div_le_self _ _
      rw [Int.natAbs_natCast]; omega) (by omega) (by decide) (by decide) (by decide)
    have c3 : (((N / j : Nat) : Int) * (j : Int) == (N : Int)) = (N % j == 0) := by
      rw [int_beq]
      have hdm := Nat.div_add_mod N j
      have hcm : j * (N / j) = N / j * j := Nat.mul_comm _ _
      by_cases h : N % j = 0
      · rw [h]
        simp only [beq_self_eq_true, decide_eq_true_eq]
        have : N / j * j = N := by omega
        exact_mod_cast this
      · rw [show (N % j == 0) = false by simpa using h]
        refine decide_eq_false fun z => h ?_
        have : N / j * j = N := by exact_mod_cast z
        omega
    have c4 : decide ((j : Int) * (j : Int) ≤ (N : Int)) = decide (j * j ≤ N) := by
      congr 1
      apply propext
      constructor
      · intro h; exact_mod_cast h
      · intro h; exact_mod_cast h
    rw [p2__law_divisors_right, e2__law_divisors_right]
    simp -implicitDefEqProofs only [exs_nil, exs_cons, ex_pass, ex_brk, ex_cnt, ex_doc, ex_expr, ex_ret, ex_retN, ex_asg, ex_par, ex_setI, ex_aug, ex_ite, ex_whl, ex_for, ex_raise, ex_try,
    ev_con, ev_glob, ev_var, ev_bin, ev_un, ev_cmp, ev_chain, ev_and, ev_or, ev_not, ev_ife, ev_tup, ev_lst, ev_sub, ev_slice, ev_rev, ev_dct0, ev_call, ev_blt, ev_isi, ev_mth, ev_comp, ev_fz, evs_nil, evs_cons, evi_val, evi_range, evo_no, evo_var, evo_con, evo_bin, evo_un, evoK_int, slice_lst, slice_tup, compG_nm, compG_tp, compO_some, compB, noR_ok, wipe_nil, wipe_cons, evt_eq,
    bnd_ok, bnd_raise, andS_ok, andS_raise, seq_nx, seq_ret, seq_raise, seq_brk, seq_cnt, ofO_some, nxO_some, nxS_some, try_raise, try_ret, try_nx, asgT_nm, asgT_tp, setAll_nil, setAll_cons,
    tru_bl, tru_int, tru_non, tru_lst, tru_tup, add_int, sub_int, mul_int, fdiv_int, mod_int, neg_int, lt_int, le_int, gt_int, ge_int, eq_int, ne_int, eq_str, ne_str, is_bl, isnot_bl, abs_int, int_int, int_bl, bool_bl, max_int, min_int, gcd_int, len_lst, len_tup, tuple_lst, sub_lst, sub_tup, items_lst, items_tup, add_lst, add_tup, add_str, rev_lst, newLst_f, newLst_t, end_nx,
    List.map_cons, List.map_nil, List.length_cons, List.length_nil, List.replicate_succ, List.replicate_zero, List.cons_append, List.nil_append, List.append_nil, List.getElem?_cons_zero, List.getElem?_cons_succ, List.set_cons_zero, List.set_cons_succ, List.reverse_cons, List.reverse_nil, Option.map_some, Option.map_none,
    if_true, if_false, Bool.false_eq_true, Bool.not_true, Bool.not_false, decide_true, decide_false, Bool.and_true, Bool.true_and, Bool.false_and, Bool.and_false, Bool.or_true, Bool.true_or, Bool.or_false, Bool.false_or, Nat.zero_add, Nat.reduceAdd, reduceCtorEq, reduceIte, s2, s4, hmul, hd, hmul2, c2, c3, c4]
    cases decide (j * j ≤ N) with
    | false =>
      simp -implicitDefEqProofs only [exs_nil, exs_cons, ex_pass, ex_brk, ex_cnt, ex_doc, ex_expr, ex_ret, ex_retN, ex_asg, ex_par, ex_setI, ex_aug, ex_ite, ex_whl, ex_for, ex_raise, ex_try,
    ev_con, ev_glob, ev_var, ev_bin, ev_un, ev_cmp, ev_chain, ev_and, ev_or, ev_not, ev_ife, ev_tup, ev_lst, ev_sub, ev_slice, ev_rev, ev_dct0, ev_call, ev_blt, ev_isi, ev_mth, ev_comp, ev_fz, evs_nil, evs_cons, evi_val, evi_range, evo_no, evo_var, evo_con, evo_bin, evo_un, evoK_int, slice_lst, slice_tup, compG_nm, compG_tp, compO_some, compB, noR_ok, wipe_nil, wipe_cons, evt_eq,
    bnd_ok, bnd_raise, andS_ok, andS_raise, seq_nx, seq_ret, seq_raise, seq_brk, seq_cnt, ofO_some, nxO_some, nxS_some, try_raise, try_ret, try_nx, asgT_nm, asgT_tp, setAll_nil, setAll_cons,
    tru_bl, tru_int, tru_non, tru_lst, tru_tup, add_int, sub_int, mul_int, fdiv_int, mod_int, neg_int, lt_int, le_int, gt_int, ge_int, eq_int, ne_int, eq_str, ne_str, is_bl, isnot_bl, abs_int, int_int, int_bl, bool_bl, max_int, min_int, gcd_int, len_lst, len_tup, tuple_lst, sub_lst, sub_tup, items_lst, items_tup, add_lst, add_tup, add_str, rev_lst, newLst_f, newLst_t, end_nx,
    List.map_cons, List.map_nil, List.length_cons, List.length_nil, List.replicate_succ, List.replicate_zero, List.cons_append, List.nil_append, List.append_nil, List.getElem?_cons_zero, List.getElem?_cons_succ, List.set_cons_zero, List.set_cons_succ, List.reverse_cons, List.reverse_nil, Option.map_some, Option.map_none,
    if_true, if_false, Bool.false_eq_true, Bool.not_true, Bool.not_false, decide_true, decide_false, Bool.and_true, Bool.true_and, Bool.false_and, Bool.and_false, Bool.or_true, Bool.true_or, Bool.or_false, Bool.false_or, Nat.zero_add, Nat.reduceAdd, reduceCtorEq, reduceIte]
    | true =>
      simp -implicitDefEqProofs only [exs_nil, exs_cons, ex_pass, ex_brk, ex_cnt, ex_doc, ex_expr, ex_ret, ex_retN, ex_asg, ex_par, ex_setI, ex_aug, ex_ite, ex_whl, ex_for, ex_raise, ex_try,
    ev_con, ev_glob, ev_var, ev_bin, ev_un, ev_cmp, ev_chain, ev_and, ev_or, ev_not, ev_ife, ev_tup, ev_lst, ev_sub, ev_slice, ev_rev, ev_dct0, ev_call, ev_blt, ev_isi, ev_mth, ev_comp, ev_fz, evs_nil, evs_cons, evi_val, evi_range, evo_no, evo_var, evo_con, evo_bin, evo_un, evoK_int, slice_lst, slice_tup, compG_nm, compG_tp, compO_some, compB, noR_ok, wipe_nil, wipe_cons, evt_eq,
    bnd_ok, bnd_raise, andS_ok, andS_raise, seq_nx, seq_ret, seq_raise, seq_brk, seq_cnt, ofO_some, nxO_some, nxS_some, try_raise, try_ret, try_nx, asgT_nm, asgT_tp, setAll_nil, setAll_cons,
    tru_bl, tru_int, tru_non, tru_lst, tru_tup, add_int, sub_int, mul_int, fdiv_int, mod_int, neg_int, lt_int, le_int, gt_int, ge_int, eq_int, ne_int, eq_str, ne_str, is_bl, isnot_bl, abs_int, int_int, int_bl, bool_bl, max_int, min_int, gcd_int, len_lst, len_tup, tuple_lst, sub_lst, sub_tup, items_lst, items_tup, add_lst, add_tup, add_str, rev_lst, newLst_f, newLst_t, end_nx,
    List.map_cons, List.map_nil, List.length_cons, List.length_nil, List.replicate_succ, List.replicate_zero, List.cons_append, List.nil_append, List.append_nil, List.getElem?_cons_zero, List.getElem?_cons_succ, List.set_cons_zero, List.set_cons_succ, List.reverse_cons, List.reverse_nil, Option.map_some, Option.map_none,
    if_true, if_false, Bool.false_eq_true, Bool.not_true, Bool.not_false, decide_true, decide_false, Bool.and_true, Bool.true_and, Bool.false_and, Bool.and_false, Bool.or_true, Bool.true_or, Bool.or_false, Bool.false_or, Nat.zero_add, Nat.reduceAdd, reduceCtorEq, reduceIte, s2, s4, hmul, hd, hmul2, c2, c3, c4]
      cases (N % j == 0) <;> simp -implicitDefEqProofs only [exs_nil, exs_cons, ex_pass, ex_brk, ex_cnt, ex_doc, ex_expr, ex_ret, ex_retN, ex_asg, ex_par, ex_setI, ex_aug, ex_ite, ex_whl, ex_for, ex_raise, ex_try,
    ev_con, ev_glob, ev_var, ev_bin, ev_un, ev_cmp, ev_chain, ev_and, ev_or, ev_not, ev_ife, ev_tup, ev_lst, ev_sub, ev_slice, ev_rev, ev_dct0, ev_call, ev_blt, ev_isi, ev_mth, ev_comp, ev_fz, evs_nil, evs_cons, evi_val, evi_range, evo_no, evo_var, evo_con, evo_bin, evo_un, evoK_int, slice_lst, slice_tup, compG_nm, compG_tp, compO_some, compB, noR_ok, wipe_nil, wipe_cons, evt_eq,
    bnd_ok, bnd_raise, andS_ok, andS_raise, seq_nx, seq_ret, seq_raise, seq_brk, seq_cnt, ofO_some, nxO_some, nxS_some, try_raise, try_ret, try_nx, asgT_nm, asgT_tp, setAll_nil, setAll_cons,
    tru_bl, tru_int, tru_non, tru_lst, tru_tup, add_int, sub_int, mul_int, fdiv_int, mod_int, neg_int, lt_int, le_int, gt_int, ge_int, eq_int, ne_int, eq_str, ne_str, is_bl, isnot_bl, abs_int, int_int, int_bl, bool_bl, max_int, min_int, gcd_int, len_lst, len_tup, tuple_lst, sub_lst, sub_tup, items_lst, items_tup, add_lst, add_tup, add_str, rev_lst, newLst_f, newLst_t, end_nx,
    List.map_cons, List.map_nil, List.length_cons, List.length_nil, List.replicate_succ, List.replicate_zero, List.cons_append, List.nil_append, List.append_nil, List.getElem?_cons_zero, List.getElem?_cons_succ, List.set_cons_zero, List.set_cons_succ, List.reverse_cons, List.reverse_nil, Option.map_some, Option.map_none,
    if_true, if_false, Bool.false_eq_true, Bool.not_true, Bool.not_false, decide_true, decide_false, Bool.and_true, Bool.true_and, Bool.false_and, Bool.and_false, Bool.or_true, Bool.true_or, Bool.or_false, Bool.false_or, Nat.zero_add, Nat.reduceAdd, reduceCtorEq, reduceIte, s4, c3]
theorem high_run {N : Nat} (hN : N ≤ 1000000) (σ : EnvD) (hs : σ[2]? = some (some (.int (N : Int)))) (h4 : 4 < σ.length) (st : Store) :
    compRun (compG [4] (.nm 4) p1__law_divisors_right e1__law_divisors_right σ) (.seq (dl (low N)).reverse) fuelD 0 [] st = .ok (dl (high N)) st := by
  have hlow : ∀ j ∈ low N, 1 ≤ j ∧ j ≤ 1000 := fun j hj => by
    have := List.mem_range'_1.mp (List.mem_filter.mp hj).1
    omega
  have hlen : (low N).length ≤ 1000 := by
    unfold low
    refine Nat.le_trans (List.length_filter_le _ _) (by simp)
  rw [dl_rev, comp_filterMap (fun x => match x with
    | .int i => if decide (i.toNat * i.toNat < N) then some (.int (N / i.toNat : Nat)) else none
    | _ => none) _ _ (by rw [dl_len, List.length_reverse]; omega), dl, List.filterMap_map]
  · rw [fm_dl _ (fun k => decide (k * k < N)) (fun k => N / k)]
    · rfl
    · intro k _
      simp only [Function.comp, Int.toNat_natCast]
  · intro x hx
    obtain ⟨j, hj, rfl⟩ := List.mem_map.mp hx
    simp only [Int.toNat_natCast]
    obtain ⟨j1, j2⟩ := hlow j (by simpa using hj)
    clear hx hj
    have s2 : ((σ.set 4 none).set 4 (some (.int (j : Int))))[2]? = some (some (.int (N : Int))) := by
      rw [List.getElem?_set_ne (by decide), List.getElem?_set_ne (by decide)]; exact hs
    have s4 : ((σ.set 4 none).set 4 (some (.int (j : Int))))[4]? = some (some (.int (j : Int))) := by
      rw [List.getElem?_set_self (by simpa using h4)]
    rw [compG_nm, wipe_cons, wipe_nil]
    generalize (σ.set 4 none).set 4 (some (.int (j : Int))) = σ' at s2 s4
    have n0 : (j : Int) ≠ 0 := by omega
    have hmul : mulOk (j : Int) (j : Int) = true := mul_ok 20 20 (by omega) (by omega) (by decide) (by decide) (by decide)
    have hd : divOk (j : Int) = true := div_ok 20 n0 (by omega) (by decide) (by decide)
    have c2 : ((N : Int)).fdiv (j : Int) = ((N / j : Nat) : Int) := by
      rw [Int.fdiv_eq_ediv_of_nonneg _ (by omega)]; rfl
    have c4 : decide ((j : Int) * (j : Int) < (N : Int)) = decide (j * j < N) := by
      congr 1
      apply propext
      constructor
      · intro h; exact_mod_cast h
      · intro h; exact_mod_cast h
    rw [p1__law_divisors_right, e1__law_divisors_right]
    simp -implicitDefEqProofs only [exs_nil, exs_cons, ex_pass, ex_brk, ex_cnt, ex_doc, ex_expr, ex_ret, ex_retN, ex_asg, ex_par, ex_setI, ex_aug, ex_ite, ex_whl, ex_for, ex_raise, ex_try,
    ev_con, ev_glob, ev_var, ev_bin, ev_un, ev_cmp, ev_chain, ev_and, ev_or, ev_not, ev_ife, ev_tup, ev_lst, ev_sub, ev_slice, ev_rev, ev_dct0, ev_call, ev_blt, ev_isi, ev_mth, ev_comp, ev_fz, evs_nil, evs_cons, evi_val, evi_range, evo_no, evo_var, evo_con, evo_bin, evo_un, evoK_int, slice_lst, slice_tup, compG_nm, compG_tp, compO_some, compB, noR_ok, wipe_nil, wipe_cons, evt_eq,
    bnd_ok, bnd_raise, andS_ok, andS_raise, seq_nx, seq_ret, seq_raise, seq_brk, seq_cnt, ofO_some, nxO_some, nxS_some, try_raise, try_ret, try_nx, asgT_nm, asgT_tp, setAll_nil, setAll_cons,
    tru_bl, tru_int, tru_non, tru_lst, tru_tup, add_int, sub_int, mul_int, fdiv_int, mod_int, neg_int, lt_int, le_int, gt_int, ge_int, eq_int, ne_int, eq_str, ne_str, is_bl, isnot_bl, abs_int, int_int, int_bl, bool_bl, max_int, min_int, gcd_int, len_lst, len_tup, tuple_lst, sub_lst, sub_tup, items_lst, items_tup, add_lst, add_tup, add_str, rev_lst, newLst_f, newLst_t, end_nx,
    List.map_cons, List.map_nil, List.length_cons, List.length_nil, List.replicate_succ, List.replicate_zero, List.cons_append, List.nil_append, List.append_nil, List.getElem?_cons_zero, List.getElem?_cons_succ, List.set_cons_zero, List.set_cons_succ, List.reverse_cons, List.reverse_nil, Option.map_some, Option.map_none,
    if_true, if_false, Bool.false_eq_true, Bool.not_true, Bool.not_false, decide_true, decide_false, Bool.and_true, Bool.true_and, Bool.false_and, Bool.and_false, Bool.or_true, Bool.true_or, Bool.or_false, Bool.false_or, Nat.zero_add, Nat.reduceAdd, reduceCtorEq, reduceIte, s2, s4, hmul, hd, c2, c4]
    cases decide (j * j < N) with
    | false => simp -implicitDefEqProofs only [exs_nil, exs_cons, ex_pass, ex_brk, ex_cnt, ex_doc, ex_expr, ex_ret, ex_retN, ex_asg, ex_par, ex_setI, ex_aug, ex_ite, ex_whl, ex_for, ex_raise, ex_try,
    ev_con, ev_glob, ev_var, ev_bin, ev_un, ev_cmp, ev_chain, ev_and, ev_or, ev_not, ev_ife, ev_tup, ev_lst, ev_sub, ev_slice, ev_rev, ev_dct0, ev_call, ev_blt, ev_isi, ev_mth, ev_comp, ev_fz, evs_nil, evs_cons, evi_val, evi_range, evo_no, evo_var, evo_con, evo_bin, evo_un, evoK_int, slice_lst, slice_tup, compG_nm, compG_tp, compO_some, compB, noR_ok, wipe_nil, wipe_cons, evt_eq,
    bnd_ok, bnd_raise, andS_ok, andS_raise, seq_nx, seq_ret, seq_raise, seq_brk, seq_cnt, ofO_some, nxO_some, nxS_some, try_raise, try_ret, try_nx, asgT_nm, asgT_tp, setAll_nil, setAll_cons,
    tru_bl, tru_int, tru_non, tru_lst, tru_tup, add_int, sub_int, mul_int, fdiv_int, mod_int, neg_int, lt_int, le_int, gt_int, ge_int, eq_int, ne_int, eq_str, ne_str, is_bl, isnot_bl, abs_int, int_int, int_bl, bool_bl, max_int, min_int, gcd_int, len_lst, len_tup, tuple_lst, sub_lst, sub_tup, items_lst, items_tup, add_lst, add_tup, add_str, rev_lst, newLst_f, newLst_t, end_nx,
    List.map_cons, List.map_nil, List.length_cons, List.length_nil, List.replicate_succ, List.replicate_zero, List.cons_append, List.nil_append, List.append_nil, List.getElem?_cons_zero, List.getElem?_cons_succ, List.set_cons_zero, List.set_cons_succ, List.reverse_cons, List.reverse_nil, Option.map_some, Option.map_none,
    if_true, if_false, Bool.false_eq_true, Bool.not_true, Bool.not_false, decide_true, decide_false, Bool.and_true, Bool.true_and, Bool.false_and, Bool.and_false, Bool.or_true, Bool.true_or, Bool.or_false, Bool.false_or, Nat.zero_add, Nat.reduceAdd, reduceCtorEq, reduceIte]
    | true => simp -implicitDefEqProofs only [exs_nil, exs_cons, ex_pass, ex_brk, ex_cnt, ex_doc, ex_expr, ex_ret, ex_retN, ex_asg, ex_par, ex_setI, ex_aug, ex_ite, ex_whl, ex_for, ex_raise, ex_try,
    ev_con, ev_glob, ev_var, ev_bin, ev_un, ev_cmp, ev_chain, ev_and, ev_or, ev_not, ev_ife, ev_tup, ev_lst, ev_sub, ev_slice, ev_rev, ev_dct0, ev_call, ev_blt, ev_isi, ev_mth, ev_comp, ev_fz, evs_nil, evs_cons, evi_val, evi_range, evo_no, evo_var, evo_con, evo_bin, evo_un, evoK_int, slice_lst, slice_tup, compG_nm, compG_tp, compO_some, compB, noR_ok, wipe_nil, wipe_cons, evt_eq,
    bnd_ok, bnd_raise, andS_ok, andS_raise, seq_nx, seq_ret, seq_raise, seq_brk, seq_cnt, ofO_some, nxO_some, nxS_some, try_raise, try_ret, try_nx, asgT_nm, asgT_tp, setAll_nil, setAll_cons,
    tru_bl, tru_int, tru_non, tru_lst, tru_tup, add_int, sub_int, mul_int, fdiv_int, mod_int, neg_int, lt_int, le_int, gt_int, ge_int, eq_int, ne_int, eq_str, ne_str, is_bl, isnot_bl, abs_int, int_int, int_bl, bool_bl, max_int, min_int, gcd_int, len_lst, len_tup, tuple_lst, sub_lst, sub_tup, items_lst, items_tup, add_lst, add_tup, add_str, rev_lst, newLst_f, newLst_t, end_nx,
    List.map_cons, List.map_nil, List.length_cons, List.length_nil, List.replicate_succ, List.replicate_zero, List.cons_append, List.nil_append, List.append_nil, List.getElem?_cons_zero, List.getElem?_cons_succ, List.set_cons_zero, List.set_cons_succ, List.reverse_cons, List.reverse_nil, Option.map_some, Option.map_none,
    if_true, if_false, Bool.false_eq_true, Bool.not_true, Bool.not_false, decide_true, decide_false, Bool.and_true, Bool.true_and, Bool.false_and, Bool.and_false, Bool.or_true, Bool.true_or, Bool.or_false, Bool.false_or, Nat.zero_add, Nat.reduceAdd, reduceCtorEq, reduceIte, s2, s4, hd, c2]
end L01
set_option Elab.async false
set_option linter.all false
set_option maxRecDepth 100000
set_option maxHeartbeats 2000000
namespace L01
open Ip
open PySem (Str)
theorem p59v : (10 : Int) ^ 59 = 100000000000000000000000000000000000000000000000000000000000 := by decide
theorem p60v : (10 : Int) ^ 60 = 1000000000000000000000000000000000000000000000000000000000000 := by decide
theorem bigv : big = 1000000000000000000000000000000000000000000000000000000000000 := rfl
theorem intsOf_map {α : Type} (f : α → Int) : ∀ xs : List α, intsOf (xs.map fun x => .int (f x)) = some (xs.map f)
  | [] => rfl
  | x :: xs => by rw [List.map_cons, intsOf, intsOf_map f xs]; rfl
theorem sum_snoc (xs : List Int) (x : Int) : (xs ++ [x]).sum = xs.sum + x := by
  induction xs with
  | nil => simp
  | cons y ys ih => simp only [List.cons_append, List.sum_cons, ih]; omega
theorem sum_conv (a b : Int) (K : Nat) : ∀ i, ((List.range (i + 1)).map fun j => bz j a * bz (K - j) b).sum = conv a b K i
  | 0 => by simp [conv]
  | i + 1 => by
    rw [List.range_succ, List.map_append, List.map_cons, List.map_nil, sum_snoc, sum_conv a b K i, conv]
theorem sg_even (k : Nat) : (if ((k : Int) == (((k / 2 : Nat) : Int) * 2)) = true then (1 : Int) else -1) = sg k := by
  have key : ∀ m : Nat, sg (2 * m) = 1 ∧ sg (2 * m + 1) = -1 := by
    intro m
    induction m with
    | zero => exact ⟨rfl, rfl⟩
    | succ m ih =>
      have e : 2 * (m + 1) = 2 * m + 1 + 1 := by omega
      have h1 := ih.1
      have h2 := ih.2
      refine ⟨by rw [e, sg, h2]; rfl, by rw [sg, e, sg, h2]; rfl⟩
  by_cases h : k % 2 = 0
  · obtain ⟨m, rfl⟩ : ∃ m, k = 2 * m := ⟨k / 2, by omega⟩
    rw [(key m).1, if_pos (by simp; omega)]
  · obtain ⟨m, rfl⟩ : ∃ m, k = 2 * m + 1 := ⟨k / 2, by omega⟩
    rw [(key m).2, if_neg (by simp; omega)]
theorem parts_run {n o : Int} {K : Nat} (h0 : -big < n) (h1 : n < big) (ho : -5 < o ∧ o < 5) (hK : K ≤ 50) (σ : EnvD) (s1 : σ[1]? = some (some (.int n))) (s2 : σ[2]? = some (some (.int (K : Int)))) (s3 : σ[3]? = some (some (.int o))) (h6 : 6 < σ.length) (st : Store) :
    compRun (compG [6] (.nm 6) (.con (.bl true)) e1__law_choices_right σ) (.seq ((List.range (K + 1)).map fun (k : Nat) => D.int (0 + (k : Int)))) fuelD 0 [] st = .ok ((List.range (K + 1)).map fun j => D.int (bz j o * bz (K - j) n)) st := by
  rw [comp_map (fun x => match x with
    | .int i => .int (bz i.toNat o * bz (K - i.toNat) n)
    | _ => .non) _ _ (by simp; omega), List.map_map]
  · congr 1
    refine List.map_congr_left fun j hj => ?_
    simp only [Function.comp]
    rw [show ((0 : Int) + (j : Int)).toNat = j by omega]
  · intro x hx
    obtain ⟨k, hk, rfl⟩ := List.mem_map.mp hx
    have hk' : k < K + 1 := List.mem_range.mp hk
    rw [Int.zero_add]
    simp only [Int.toNat_natCast]
    have t1 : ((σ.set 6 none).set 6 (some (.int (k : Int))))[1]? = some (some (.int n)) := by
      rw [List.getElem?_set_ne (by decide), List.getElem?_set_ne (by decide)]; exact s1
    have t2 : ((σ.set 6 none).set 6 (some (.int (k : Int))))[2]? = some (some (.int (K : Int))) := by
      rw [List.getElem?_set_ne (by decide), List.getElem?_set_ne (by decide)]; exact s2
    have t3 : ((σ.set 6 none).set 6 (some (.int (k : Int))))[3]? = some (some (.int o)) := by
      rw [List.getElem?_set_ne (by decide), List.getElem?_set_ne (by decide)]; exact s3
    have t6 : ((σ.set 6 none).set 6 (some (.int (k : Int))))[6]? = some (some (.int (k : Int))) := by
      rw [List.getElem?_set_self (by simpa using h6)]
    rw [compG_nm, wipe_cons, wipe_nil]
    generalize (σ.set 6 none).set 6 (some (.int (k : Int))) = σ' at t1 t2 t3 t6
    have ob : -big < o ∧ o < big := by rw [bigv]; omega
    have e1 := choose_at ob.1 ob.2 (by omega : k ≤ 60) st
    have e2 := choose_at h0 h1 (by omega : K - k ≤ 60) st
    rw [show ((K - k : Nat) : Int) = (K : Int) - (k : Int) by omega] at e2
    have m1 : mulOk (bz k o) (bz (K - k) n) = true := mul_ok 30200 30200 (bz_bits (small_le (small_of ob.1 ob.2) (by decide)) (by omega)) (bz_bits (small_le (small_of h0 h1) (by decide)) (by omega)) (by decide) (by decide) (by decide)
    rw [e1__law_choices_right]
    simp -implicitDefEqProofs only [exs_nil, exs_cons, ex_pass, ex_brk, ex_cnt, ex_doc, ex_expr, ex_ret, ex_retN, ex_asg, ex_par, ex_setI, ex_aug, ex_ite, ex_whl, ex_for, ex_raise, ex_try,
    ev_con, ev_glob, ev_var, ev_bin, ev_un, ev_cmp, ev_chain, ev_and, ev_or, ev_not, ev_ife, ev_tup, ev_lst, ev_sub, ev_slice, ev_rev, ev_dct0, ev_call, ev_blt, ev_isi, ev_mth, ev_comp, ev_fz, evs_nil, evs_cons, evi_val, evi_range, evo_no, evo_var, evo_con, evo_bin, evo_un, evoK_int, slice_lst, slice_tup, compG_nm, compG_tp, compO_some, compB, noR_ok, wipe_nil, wipe_cons, evt_eq,
    bnd_ok, bnd_raise, andS_ok, andS_raise, seq_nx, seq_ret, seq_raise, seq_brk, seq_cnt, ofO_some, nxO_some, nxS_some, try_raise, try_ret, try_nx, asgT_nm, asgT_tp, setAll_nil, setAll_cons,
    tru_bl, tru_int, tru_non, tru_lst, tru_tup, add_int, sub_int, mul_int, fdiv_int, mod_int, neg_int, lt_int, le_int, gt_int, ge_int, eq_int, ne_int, eq_str, ne_str, is_bl, isnot_bl, abs_int, int_int, int_bl, bool_bl, max_int, min_int, gcd_int, len_lst, len_tup, tuple_lst, sub_lst, sub_tup, items_lst, items_tup, add_lst, add_tup, add_str, rev_lst, newLst_f, newLst_t, end_nx,
    List.map_cons, List.map_nil, List.length_cons, List.length_nil, List.replicate_succ, List.replicate_zero, List.cons_append, List.nil_append, List.append_nil, List.getElem?_cons_zero, List.getElem?_cons_succ, List.set_cons_zero, List.set_cons_succ, List.reverse_cons, List.reverse_nil, Option.map_some, Option.map_none,
    if_true, if_false, Bool.false_eq_true, Bool.not_true, Bool.not_false, decide_true, decide_false, Bool.and_true, Bool.true_and, Bool.false_and, Bool.and_false, Bool.or_true, Bool.true_or, Bool.or_false, Bool.false_or, Nat.zero_add, Nat.reduceAdd, reduceCtorEq, reduceIte, t1, t2, t3, t6, e1, e2, m1]
theorem choices_right {k r : Nat} {st : Store} (h : Urn k r st) (hk : k + 10 < 2 ^ 60) :
    ∃ st', sm__law_choices_right [.ref r] st = .ok (.bl true) st' ∧ Urn (k + 5) r st' ∧ st'.length = st.length := by
  obtain ⟨v, st1, e1, v0, v1, u1, l1⟩ := long_at h (by omega)
  obtain ⟨mm, st2, e2, mm0, mm1, u2, l2⟩ := take_at u1 (by omega) (t := 12) (by decide) (Nat.lt_of_lt_of_le (m := 2 ^ 10) (by decide) (Nat.pow_le_pow_right (by decide) (by decide)))
  obtain ⟨o9, st3, e3, o90, o91, u3, l3⟩ := take_at u2 (by omega) (t := 9) (by decide) (Nat.lt_of_lt_of_le (m := 2 ^ 10) (by decide) (Nat.pow_le_pow_right (by decide) (by decide)))
  obtain ⟨K, rfl⟩ := Int.eq_ofNat_of_zero_le mm0
  obtain ⟨x, st4, e4, hx, u4, l4⟩ := some_at u3 (by omega) [.int v, .int v, .int (10 ^ 60 - 1), .int (1 - 10 ^ 60), .int (K : Int), .int ((K : Int) - 1), .int 0] (by simp) (by simp) (by simp [noRef])
  obtain ⟨n, rfl, n0, n1⟩ : ∃ n : Int, x = .int n ∧ -big < n ∧ n < big := by
    rw [p59v] at v0 v1
    rw [p60v] at hx
    simp only [List.mem_cons, List.mem_nil_iff, or_false] at hx
    rw [bigv]
    rcases hx with rfl | rfl | rfl | rfl | rfl | rfl | rfl <;> exact ⟨_, rfl, by omega, by omega⟩
  refine ⟨st4, ?_, u4, by omega⟩
  have hK : K ≤ 11 := by omega
  obtain ⟨o, ho⟩ : ∃ o, o9 - 4 = o := ⟨_, rfl⟩
  have ob : -5 < o ∧ o < 5 := by omega
  have c1 := choose_at n0 n1 (by omega : K ≤ 60) st4
  have c2 := binomial_at n0 n1 (by omega : K ≤ 60) st4
  have c3 := choose_at n0 n1 (by omega : 0 ≤ 60) st4
  rw [bz_zero, show ((0 : Nat) : Int) = 0 from rfl] at c3
  have hz3 : szOk 3 = true := by decide
  have hz7 : szOk 7 = true := by decide
  have hr : rangeD [.int ((K : Int) + 1)] = some ((List.range (K + 1)).map fun (j : Nat) => D.int (0 + (j : Int))) := range_k (k := K + 1) (by omega)
  have hp := parts_run n0 n1 ob (by omega : K ≤ 50) [some (.ref r), some (.int n), some (.int (K : Int)), some (.int o), some (.int (bz K n)), none, none] rfl rfl rfl (by simp) st4
  have hlst : intsOf ((List.range (K + 1)).map fun j => D.int (bz j o * bz (K - j) n)) = some ((List.range (K + 1)).map fun j => bz j o * bz (K - j) n) := intsOf_map _ _
  have hsum : ((List.range (K + 1)).map fun j => bz j o * bz (K - j) n).sum = bz K (o + n) := by rw [sum_conv, vander]
  have q2 : divOk 2 = true := by decide
  have q3 : ((K : Int)).fdiv 2 = ((K / 2 : Nat) : Int) := by
    rw [Int.fdiv_eq_ediv_of_nonneg _ (by omega)]; rfl
  have q4 : mulOk ((K / 2 : Nat) : Int) 2 = true := mul_ok 20 20 (by rw [Int.natAbs_natCast]; omega) (by omega) (by decide) (by decide) (by decide)
  rw [sm__law_choices_right, callD_eq xm 1 6 _ [.ref r] _ rfl, b__law_choices_right]
  by_cases hs : (n.natAbs : Int) < 10 ^ 59
  · have hs' := hs
    rw [p59v] at hs'
    have a0 : -big < n + 1 ∧ n + 1 < big := by rw [bigv]; omega
    have a1 : -big < (K : Int) - n - 1 ∧ (K : Int) - n - 1 < big := by rw [bigv]; omega
    have a2 : -big < n + o ∧ n + o < big := by rw [bigv]; omega
    have d1 : sm_choose [.int (n + 1), .int ((K : Int) + 1)] st4 = _ := choose_at a0.1 a0.2 (by omega : K + 1 ≤ 60) st4
    have d2 : sm_choose [.int n, .int ((K : Int) + 1)] st4 = _ := choose_at n0 n1 (by omega : K + 1 ≤ 60) st4
    have d3 := choose_at a1.1 a1.2 (by omega : K ≤ 60) st4
    have d4 := choose_at a2.1 a2.2 (by omega : K ≤ 60) st4
    have f1 : bz (K + 1) (n + 1) = bz K n + bz (K + 1) n := by rw [pascal]; omega
    have f2 : n + o = o + n := by omega
    rw [f2] at d4
    have hns : ¬ (10 : Int) ^ 59 ≤ (n.natAbs : Int) := by omega
    have m2 : mulOk (bz K ((K : Int) - n - 1)) (sg K) = true := by
      rw [← sg_even]
      refine mul_ok 30200 1 (bz_bits (small_le (small_of a1.1 a1.2) (by decide)) (by omega)) ?_ (by decide) (by decide) (by decide)
      split <;> decide
    have f3 := bz_neg K n
    have f4 := sg_even K
    have fin : ∀ d : D, noRef d = true → endO st (OutS.ret d st4) = .ok d st4 := fun d hd => by rw [end_ret hd, closeSt_len (by omega)]
    by_cases hq : ((K : Int) == ((K / 2 : Nat) : Int) * 2) = true
    · rw [if_pos hq] at f4
      rw [← f4] at f3 m2
      simp -implicitDefEqProofs only [exs_nil, exs_cons, ex_pass, ex_brk, ex_cnt, ex_doc, ex_expr, ex_ret, ex_retN, ex_asg, ex_par, ex_setI, ex_aug, ex_ite, ex_whl, ex_for, ex_raise, ex_try,
    ev_con, ev_glob, ev_var, ev_bin, ev_un, ev_cmp, ev_chain, ev_and, ev_or, ev_not, ev_ife, ev_tup, ev_lst, ev_sub, ev_slice, ev_rev, ev_dct0, ev_call, ev_blt, ev_isi, ev_mth, ev_comp, ev_fz, evs_nil, evs_cons, evi_val, evi_range, evo_no, evo_var, evo_con, evo_bin, evo_un, evoK_int, slice_lst, slice_tup, compG_nm, compG_tp, compO_some, compB, noR_ok, wipe_nil, wipe_cons, evt_eq,
    bnd_ok, bnd_raise, andS_ok, andS_raise, seq_nx, seq_ret, seq_raise, seq_brk, seq_cnt, ofO_some, nxO_some, nxS_some, try_raise, try_ret, try_nx, asgT_nm, asgT_tp, setAll_nil, setAll_cons,
    tru_bl, tru_int, tru_non, tru_lst, tru_tup, add_int, sub_int, mul_int, fdiv_int, mod_int, neg_int, lt_int, le_int, gt_int, ge_int, eq_int, ne_int, eq_str, ne_str, is_bl, isnot_bl, abs_int, int_int, int_bl, bool_bl, max_int, min_int, gcd_int, len_lst, len_tup, tuple_lst, sub_lst, sub_tup, items_lst, items_tup, add_lst, add_tup, add_str, rev_lst, newLst_f, newLst_t, end_nx,
    List.map_cons, List.map_nil, List.length_cons, List.length_nil, List.replicate_succ, List.replicate_zero, List.cons_append, List.nil_append, List.append_nil, List.getElem?_cons_zero, List.getElem?_cons_succ, List.set_cons_zero, List.set_cons_succ, List.reverse_cons, List.reverse_nil, Option.map_some, Option.map_none,
    if_true, if_false, Bool.false_eq_true, Bool.not_true, Bool.not_false, decide_true, decide_false, Bool.and_true, Bool.true_and, Bool.false_and, Bool.and_false, Bool.or_true, Bool.true_or, Bool.or_false, Bool.false_or, Nat.zero_add, Nat.reduceAdd, reduceCtorEq, reduceIte, e1, e2, e3, e4, ho, hz3, hz7, c1, c2, c3, p10_60, p10_59, hs, d1, d2, d3, d4, f1, f2, q2, q3, q4, hq, m2, f3, beq_self_eq_true, hr, hp, sum_lst, hlst, hsum, hns]
      exact fin (.bl true) rfl
    · rw [if_neg hq] at f4
      rw [← f4] at f3 m2
      simp -implicitDefEqProofs only [exs_nil, exs_cons, ex_pass, ex_brk, ex_cnt, ex_doc, ex_expr, ex_ret, ex_retN, ex_asg, ex_par, ex_setI, ex_aug, ex_ite, ex_whl, ex_for, ex_raise, ex_try,
    ev_con, ev_glob, ev_var, ev_bin, ev_un, ev_cmp, ev_chain, ev_and, ev_or, ev_not, ev_ife, ev_tup, ev_lst, ev_sub, ev_slice, ev_rev, ev_dct0, ev_call, ev_blt, ev_isi, ev_mth, ev_comp, ev_fz, evs_nil, evs_cons, evi_val, evi_range, evo_no, evo_var, evo_con, evo_bin, evo_un, evoK_int, slice_lst, slice_tup, compG_nm, compG_tp, compO_some, compB, noR_ok, wipe_nil, wipe_cons, evt_eq,
    bnd_ok, bnd_raise, andS_ok, andS_raise, seq_nx, seq_ret, seq_raise, seq_brk, seq_cnt, ofO_some, nxO_some, nxS_some, try_raise, try_ret, try_nx, asgT_nm, asgT_tp, setAll_nil, setAll_cons,
    tru_bl, tru_int, tru_non, tru_lst, tru_tup, add_int, sub_int, mul_int, fdiv_int, mod_int, neg_int, lt_int, le_int, gt_int, ge_int, eq_int, ne_int, eq_str, ne_str, is_bl, isnot_bl, abs_int, int_int, int_bl, bool_bl, max_int, min_int, gcd_int, len_lst, len_tup, tuple_lst, sub_lst, sub_tup, items_lst, items_tup, add_lst, add_tup, add_str, rev_lst, newLst_f, newLst_t, end_nx,
    List.map_cons, List.map_nil, List.length_cons, List.length_nil, List.replicate_succ, List.replicate_zero, List.cons_append, List.nil_append, List.append_nil, List.getElem?_cons_zero, List.getElem?_cons_succ, List.set_cons_zero, List.set_cons_succ, List.reverse_cons, List.reverse_nil, Option.map_some, Option.map_none,
    if_true, if_false, Bool.false_eq_true, Bool.not_true, Bool.not_false, decide_true, decide_false, Bool.and_true, Bool.true_and, Bool.false_and, Bool.and_false, Bool.or_true, Bool.true_or, Bool.or_false, Bool.false_or, Nat.zero_add, Nat.reduceAdd, reduceCtorEq, reduceIte, e1, e2, e3, e4, ho, hz3, hz7, c1, c2, c3, p10_60, p10_59, hs, d1, d2, d3, d4, f1, f2, q2, q3, q4, hq, m2, f3, beq_self_eq_true, hr, hp, sum_lst, hlst, hsum, hns, Int.reduceNeg]
      exact fin (.bl true) rfl
  · have hns : (10 : Int) ^ 59 ≤ (n.natAbs : Int) := by omega
    simp -implicitDefEqProofs only [exs_nil, exs_cons, ex_pass, ex_brk, ex_cnt, ex_doc, ex_expr, ex_ret, ex_retN, ex_asg, ex_par, ex_setI, ex_aug, ex_ite, ex_whl, ex_for, ex_raise, ex_try,
    ev_con, ev_glob, ev_var, ev_bin, ev_un, ev_cmp, ev_chain, ev_and, ev_or, ev_not, ev_ife, ev_tup, ev_lst, ev_sub, ev_slice, ev_rev, ev_dct0, ev_call, ev_blt, ev_isi, ev_mth, ev_comp, ev_fz, evs_nil, evs_cons, evi_val, evi_range, evo_no, evo_var, evo_con, evo_bin, evo_un, evoK_int, slice_lst, slice_tup, compG_nm, compG_tp, compO_some, compB, noR_ok, wipe_nil, wipe_cons, evt_eq,
    bnd_ok, bnd_raise, andS_ok, andS_raise, seq_nx, seq_ret, seq_raise, seq_brk, seq_cnt, ofO_some, nxO_some, nxS_some, try_raise, try_ret, try_nx, asgT_nm, asgT_tp, setAll_nil, setAll_cons,
    tru_bl, tru_int, tru_non, tru_lst, tru_tup, add_int, sub_int, mul_int, fdiv_int, mod_int, neg_int, lt_int, le_int, gt_int, ge_int, eq_int, ne_int, eq_str, ne_str, is_bl, isnot_bl, abs_int, int_int, int_bl, bool_bl, max_int, min_int, gcd_int, len_lst, len_tup, tuple_lst, sub_lst, sub_tup, items_lst, items_tup, add_lst, add_tup, add_str, rev_lst, newLst_f, newLst_t, end_nx,
    List.map_cons, List.map_nil, List.length_cons, List.length_nil, List.replicate_succ, List.replicate_zero, List.cons_append, List.nil_append, List.append_nil, List.getElem?_cons_zero, List.getElem?_cons_succ, List.set_cons_zero, List.set_cons_succ, List.reverse_cons, List.reverse_nil, Option.map_some, Option.map_none,
    if_true, if_false, Bool.false_eq_true, Bool.not_true, Bool.not_false, decide_true, decide_false, Bool.and_true, Bool.true_and, Bool.false_and, Bool.and_false, Bool.or_true, Bool.true_or, Bool.or_false, Bool.false_or, Nat.zero_add, Nat.reduceAdd, reduceCtorEq, reduceIte, e1, e2, e3, e4, ho, hz3, hz7, c1, c2, c3, p10_60, p10_59, hs, q2, q3, q4, beq_self_eq_true, hr, hp, sum_lst, hlst, hsum, hns]
    rw [end_ret rfl, closeSt_len (by omega)]
end L01
set_option Elab.async false
set_option linter.all false
set_option maxRecDepth 100000
set_option maxHeartbeats 2000000
namespace L01
open Ip
open PySem (Str)
theorem few {t : Int} (h : t.natAbs < 2 ^ 20) : t.natAbs < 2 ^ 8999 := Nat.lt_of_lt_of_le h (Nat.pow_le_pow_right (by decide) (by decide))
theorem p6v : (10 : Int) ^ 6 = 1000000 := by decide
theorem eq_dl : ∀ xs : List Nat, eqDs (dl xs) (dl xs) = true
  | [] => rfl
  | x :: xs => by
    show (eqD (.int (x : Int)) (.int (x : Int)) && eqDs (dl xs) (dl xs)) = true
    rw [eq_dl xs, eqD, beq_self_eq_true]; rfl
theorem pure_dl (n : Nat) : ∀ xs : List Nat, pureDs n (dl xs) = true
  | [] => by rw [show dl [] = [] from rfl, pureDs]
  | x :: xs => by
    show pureDs n (.int (x : Int) :: dl xs) = true
    rw [pureDs, pure_dl n xs, pureD]; rfl
theorem ne_dl (st : Store) (xs : List Nat) : cmpD .ne st (.tup (dl xs)) (.tup (dl xs)) = some false := by
  simp only [cmpD, pureD, pure_dl, eqD, eq_dl, Bool.and_self, if_true, Bool.not_true]
theorem divisors_right {k r : Nat} {st : Store} (h : Urn k r st) (hk : k + 20 < 2 ^ 60) :
    ∃ st', sm__law_divisors_right [.ref r] st = .ok (.bl true) st' ∧ Urn (k + 10) r st' ∧ st'.length = st.length := by
  obtain ⟨a1, st1, e1, a10, a11, u1, l1⟩ := take_at h (by omega) (t := 60) (by decide) (few (by decide))
  obtain ⟨a2, st2, e2, a20, a21, u2, l2⟩ := take_at u1 (by omega) (t := 60) (by decide) (few (by decide))
  obtain ⟨a3, st3, e3, a30, a31, u3, l3⟩ := take_at u2 (by omega) (t := 900) (by decide) (few (by decide))
  obtain ⟨x, st4, e4, hx, u4, l4⟩ := some_at u3 (by omega) [.int a1, .int (a2 * 12 + 11), .int a3] (by simp) (by simp) (by simp [noRef])
  obtain ⟨s, rfl, s0, s1⟩ : ∃ s : Int, x = .int s ∧ 0 ≤ s ∧ s < 900 := by
    simp only [List.mem_cons, List.mem_nil_iff, or_false] at hx
    rcases hx with rfl | rfl | rfl <;> exact ⟨_, rfl, by omega, by omega⟩
  obtain ⟨y, st5, e5, hy, u5, l5⟩ := some_at u4 (by omega) [.int (1 + s), .int ((1 + s) * (1 + s)), .int (10 ^ 6)] (by simp) (by simp) (by simp [noRef])
  obtain ⟨b, rfl, b0⟩ : ∃ b : Int, y = .int b ∧ 1 ≤ b := by
    simp only [List.mem_cons, List.mem_nil_iff, or_false] at hy
    rcases hy with rfl | rfl | rfl
    · exact ⟨_, rfl, by omega⟩
    · refine ⟨_, rfl, ?_⟩
      have : 1 * 1 ≤ (1 + s) * (1 + s) := Int.mul_le_mul (by omega) (by omega) (by omega) (by omega)
      omega
    · exact ⟨_, rfl, by decide⟩
  obtain ⟨N, hN⟩ : ∃ N : Nat, min b (10 ^ 6) = (N : Int) := ⟨(min b (10 ^ 6)).toNat, by rw [p6v]; omega⟩
  have N0 : 1 ≤ N := by rw [p6v] at hN; omega
  have N1 : N ≤ 1000000 := by rw [p6v] at hN; omega
  have dv := divisors_at N0 N1 u5.calm
  obtain ⟨one, st6, e6, o0, o1, u6, l6⟩ := long_at u5 (by omega)
  obtain ⟨w, st7, e7, w0, w1, u7, l7⟩ := long_at u6 (by omega)
  obtain ⟨z, st8, e8, hz, u8, l8⟩ := some_at u7 (by omega) [.int 0, .int (N : Int), .int w] (by simp) (by simp) (by simp [noRef])
  rw [p59v] at o0 o1 w0 w1
  obtain ⟨v, rfl, v0, v1⟩ : ∃ v : Int, z = .int v ∧ -big < v ∧ v < big := by
    simp only [List.mem_cons, List.mem_nil_iff, or_false] at hz
    rw [bigv]
    rcases hz with rfl | rfl | rfl <;> exact ⟨_, rfl, by omega, by omega⟩
  have q0 : -big < one ∧ one < big := by rw [bigv]; omega
  have g1 := gcd_at q0.1 q0.2 v0 v1 st8
  have g2 := gcd_at v0 v1 q0.1 q0.2 st8
  have g3 := gcd_at q0.1 q0.2 (b := 0) (by decide) (by decide) st8
  have g4 := shared_at (a := one) (b := v) (small_le (small_of v0 v1) (by decide)) st8
  rw [Nat.gcd_comm] at g2
  rw [show Nat.gcd one.natAbs (0 : Int).natAbs = one.natAbs by simp] at g3
  have q1 : -big < 0 - one ∧ 0 - one < big := by rw [bigv]; omega
  refine ⟨st8, ?_, u8.mono (by omega), by omega⟩
  have hz3 : szOk 3 = true := by decide
  have m1 : mulOk a2 12 = true := mul_ok 20 20 (by omega) (by omega) (by decide) (by decide) (by decide)
  have m2 : mulOk (1 + s) (1 + s) = true := mul_ok 20 20 (by omega) (by omega) (by decide) (by decide) (by decide)
  have hr : rangeD [.int 1, .int 1001] = some ((List.range 1000).map fun (k : Nat) => D.int (1 + (k : Int))) := by
    simp only [rangeD]
    rw [if_pos (by decide)]; rfl
  have lo := low_run N1 [some (.ref r), some (.int (1 + s)), some (.int (N : Int)), none, none, none, none, none, none] rfl (by simp) st5
  have hi := high_run N1 [some (.ref r), some (.int (1 + s)), some (.int (N : Int)), some (.lst (dl (low N))), none, none, none, none, none] rfl (by simp) st5
  have hzl : szOk ((dl (low N)).length + (dl (high N)).length) = true := by
    have h1 : (low N).length ≤ 1000 := by
      unfold low
      refine Nat.le_trans (List.length_filter_le _ _) (by simp)
    have h2 : (high N).length ≤ (low N).length := by
      unfold high
      rw [List.length_map]
      exact Nat.le_trans (List.length_filter_le _ _) (by simp)
    exact decide_eq_true (by rw [dl_len, dl_len]; omega)
  have hne : cmpD .ne st5 (.tup (dl (low N ++ high N))) (.tup (dl (low N ++ high N))) = some false := ne_dl _ _
  have fin : ∀ d : D, noRef d = true → endO st (OutS.ret d st8) = .ok d st8 := fun d hd => by rw [end_ret hd, closeSt_len (by omega)]
  rw [sm__law_divisors_right, callD_eq xm 1 8 _ [.ref r] _ rfl, b__law_divisors_right]
  by_cases hs : (one.natAbs : Int) < 10 ^ 59
  · have hs' := hs
    rw [p59v] at hs'
    have q2 : -big < one * 7 ∧ one * 7 < big := by rw [bigv]; omega
    have g5 := gcd_at q2.1 q2.2 q1.1 q1.2 st8
    have e : Nat.gcd (one * 7).natAbs (0 - one).natAbs = one.natAbs := by
      rw [Int.natAbs_mul, Int.zero_sub, Int.natAbs_neg, Nat.gcd_comm]
      exact Nat.gcd_eq_left (Nat.dvd_mul_right _ _)
    rw [e] at g5
    have m3 : mulOk one 7 = true := mul_ok 200 20 (small_of q0.1 q0.2) (by omega) (by decide) (by decide) (by decide)
    simp -implicitDefEqProofs only [exs_nil, exs_cons, ex_pass, ex_brk, ex_cnt, ex_doc, ex_expr, ex_ret, ex_retN, ex_asg, ex_par, ex_setI, ex_aug, ex_ite, ex_whl, ex_for, ex_raise, ex_try,
    ev_con, ev_glob, ev_var, ev_bin, ev_un, ev_cmp, ev_chain, ev_and, ev_or, ev_not, ev_ife, ev_tup, ev_lst, ev_sub, ev_slice, ev_rev, ev_dct0, ev_call, ev_blt, ev_isi, ev_mth, ev_comp, ev_fz, evs_nil, evs_cons, evi_val, evi_range, evo_no, evo_var, evo_con, evo_bin, evo_un, evoK_int, slice_lst, slice_tup, compG_nm, compG_tp, compO_some, compB, noR_ok, wipe_nil, wipe_cons, evt_eq,
    bnd_ok, bnd_raise, andS_ok, andS_raise, seq_nx, seq_ret, seq_raise, seq_brk, seq_cnt, ofO_some, nxO_some, nxS_some, try_raise, try_ret, try_nx, asgT_nm, asgT_tp, setAll_nil, setAll_cons,
    tru_bl, tru_int, tru_non, tru_lst, tru_tup, add_int, sub_int, mul_int, fdiv_int, mod_int, neg_int, lt_int, le_int, gt_int, ge_int, eq_int, ne_int, eq_str, ne_str, is_bl, isnot_bl, abs_int, int_int, int_bl, bool_bl, max_int, min_int, gcd_int, len_lst, len_tup, tuple_lst, sub_lst, sub_tup, items_lst, items_tup, add_lst, add_tup, add_str, rev_lst, newLst_f, newLst_t, end_nx,
    List.map_cons, List.map_nil, List.length_cons, List.length_nil, List.replicate_succ, List.replicate_zero, List.cons_append, List.nil_append, List.append_nil, List.getElem?_cons_zero, List.getElem?_cons_succ, List.set_cons_zero, List.set_cons_succ, List.reverse_cons, List.reverse_nil, Option.map_some, Option.map_none,
    if_true, if_false, Bool.false_eq_true, Bool.not_true, Bool.not_false, decide_true, decide_false, Bool.and_true, Bool.true_and, Bool.false_and, Bool.and_false, Bool.or_true, Bool.true_or, Bool.or_false, Bool.false_or, Nat.zero_add, Nat.reduceAdd, reduceCtorEq, reduceIte, e1, e2, e3, e4, e5, e6, e7, e8, m1, m2, hz3, hN, p10_6, p10_59, hr, lo, hi, dv, hzl, ← dl_app, hne, g1, g2, g3, g4, g5, hs, m3, beq_self_eq_true]
    exact fin (.bl true) rfl
  · have g5 := gcd_at q0.1 q0.2 q1.1 q1.2 st8
    have e : Nat.gcd one.natAbs (0 - one).natAbs = one.natAbs := by
      rw [Int.zero_sub, Int.natAbs_neg]; simp
    rw [e] at g5
    simp -implicitDefEqProofs only [exs_nil, exs_cons, ex_pass, ex_brk, ex_cnt, ex_doc, ex_expr, ex_ret, ex_retN, ex_asg, ex_par, ex_setI, ex_aug, ex_ite, ex_whl, ex_for, ex_raise, ex_try,
    ev_con, ev_glob, ev_var, ev_bin, ev_un, ev_cmp, ev_chain, ev_and, ev_or, ev_not, ev_ife, ev_tup, ev_lst, ev_sub, ev_slice, ev_rev, ev_dct0, ev_call, ev_blt, ev_isi, ev_mth, ev_comp, ev_fz, evs_nil, evs_cons, evi_val, evi_range, evo_no, evo_var, evo_con, evo_bin, evo_un, evoK_int, slice_lst, slice_tup, compG_nm, compG_tp, compO_some, compB, noR_ok, wipe_nil, wipe_cons, evt_eq,
    bnd_ok, bnd_raise, andS_ok, andS_raise, seq_nx, seq_ret, seq_raise, seq_brk, seq_cnt, ofO_some, nxO_some, nxS_some, try_raise, try_ret, try_nx, asgT_nm, asgT_tp, setAll_nil, setAll_cons,
    tru_bl, tru_int, tru_non, tru_lst, tru_tup, add_int, sub_int, mul_int, fdiv_int, mod_int, neg_int, lt_int, le_int, gt_int, ge_int, eq_int, ne_int, eq_str, ne_str, is_bl, isnot_bl, abs_int, int_int, int_bl, bool_bl, max_int, min_int, gcd_int, len_lst, len_tup, tuple_lst, sub_lst, sub_tup, items_lst, items_tup, add_lst, add_tup, add_str, rev_lst, newLst_f, newLst_t, end_nx,
    List.map_cons, List.map_nil, List.length_cons, List.length_nil, List.replicate_succ, List.replicate_zero, List.cons_append, List.nil_append, List.append_nil, List.getElem?_cons_zero, List.getElem?_cons_succ, List.set_cons_zero, List.set_cons_succ, List.reverse_cons, List.reverse_nil, Option.map_some, Option.map_none,
    if_true, if_false, Bool.false_eq_true, Bool.not_true, Bool.not_false, decide_true, decide_false, Bool.and_true, Bool.true_and, Bool.false_and, Bool.and_false, Bool.or_true, Bool.true_or, Bool.or_false, Bool.false_or, Nat.zero_add, Nat.reduceAdd, reduceCtorEq, reduceIte, e1, e2, e3, e4, e5, e6, e7, e8, m1, m2, hz3, hN, p10_6, p10_59, hr, lo, hi, dv, hzl, ← dl_app, hne, g1, g2, g3, g4, g5, hs, beq_self_eq_true]
    exact fin (.bl true) rfl
end L01
set_option Elab.async false
set_option linter.all false
set_option maxRecDepth 100000
set_option maxHeartbeats 2000000
namespace L01
open Ip
open PySem (Str)
/-! ### what is refused -/
structure Told (x : D) : Prop extends Shown x where
  rep : (reprD (.lst [x])).isSome = true
  dep2 : depthD (.lst [x]) ≤ 60
theorem handled {x : D} {σ : EnvD} (h : 3 < σ.length) (st : Store) : handle xm ⟨0, [x]⟩ σ st [⟨0, some 3, .lst (.cons .fld .nil)⟩] = .ret (.lst [x]) st := by
  have hz : szOk [x].length = true := rfl
  simp only [handle, xm, evh, evhs, hz, if_true, Option.all_some, decide_eq_true h]
theorem refused_at {x : D} (hx : noRef x = true) (st : Store) : endO st (.ret (.lst [x]) st) = .ok (.lst [x]) st := by
  rw [end_ret (by simp [noRef, noRefs, hx]), closeSt_me]
theorem refused0 {x y : D} (hx : Told x) (h : isInt x = false) (st : Store) : sm__law_refused [.int 0, x, y] st = .ok (.lst [x]) st := by
  have e := choose_bad1 (y := y) hx.toShown h st
  rw [sm__law_refused, callD_eq xm 3 1 _ [.int 0, x, y] _ rfl, b__law_refused]
  simp -implicitDefEqProofs only [exs_nil, exs_cons, ex_pass, ex_brk, ex_cnt, ex_doc, ex_expr, ex_ret, ex_retN, ex_asg, ex_par, ex_setI, ex_aug, ex_ite, ex_whl, ex_for, ex_raise, ex_try,
    ev_con, ev_glob, ev_var, ev_bin, ev_un, ev_cmp, ev_chain, ev_and, ev_or, ev_not, ev_ife, ev_tup, ev_lst, ev_sub, ev_slice, ev_rev, ev_dct0, ev_call, ev_blt, ev_isi, ev_mth, ev_comp, ev_fz, evs_nil, evs_cons, evi_val, evi_range, evo_no, evo_var, evo_con, evo_bin, evo_un, evoK_int, slice_lst, slice_tup, compG_nm, compG_tp, compO_some, compB, noR_ok, wipe_nil, wipe_cons, evt_eq,
    bnd_ok, bnd_raise, andS_ok, andS_raise, seq_nx, seq_ret, seq_raise, seq_brk, seq_cnt, ofO_some, nxO_some, nxS_some, try_raise, try_ret, try_nx, asgT_nm, asgT_tp, setAll_nil, setAll_cons,
    tru_bl, tru_int, tru_non, tru_lst, tru_tup, add_int, sub_int, mul_int, fdiv_int, mod_int, neg_int, lt_int, le_int, gt_int, ge_int, eq_int, ne_int, eq_str, ne_str, is_bl, isnot_bl, abs_int, int_int, int_bl, bool_bl, max_int, min_int, gcd_int, len_lst, len_tup, tuple_lst, sub_lst, sub_tup, items_lst, items_tup, add_lst, add_tup, add_str, rev_lst, newLst_f, newLst_t, end_nx,
    List.map_cons, List.map_nil, List.length_cons, List.length_nil, List.replicate_succ, List.replicate_zero, List.cons_append, List.nil_append, List.append_nil, List.getElem?_cons_zero, List.getElem?_cons_succ, List.set_cons_zero, List.set_cons_succ, List.reverse_cons, List.reverse_nil, Option.map_some, Option.map_none,
    if_true, if_false, Bool.false_eq_true, Bool.not_true, Bool.not_false, decide_true, decide_false, Bool.and_true, Bool.true_and, Bool.false_and, Bool.and_false, Bool.or_true, Bool.true_or, Bool.or_false, Bool.false_or, Nat.zero_add, Nat.reduceAdd, reduceCtorEq, reduceIte, beq_self_eq_true, e, handled (show 3 < [some (D.int 0), some x, some y, none].length by simp)]
  exact refused_at hx.pure st
theorem refused1 {x y : D} (hx : Told x) (h : within x 0 60 = false) (hy : Shown y) (h2 : isInt y = true) (st : Store) : sm__law_refused [.int 1, x, y] st = .ok (.lst [x]) st := by
  have e := choose_bad2 hy h2 hx.toShown h st
  have e10 : ((1 : Int) == 0) = false := by decide
  rw [sm__law_refused, callD_eq xm 3 1 _ [.int 1, x, y] _ rfl, b__law_refused]
  simp -implicitDefEqProofs only [exs_nil, exs_cons, ex_pass, ex_brk, ex_cnt, ex_doc, ex_expr, ex_ret, ex_retN, ex_asg, ex_par, ex_setI, ex_aug, ex_ite, ex_whl, ex_for, ex_raise, ex_try,
    ev_con, ev_glob, ev_var, ev_bin, ev_un, ev_cmp, ev_chain, ev_and, ev_or, ev_not, ev_ife, ev_tup, ev_lst, ev_sub, ev_slice, ev_rev, ev_dct0, ev_call, ev_blt, ev_isi, ev_mth, ev_comp, ev_fz, evs_nil, evs_cons, evi_val, evi_range, evo_no, evo_var, evo_con, evo_bin, evo_un, evoK_int, slice_lst, slice_tup, compG_nm, compG_tp, compO_some, compB, noR_ok, wipe_nil, wipe_cons, evt_eq,
    bnd_ok, bnd_raise, andS_ok, andS_raise, seq_nx, seq_ret, seq_raise, seq_brk, seq_cnt, ofO_some, nxO_some, nxS_some, try_raise, try_ret, try_nx, asgT_nm, asgT_tp, setAll_nil, setAll_cons,
    tru_bl, tru_int, tru_non, tru_lst, tru_tup, add_int, sub_int, mul_int, fdiv_int, mod_int, neg_int, lt_int, le_int, gt_int, ge_int, eq_int, ne_int, eq_str, ne_str, is_bl, isnot_bl, abs_int, int_int, int_bl, bool_bl, max_int, min_int, gcd_int, len_lst, len_tup, tuple_lst, sub_lst, sub_tup, items_lst, items_tup, add_lst, add_tup, add_str, rev_lst, newLst_f, newLst_t, end_nx,
    List.map_cons, List.map_nil, List.length_cons, List.length_nil, List.replicate_succ, List.replicate_zero, List.cons_append, List.nil_append, List.append_nil, List.getElem?_cons_zero, List.getElem?_cons_succ, List.set_cons_zero, List.set_cons_succ, List.reverse_cons, List.reverse_nil, Option.map_some, Option.map_none,
    if_true, if_false, Bool.false_eq_true, Bool.not_true, Bool.not_false, decide_true, decide_false, Bool.and_true, Bool.true_and, Bool.false_and, Bool.and_false, Bool.or_true, Bool.true_or, Bool.or_false, Bool.false_or, Nat.zero_add, Nat.reduceAdd, reduceCtorEq, reduceIte, beq_self_eq_true, e10, e, handled (show 3 < [some (D.int 1), some x, some y, none].length by simp)]
  exact refused_at hx.pure st
theorem refused2 {x y : D} (hx : Told x) (h : isInt x = false) (st : Store) : sm__law_refused [.int 2, x, y] st = .ok (.lst [x]) st := by
  have e := gcd_bad1 (y := y) hx.toShown h st
  have e10 : ((2 : Int) == 0) = false := by decide
  have e11 : ((2 : Int) == 1) = false := by decide
  rw [sm__law_refused, callD_eq xm 3 1 _ [.int 2, x, y] _ rfl, b__law_refused]
  simp -implicitDefEqProofs only [exs_nil, exs_cons, ex_pass, ex_brk, ex_cnt, ex_doc, ex_expr, ex_ret, ex_retN, ex_asg, ex_par, ex_setI, ex_aug, ex_ite, ex_whl, ex_for, ex_raise, ex_try,
    ev_con, ev_glob, ev_var, ev_bin, ev_un, ev_cmp, ev_chain, ev_and, ev_or, ev_not, ev_ife, ev_tup, ev_lst, ev_sub, ev_slice, ev_rev, ev_dct0, ev_call, ev_blt, ev_isi, ev_mth, ev_comp, ev_fz, evs_nil, evs_cons, evi_val, evi_range, evo_no, evo_var, evo_con, evo_bin, evo_un, evoK_int, slice_lst, slice_tup, compG_nm, compG_tp, compO_some, compB, noR_ok, wipe_nil, wipe_cons, evt_eq,
    bnd_ok, bnd_raise, andS_ok, andS_raise, seq_nx, seq_ret, seq_raise, seq_brk, seq_cnt, ofO_some, nxO_some, nxS_some, try_raise, try_ret, try_nx, asgT_nm, asgT_tp, setAll_nil, setAll_cons,
    tru_bl, tru_int, tru_non, tru_lst, tru_tup, add_int, sub_int, mul_int, fdiv_int, mod_int, neg_int, lt_int, le_int, gt_int, ge_int, eq_int, ne_int, eq_str, ne_str, is_bl, isnot_bl, abs_int, int_int, int_bl, bool_bl, max_int, min_int, gcd_int, len_lst, len_tup, tuple_lst, sub_lst, sub_tup, items_lst, items_tup, add_lst, add_tup, add_str, rev_lst, newLst_f, newLst_t, end_nx,
    List.map_cons, List.map_nil, List.length_cons, List.length_nil, List.replicate_succ, List.replicate_zero, List.cons_append, List.nil_append, List.append_nil, List.getElem?_cons_zero, List.getElem?_cons_succ, List.set_cons_zero, List.set_cons_succ, List.reverse_cons, List.reverse_nil, Option.map_some, Option.map_none,
    if_true, if_false, Bool.false_eq_true, Bool.not_true, Bool.not_false, decide_true, decide_false, Bool.and_true, Bool.true_and, Bool.false_and, Bool.and_false, Bool.or_true, Bool.true_or, Bool.or_false, Bool.false_or, Nat.zero_add, Nat.reduceAdd, reduceCtorEq, reduceIte, beq_self_eq_true, e10, e11, e, handled (show 3 < [some (D.int 2), some x, some y, none].length by simp)]
  exact refused_at hx.pure st
theorem refused3 {x y : D} (hx : Told x) (h : isInt x = false) (hy : Shown y) (h2 : isInt y = true) (st : Store) : sm__law_refused [.int 3, x, y] st = .ok (.lst [x]) st := by
  have e := gcd_bad2 hy h2 hx.toShown h st
  have e10 : ((3 : Int) == 0) = false := by decide
  have e11 : ((3 : Int) == 1) = false := by decide
  have e12 : ((3 : Int) == 2) = false := by decide
  rw [sm__law_refused, callD_eq xm 3 1 _ [.int 3, x, y] _ rfl, b__law_refused]
  simp -implicitDefEqProofs only [exs_nil, exs_cons, ex_pass, ex_brk, ex_cnt, ex_doc, ex_expr, ex_ret, ex_retN, ex_asg, ex_par, ex_setI, ex_aug, ex_ite, ex_whl, ex_for, ex_raise, ex_try,
    ev_con, ev_glob, ev_var, ev_bin, ev_un, ev_cmp, ev_chain, ev_and, ev_or, ev_not, ev_ife, ev_tup, ev_lst, ev_sub, ev_slice, ev_rev, ev_dct0, ev_call, ev_blt, ev_isi, ev_mth, ev_comp, ev_fz, evs_nil, evs_cons, evi_val, evi_range, evo_no, evo_var, evo_con, evo_bin, evo_un, evoK_int, slice_lst, slice_tup, compG_nm, compG_tp, compO_some, compB, noR_ok, wipe_nil, wipe_cons, evt_eq,
    bnd_ok, bnd_raise, andS_ok, andS_raise, seq_nx, seq_ret, seq_raise, seq_brk, seq_cnt, ofO_some, nxO_some, nxS_some, try_raise, try_ret, try_nx, asgT_nm, asgT_tp, setAll_nil, setAll_cons,
    tru_bl, tru_int, tru_non, tru_lst, tru_tup, add_int, sub_int, mul_int, fdiv_int, mod_int, neg_int, lt_int, le_int, gt_int, ge_int, eq_int, ne_int, eq_str, ne_str, is_bl, isnot_bl, abs_int, int_int, int_bl, bool_bl, max_int, min_int, gcd_int, len_lst, len_tup, tuple_lst, sub_lst, sub_tup, items_lst, items_tup, add_lst, add_tup, add_str, rev_lst, newLst_f, newLst_t, end_nx,
    List.map_cons, List.map_nil, List.length_cons, List.length_nil, List.replicate_succ, List.replicate_zero, List.cons_append, List.nil_append, List.append_nil, List.getElem?_cons_zero, List.getElem?_cons_succ, List.set_cons_zero, List.set_cons_succ, List.reverse_cons, List.reverse_nil, Option.map_some, Option.map_none,
    if_true, if_false, Bool.false_eq_true, Bool.not_true, Bool.not_false, decide_true, decide_false, Bool.and_true, Bool.true_and, Bool.false_and, Bool.and_false, Bool.or_true, Bool.true_or, Bool.or_false, Bool.false_or, Nat.zero_add, Nat.reduceAdd, reduceCtorEq, reduceIte, beq_self_eq_true, e10, e11, e12, e, handled (show 3 < [some (D.int 3), some x, some y, none].length by simp)]
  exact refused_at hx.pure st
theorem refused4 {x y : D} (hx : Told x) (h : within x 1 1000000 = false) (st : Store) : sm__law_refused [.int 4, x, y] st = .ok (.lst [x]) st := by
  have e := divisors_bad hx.toShown h st
  have e10 : ((4 : Int) == 0) = false := by decide
  have e11 : ((4 : Int) == 1) = false := by decide
  have e12 : ((4 : Int) == 2) = false := by decide
  have e13 : ((4 : Int) == 3) = false := by decide
  rw [sm__law_refused, callD_eq xm 3 1 _ [.int 4, x, y] _ rfl, b__law_refused]
  simp -implicitDefEqProofs only [exs_nil, exs_cons, ex_pass, ex_brk, ex_cnt, ex_doc, ex_expr, ex_ret, ex_retN, ex_asg, ex_par, ex_setI, ex_aug, ex_ite, ex_whl, ex_for, ex_raise, ex_try,
    ev_con, ev_glob, ev_var, ev_bin, ev_un, ev_cmp, ev_chain, ev_and, ev_or, ev_not, ev_ife, ev_tup, ev_lst, ev_sub, ev_slice, ev_rev, ev_dct0, ev_call, ev_blt, ev_isi, ev_mth, ev_comp, ev_fz, evs_nil, evs_cons, evi_val, evi_range, evo_no, evo_var, evo_con, evo_bin, evo_un, evoK_int, slice_lst, slice_tup, compG_nm, compG_tp, compO_some, compB, noR_ok, wipe_nil, wipe_cons, evt_eq,
    bnd_ok, bnd_raise, andS_ok, andS_raise, seq_nx, seq_ret, seq_raise, seq_brk, seq_cnt, ofO_some, nxO_some, nxS_some, try_raise, try_ret, try_nx, asgT_nm, asgT_tp, setAll_nil, setAll_cons,
    tru_bl, tru_int, tru_non, tru_lst, tru_tup, add_int, sub_int, mul_int, fdiv_int, mod_int, neg_int, lt_int, le_int, gt_int, ge_int, eq_int, ne_int, eq_str, ne_str, is_bl, isnot_bl, abs_int, int_int, int_bl, bool_bl, max_int, min_int, gcd_int, len_lst, len_tup, tuple_lst, sub_lst, sub_tup, items_lst, items_tup, add_lst, add_tup, add_str, rev_lst, newLst_f, newLst_t, end_nx,
    List.map_cons, List.map_nil, List.length_cons, List.length_nil, List.replicate_succ, List.replicate_zero, List.cons_append, List.nil_append, List.append_nil, List.getElem?_cons_zero, List.getElem?_cons_succ, List.set_cons_zero, List.set_cons_succ, List.reverse_cons, List.reverse_nil, Option.map_some, Option.map_none,
    if_true, if_false, Bool.false_eq_true, Bool.not_true, Bool.not_false, decide_true, decide_false, Bool.and_true, Bool.true_and, Bool.false_and, Bool.and_false, Bool.or_true, Bool.true_or, Bool.or_false, Bool.false_or, Nat.zero_add, Nat.reduceAdd, reduceCtorEq, reduceIte, beq_self_eq_true, e10, e11, e12, e13, e, handled (show 3 < [some (D.int 4), some x, some y, none].length by simp)]
  exact refused_at hx.pure st
theorem rep_told {x : D} (hx : Told x) : ∃ t : Str, ∀ st, bltD .repr st [.lst [x]] = some (.str t) := by
  obtain ⟨t, ht⟩ := Option.isSome_iff_exists.mp hx.rep
  refine ⟨t, fun st => ?_⟩
  simp only [bltD, if_pos hx.dep2, ht, Option.map_some]
theorem told_non : Told .non := { isi := by simp [isiD], dep := by decide, str := by decide, pure := rfl, rep := by decide +kernel, dep2 := by decide }
theorem told_bl (b : Bool) : Told (.bl b) := by
  cases b
  · exact { isi := by simp [isiD], dep := by decide, str := by decide, pure := rfl, rep := by decide +kernel, dep2 := by decide }
  · exact { isi := by simp [isiD], dep := by decide, str := by decide, pure := rfl, rep := by decide +kernel, dep2 := by decide }
theorem told_s3 : Told (.str "3") := { isi := by simp [isiD], dep := by decide, str := rfl, pure := rfl, rep := by decide +kernel, dep2 := by decide }
theorem told_s0 : Told (.str "0") := { isi := by simp [isiD], dep := by decide, str := rfl, pure := rfl, rep := by decide +kernel, dep2 := by decide }
theorem told_s6 : Told (.str "6") := { isi := by simp [isiD], dep := by decide, str := rfl, pure := rfl, rep := by decide +kernel, dep2 := by decide }
theorem told_t1 : Told (.tup [.int 1]) := { isi := by simp [isiD], dep := by decide, str := by decide +kernel, pure := rfl, rep := by decide +kernel, dep2 := by decide }
theorem told_l2 : Told (.lst [.int 2]) := { isi := by simp [isiD], dep := by decide, str := by decide +kernel, pure := rfl, rep := by decide +kernel, dep2 := by decide }
theorem told_d : Told (.dct [] []) := { isi := by simp [isiD], dep := by decide, str := by decide +kernel, pure := rfl, rep := by decide +kernel, dep2 := by decide }
theorem told_g : Told (.int (10 ^ 60)) := { isi := by simp [isiD], dep := by decide, str := by decide +kernel, pure := rfl, rep := by decide +kernel, dep2 := by decide }
theorem told_h : Told (.int (0 - 10 ^ 60)) := { isi := by simp [isiD], dep := by decide, str := by decide +kernel, pure := rfl, rep := by decide +kernel, dep2 := by decide }
theorem told_m : Told (.int (-1)) := { isi := by simp [isiD], dep := by decide, str := by decide +kernel, pure := rfl, rep := by decide +kernel, dep2 := by decide }
theorem told_61 : Told (.int 61) := { isi := by simp [isiD], dep := by decide, str := by decide +kernel, pure := rfl, rep := by decide +kernel, dep2 := by decide }
theorem told_0 : Told (.int 0) := { isi := by simp [isiD], dep := by decide, str := by decide +kernel, pure := rfl, rep := by decide +kernel, dep2 := by decide }
theorem told_7 : Told (.int 7) := { isi := by simp [isiD], dep := by decide, str := by decide +kernel, pure := rfl, rep := by decide +kernel, dep2 := by decide }
theorem told_5 : Told (.int 5) := { isi := by simp [isiD], dep := by decide, str := by decide +kernel, pure := rfl, rep := by decide +kernel, dep2 := by decide }
theorem told_6 : Told (.int (10 ^ 6 + 1)) := { isi := by simp [isiD], dep := by decide, str := by decide +kernel, pure := rfl, rep := by decide +kernel, dep2 := by decide }
theorem wrong_right {k r : Nat} {st : Store} (h : Urn k r st) (hk : k + 20 < 2 ^ 60) :
    ∃ st', sm__law_wrong_right [.ref r] st = .ok (.bl true) st' ∧ Urn (k + 5) r st' ∧ st'.length = st.length := by
  obtain ⟨w, st1, e1, hw, u1, l1⟩ := some_at h (by omega) [.non, .bl true, .str "3", .tup [.int 1], .int (10 ^ 60), .int (0 - 10 ^ 60), .lst [.int 2], .bl false, .dct [] []] (by simp) (by simp) (by simp [noRef, noRefs])
  obtain ⟨tw, iw⟩ : Told w ∧ isInt w = false := by
    simp only [List.mem_cons, List.mem_nil_iff, or_false] at hw
    rcases hw with rfl | rfl | rfl | rfl | rfl | rfl | rfl | rfl | rfl
    · exact ⟨told_non, rfl⟩
    · exact ⟨told_bl _, rfl⟩
    · exact ⟨told_s3, rfl⟩
    · exact ⟨told_t1, rfl⟩
    · exact ⟨told_g, by decide⟩
    · exact ⟨told_h, by decide⟩
    · exact ⟨told_l2, rfl⟩
    · exact ⟨told_bl _, rfl⟩
    · exact ⟨told_d, rfl⟩
  obtain ⟨y, st2, e2, hy, u2, l2⟩ := some_at u1 (by omega) [.non, .int (-1), .int 61, .bl true, .str "0", .int (10 ^ 60)] (by simp) (by simp) (by simp [noRef, noRefs])
  obtain ⟨ty, iy⟩ : Told y ∧ within y 0 60 = false := by
    simp only [List.mem_cons, List.mem_nil_iff, or_false] at hy
    rcases hy with rfl | rfl | rfl | rfl | rfl | rfl
    · exact ⟨told_non, rfl⟩
    · exact ⟨told_m, by decide⟩
    · exact ⟨told_61, by decide⟩
    · exact ⟨told_bl _, rfl⟩
    · exact ⟨told_s0, rfl⟩
    · exact ⟨told_g, by decide⟩
  obtain ⟨v, st3, e3, v0, v1, u3, l3⟩ := long_at u2 (by omega)
  rw [p59v] at v0 v1
  obtain ⟨z, st4, e4, hz, u4, l4⟩ := some_at u3 (by omega) [.int 0, .int (-1), .int (10 ^ 6 + 1), .bl true, .non, .int (10 ^ 60), .str "6"] (by simp) (by simp) (by simp [noRef, noRefs])
  obtain ⟨tz, iz⟩ : Told z ∧ within z 1 1000000 = false := by
    simp only [List.mem_cons, List.mem_nil_iff, or_false] at hz
    rcases hz with rfl | rfl | rfl | rfl | rfl | rfl | rfl
    · exact ⟨told_0, by decide⟩
    · exact ⟨told_m, by decide⟩
    · exact ⟨told_6, by decide⟩
    · exact ⟨told_bl _, rfl⟩
    · exact ⟨told_non, rfl⟩
    · exact ⟨told_g, by decide⟩
    · exact ⟨told_s6, rfl⟩
  obtain ⟨rw_, hrw⟩ := rep_told tw
  obtain ⟨ry, hry⟩ := rep_told ty
  obtain ⟨rz, hrz⟩ := rep_told tz
  have i1 := integer_at tw.isi st2
  rw [iw] at i1
  have i2 := integer_at (x := .int v) (by simp [isiD]) st3
  rw [isInt_int (by rw [bigv]; omega) (by rw [bigv]; omega)] at i2
  have f0 := refused0 (y := y) tw iw st3
  have f1 := refused1 ty iy told_5.toShown (by decide) st3
  have f2 := refused2 (y := .non) tw iw st3
  have f3 := refused3 tw iw told_7.toShown (by decide) st3
  have f4 := refused4 (y := .int 0) tz iz st4
  have z9 : szOk 9 = true := by decide
  have z7 : szOk 7 = true := by decide
  have z6 : szOk 6 = true := by decide
  have z1 : szOk 1 = true := by decide
  have hself : ∀ t : Str, (t == t) = true := fun t => beq_self_eq_true t
  refine ⟨st4, ?_, u4.mono (by omega), by omega⟩
  rw [sm__law_wrong_right, callD_eq xm 1 3 _ [.ref r] _ rfl, b__law_wrong_right]
  simp -implicitDefEqProofs only [exs_nil, exs_cons, ex_pass, ex_brk, ex_cnt, ex_doc, ex_expr, ex_ret, ex_retN, ex_asg, ex_par, ex_setI, ex_aug, ex_ite, ex_whl, ex_for, ex_raise, ex_try,
    ev_con, ev_glob, ev_var, ev_bin, ev_un, ev_cmp, ev_chain, ev_and, ev_or, ev_not, ev_ife, ev_tup, ev_lst, ev_sub, ev_slice, ev_rev, ev_dct0, ev_call, ev_blt, ev_isi, ev_mth, ev_comp, ev_fz, evs_nil, evs_cons, evi_val, evi_range, evo_no, evo_var, evo_con, evo_bin, evo_un, evoK_int, slice_lst, slice_tup, compG_nm, compG_tp, compO_some, compB, noR_ok, wipe_nil, wipe_cons, evt_eq,
    bnd_ok, bnd_raise, andS_ok, andS_raise, seq_nx, seq_ret, seq_raise, seq_brk, seq_cnt, ofO_some, nxO_some, nxS_some, try_raise, try_ret, try_nx, asgT_nm, asgT_tp, setAll_nil, setAll_cons,
    tru_bl, tru_int, tru_non, tru_lst, tru_tup, add_int, sub_int, mul_int, fdiv_int, mod_int, neg_int, lt_int, le_int, gt_int, ge_int, eq_int, ne_int, eq_str, ne_str, is_bl, isnot_bl, abs_int, int_int, int_bl, bool_bl, max_int, min_int, gcd_int, len_lst, len_tup, tuple_lst, sub_lst, sub_tup, items_lst, items_tup, add_lst, add_tup, add_str, rev_lst, newLst_f, newLst_t, end_nx,
    List.map_cons, List.map_nil, List.length_cons, List.length_nil, List.replicate_succ, List.replicate_zero, List.cons_append, List.nil_append, List.append_nil, List.getElem?_cons_zero, List.getElem?_cons_succ, List.set_cons_zero, List.set_cons_succ, List.reverse_cons, List.reverse_nil, Option.map_some, Option.map_none,
    if_true, if_false, Bool.false_eq_true, Bool.not_true, Bool.not_false, decide_true, decide_false, Bool.and_true, Bool.true_and, Bool.false_and, Bool.and_false, Bool.or_true, Bool.true_or, Bool.or_false, Bool.false_or, Nat.zero_add, Nat.reduceAdd, reduceCtorEq, reduceIte, z9, z7, z6, z1, p10_60, p10_6, Int.reduceNeg, e1, e2, e3, e4, i1, i2, f0, f1, f2, f3, f4, hrw, hry, hrz, hself]
  rw [end_ret rfl, closeSt_len (by omega)]
end L01
set_option Elab.async false
set_option linter.all false
set_option maxRecDepth 100000
set_option maxHeartbeats 2000000
namespace L01
open Ip
open PySem (Str)
theorem bz_60_60 : bz 60 60 = 1 := by
  have h := bz_ff 60 60
  have h2 : ff 60 60 = fact 60 := by decide +kernel
  rw [h2] at h
  have hp := fact_pos 60
  exact Int.eq_of_mul_eq_mul_left (by omega) (h.trans (Int.mul_one _).symm)
theorem law_turn (ns : List Int) (hns : ns.length ≤ 63) (i : Nat) (hi : i ≤ 1000) {st : Store} (hc : Calm st) (x : Option D) :
    ∃ u st', execs xm l1_law [some (.lst (ns.map D.int)), some (.int (i : Int)), x, none] st = .nx [some (.lst (ns.map D.int)), some (.int (i : Int)), u, none] st' ∧ Calm st' := by
  obtain ⟨st1, e1, u1, l1⟩ := urn_at ns hns i hi hc
  obtain ⟨st2, e2, u2, l2⟩ := choices_right u1 (by decide)
  obtain ⟨st3, e3, u3, l3⟩ := divisors_right u2 (by decide)
  obtain ⟨st4, e4, u4, l4⟩ := wrong_right u3 (by decide)
  refine ⟨some (.ref st.length), st4, ?_, u4.calm⟩
  rw [l1_law]
  simp -implicitDefEqProofs only [exs_nil, exs_cons, ex_pass, ex_brk, ex_cnt, ex_doc, ex_expr, ex_ret, ex_retN, ex_asg, ex_par, ex_setI, ex_aug, ex_ite, ex_whl, ex_for, ex_raise, ex_try,
    ev_con, ev_glob, ev_var, ev_bin, ev_un, ev_cmp, ev_chain, ev_and, ev_or, ev_not, ev_ife, ev_tup, ev_lst, ev_sub, ev_slice, ev_rev, ev_dct0, ev_call, ev_blt, ev_isi, ev_mth, ev_comp, ev_fz, evs_nil, evs_cons, evi_val, evi_range, evo_no, evo_var, evo_con, evo_bin, evo_un, evoK_int, slice_lst, slice_tup, compG_nm, compG_tp, compO_some, compB, noR_ok, wipe_nil, wipe_cons, evt_eq,
    bnd_ok, bnd_raise, andS_ok, andS_raise, seq_nx, seq_ret, seq_raise, seq_brk, seq_cnt, ofO_some, nxO_some, nxS_some, try_raise, try_ret, try_nx, asgT_nm, asgT_tp, setAll_nil, setAll_cons,
    tru_bl, tru_int, tru_non, tru_lst, tru_tup, add_int, sub_int, mul_int, fdiv_int, mod_int, neg_int, lt_int, le_int, gt_int, ge_int, eq_int, ne_int, eq_str, ne_str, is_bl, isnot_bl, abs_int, int_int, int_bl, bool_bl, max_int, min_int, gcd_int, len_lst, len_tup, tuple_lst, sub_lst, sub_tup, items_lst, items_tup, add_lst, add_tup, add_str, rev_lst, newLst_f, newLst_t, end_nx,
    List.map_cons, List.map_nil, List.length_cons, List.length_nil, List.replicate_succ, List.replicate_zero, List.cons_append, List.nil_append, List.append_nil, List.getElem?_cons_zero, List.getElem?_cons_succ, List.set_cons_zero, List.set_cons_succ, List.reverse_cons, List.reverse_nil, Option.map_some, Option.map_none,
    if_true, if_false, Bool.false_eq_true, Bool.not_true, Bool.not_false, decide_true, decide_false, Bool.and_true, Bool.true_and, Bool.false_and, Bool.and_false, Bool.or_true, Bool.true_or, Bool.or_false, Bool.false_or, Nat.zero_add, Nat.reduceAdd, reduceCtorEq, reduceIte, e1, e2, e3, e4]
theorem law_true (ns : List Int) (h : ns.length ≤ 63) : ∃ st, sm_law [.lst (ns.map D.int)] [] = .ok (.bl true) st := by
  obtain ⟨m, hm, hm4⟩ : ∃ m : Nat, max 1 (min 4 ((ns.map D.int).length : Int)) = (m : Int) ∧ m ≤ 4 := ⟨(max 1 (min 4 ((ns.map D.int).length : Int))).toNat, by omega, by omega⟩
  obtain ⟨σ', st', e, x1, x2, rfl, hc⟩ := forL_inv (t := .nm 1) (b := execs xm l1_law) (I := fun i σ st' => ∃ (x1 x2 : Option D), σ = [some (.lst (ns.map D.int)), x1, x2, none] ∧ Calm st') ((List.range m).map fun (j : Nat) => D.int (0 + (j : Int)))
    (by
      rintro i x σ st1 hx ⟨y, z, rfl, hc⟩
      rw [List.getElem?_map] at hx
      obtain ⟨j, hj, rfl⟩ := Option.map_eq_some_iff.mp hx
      obtain ⟨hi, rfl⟩ := List.getElem?_eq_some_iff.mp hj
      simp only [List.getElem_range, List.length_range] at hi ⊢
      obtain ⟨u, st2, e, hc2⟩ := law_turn ns h i (by omega) hc z
      refine ⟨_, rfl, .inl ⟨_, _, ?_, some (.int (i : Int)), u, rfl, hc2⟩⟩
      rw [Int.zero_add]
      exact e)
    [some (.lst (ns.map D.int)), none, none, none] [] ⟨none, none, rfl, Calm.nil⟩
  have hr := range_k (k := m) (by omega)
  have hrun : forRun (.nm 1) (execs xm l1_law) (.seq ((List.range m).map fun (j : Nat) => D.int (0 + (j : Int)))) fuelD 0 [some (.lst (ns.map D.int)), none, none, none] [] = .nx [some (.lst (ns.map D.int)), x1, x2, none] st' := by
    rw [forRun_all _ _ _ _ _ (by simp [fuelD]; omega)]
    exact e
  have b1 := choose_at (n := 5) (k := 2) (by decide) (by decide) (by decide) st'
  have b2 := choose_at (n := -2) (k := 3) (by decide) (by decide) (by decide) st'
  have b3 := choose_at (n := 3) (k := 5) (by decide) (by decide) (by decide) st'
  have b4 := choose_at (n := -1) (k := 60) (by decide) (by decide) (by decide) st'
  have b5 := choose_at (n := 60) (k := 60) (by decide) (by decide) (by decide) st'
  have b6 := choose_at (n := 0) (k := 0) (by decide) (by decide) (by decide) st'
  have b7 := choose_at (n := -7) (k := 1) (by decide) (by decide) (by decide) st'
  rw [show bz 2 5 = 10 by decide +kernel, show ((2 : Nat) : Int) = 2 from rfl] at b1
  rw [show bz 3 (-2) = -4 by decide +kernel, show ((3 : Nat) : Int) = 3 from rfl] at b2
  rw [show bz 5 3 = 0 by decide +kernel, show ((5 : Nat) : Int) = 5 from rfl] at b3
  rw [show bz 60 (-1) = 1 by decide +kernel, show ((60 : Nat) : Int) = 60 from rfl] at b4
  rw [bz_60_60, show ((60 : Nat) : Int) = 60 from rfl] at b5
  rw [bz_zero, show ((0 : Nat) : Int) = 0 from rfl] at b6
  rw [show bz 1 (-7) = -7 by decide +kernel, show ((1 : Nat) : Int) = 1 from rfl] at b7
  have g1 := gcd_at (a := 0) (b := 0) (by decide) (by decide) (by decide) (by decide) st'
  have g2 := gcd_at (a := -12) (b := 18) (by decide) (by decide) (by decide) (by decide) st'
  rw [show ((Nat.gcd (0 : Int).natAbs (0 : Int).natAbs : Nat) : Int) = 0 by decide] at g1
  rw [show ((Nat.gcd (-12 : Int).natAbs (18 : Int).natAbs : Nat) : Int) = 6 by decide] at g2
  have d1 := divisors_at (N := 1) (by decide) (by decide) hc
  have d2 := divisors_at (N := 999983) (by decide) (by decide) hc
  have d3 := divisors_at (N := 36) (by decide) (by decide) hc
  rw [show low 1 ++ high 1 = [1] by decide +kernel, show ((1 : Nat) : Int) = 1 from rfl] at d1
  rw [show low 999983 ++ high 999983 = [1, 999983] by decide +kernel, show ((999983 : Nat) : Int) = 999983 from rfl] at d2
  rw [show low 36 ++ high 36 = [1, 2, 3, 4, 6, 9, 12, 18, 36] by decide +kernel, show ((36 : Nat) : Int) = 36 from rfl] at d3
  have c0 : cmpD .ne st' (.lst [.int 10, .int (-4), .int 0, .int 1, .int 1, .int 1, .int (-7)]) (.lst [.int 10, .int (-4), .int 0, .int 1, .int 1, .int 1, .int (-7)]) = some false := rfl
  have c1 : cmpD .eq st' (.tup (dl [1])) (.tup [.int 1]) = some true := rfl
  have c2 : cmpD .eq st' (.tup (dl [1, 999983])) (.tup [.int 1, .int 999983]) = some true := rfl
  have c3 : cmpD .eq st' (.tup (dl [1, 2, 3, 4, 6, 9, 12, 18, 36])) (.tup [.int 1, .int 2, .int 3, .int 4, .int 6, .int 9, .int 12, .int 18, .int 36]) = some true := rfl
  have z7 : szOk 7 = true := by decide
  have z1 : szOk 1 = true := by decide
  have z2 : szOk 2 = true := by decide
  have z9 : szOk 9 = true := by decide
  refine ⟨closeSt [] st', ?_⟩
  rw [sm_law, callD_eq xm 1 3 _ [.lst (ns.map D.int)] _ rfl, b_law]
  simp -implicitDefEqProofs only [exs_nil, exs_cons, ex_pass, ex_brk, ex_cnt, ex_doc, ex_expr, ex_ret, ex_retN, ex_asg, ex_par, ex_setI, ex_aug, ex_ite, ex_whl, ex_for, ex_raise, ex_try,
    ev_con, ev_glob, ev_var, ev_bin, ev_un, ev_cmp, ev_chain, ev_and, ev_or, ev_not, ev_ife, ev_tup, ev_lst, ev_sub, ev_slice, ev_rev, ev_dct0, ev_call, ev_blt, ev_isi, ev_mth, ev_comp, ev_fz, evs_nil, evs_cons, evi_val, evi_range, evo_no, evo_var, evo_con, evo_bin, evo_un, evoK_int, slice_lst, slice_tup, compG_nm, compG_tp, compO_some, compB, noR_ok, wipe_nil, wipe_cons, evt_eq,
    bnd_ok, bnd_raise, andS_ok, andS_raise, seq_nx, seq_ret, seq_raise, seq_brk, seq_cnt, ofO_some, nxO_some, nxS_some, try_raise, try_ret, try_nx, asgT_nm, asgT_tp, setAll_nil, setAll_cons,
    tru_bl, tru_int, tru_non, tru_lst, tru_tup, add_int, sub_int, mul_int, fdiv_int, mod_int, neg_int, lt_int, le_int, gt_int, ge_int, eq_int, ne_int, eq_str, ne_str, is_bl, isnot_bl, abs_int, int_int, int_bl, bool_bl, max_int, min_int, gcd_int, len_lst, len_tup, tuple_lst, sub_lst, sub_tup, items_lst, items_tup, add_lst, add_tup, add_str, rev_lst, newLst_f, newLst_t, end_nx,
    List.map_cons, List.map_nil, List.length_cons, List.length_nil, List.replicate_succ, List.replicate_zero, List.cons_append, List.nil_append, List.append_nil, List.getElem?_cons_zero, List.getElem?_cons_succ, List.set_cons_zero, List.set_cons_succ, List.reverse_cons, List.reverse_nil, Option.map_some, Option.map_none,
    if_true, if_false, Bool.false_eq_true, Bool.not_true, Bool.not_false, decide_true, decide_false, Bool.and_true, Bool.true_and, Bool.false_and, Bool.and_false, Bool.or_true, Bool.true_or, Bool.or_false, Bool.false_or, Nat.zero_add, Nat.reduceAdd, reduceCtorEq, reduceIte, hm, hr, hrun, Int.reduceNeg, b1, b2, b3, b4, b5, b6, b7, g1, g2, d1, d2, d3, c0, c1, c2, c3, z7, z1, z2, z9, beq_self_eq_true]
  rw [end_ret rfl]
end L01
set_option Elab.async false
set_option linter.all false
set_option maxRecDepth 100000
set_option maxHeartbeats 1000000
/-! The terms against the text, what the top has written (printed by wip/link.py). -/
namespace L01
open PySem PySem.Spec PyProof.Rows L2 Ip
def top (i : Nat) : Stmt := PySem.Challenge.pw_stairlots_k01_whole_integers_and_binomia.main.body.getD i (.Pass ⟨0, 0, 0, 0⟩)
abbrev s_is_whole : Stmt := top 7
abbrev s_is_integer : Stmt := top 8
abbrev s_require_integer : Stmt := top 9
abbrev s_require_within : Stmt := top 10
abbrev s_chosen : Stmt := top 11
abbrev s_choose : Stmt := top 12
abbrev s_common_divisor : Stmt := top 13
abbrev s_divisors_of : Stmt := top 14
abbrev s_divisors : Stmt := top 15
abbrev s__law_urn : Stmt := top 17
abbrev s__law_take : Stmt := top 18
abbrev s__law_some : Stmt := top 19
abbrev s__law_long : Stmt := top 20
abbrev s__law_over : Stmt := top 21
abbrev s__law_binomial : Stmt := top 22
abbrev s__law_refused : Stmt := top 23
abbrev s__law_shared : Stmt := top 24
abbrev s__law_choices_right : Stmt := top 25
abbrev s__law_divisors_right : Stmt := top 26
abbrev s__law_wrong_right : Stmt := top 27
abbrev s_law : Stmt := top 28
abbrev s_InvalidNumber_init : Stmt := inClass (top 2) 0
def fnN : List Str := ["is_whole", "is_integer", "require_integer", "require_within", "chosen", "choose", "common_divisor", "divisors_of", "divisors", "_law_urn", "_law_take", "_law_some", "_law_long", "_law_over", "_law_binomial", "_law_refused", "_law_shared", "_law_choices_right", "_law_divisors_right", "_law_wrong_right", "law"]
def glN : List Str := ["BEYOND", "MOST_CHOSEN", "MOST_DIVIDED"]
def xnN : List Str := ["InvalidNumber"]
def hfN : List Str := ["given"]
def bkB : Blt → Bool := fun b => b == .abs || b == .gcd || b == .int || b == .len || b == .max || b == .min || b == .repr || b == .sum || b == .tuple
def tkB : Ty → Bool := fun t => t == .bool || t == .int
def cf (N : List Str) (sc : Scope) : Cfg := { N := N, sc := sc, wr := sc, fn := fun i => fnN.getD i "", gl := fun i => glN.getD i "", bk := bkB, tk := tkB, ik := true, rk := true, xn := fun i => xnN.getD i "", hn := fun i => xnN.getD i "", hf := fun i => hfN.getD i "" }
def G : Nat → D → Prop := fun i d => (i = 0 ∧ d = c_BEYOND) ∨ (i = 1 ∧ d = c_MOST_CHOSEN) ∨ (i = 2 ∧ d = c_MOST_DIVIDED)
def R : Nat → MkF → Prop := fun k mk => (k = 0 ∧ mk = mk_InvalidNumber)
def U : Nat → Prop := fun k => k < 1
def P_is_whole : Nat → List D → Fn → Prop := fun j dv sm => False
def N_is_whole : List Str := ["value"]
theorem k_is_whole : chkSs (cf N_is_whole (defScope s_is_whole)) b_is_whole (defBody s_is_whole) = true := by decide +kernel
theorem sc_is_whole : FnScope N_is_whole ["value"] (defScope s_is_whole) := ⟨rfl, rfl, rfl, by decide +kernel, rfl, by decide +kernel, by decide +kernel⟩
theorem o_is_whole : okSs P_is_whole G R U b_is_whole := by
  repeat' (first | exact True.intro | refine And.intro ?_ ?_ | exact .inl (⟨rfl, rfl⟩) | exact .inr (.inl (⟨rfl, rfl⟩)) | exact .inr (.inr (⟨rfl, rfl⟩)) | exact ⟨rfl, rfl⟩ | exact rfl | exact allU rfl)
def P_is_integer : Nat → List D → Fn → Prop := fun j dv sm => (j = 0 ∧ dv = [] ∧ sm = sm_is_whole)
def N_is_integer : List Str := ["value"]
theorem k_is_integer : chkSs (cf N_is_integer (defScope s_is_integer)) b_is_integer (defBody s_is_integer) = true := by decide +kernel
theorem sc_is_integer : FnScope N_is_integer ["value"] (defScope s_is_integer) := ⟨rfl, rfl, rfl, by decide +kernel, rfl, by decide +kernel, by decide +kernel⟩
theorem o_is_integer : okSs P_is_integer G R U b_is_integer := by
  repeat' (first | exact True.intro | refine And.intro ?_ ?_ | exact ⟨rfl, rfl, rfl⟩ | exact .inl (⟨rfl, rfl⟩) | exact .inr (.inl (⟨rfl, rfl⟩)) | exact .inr (.inr (⟨rfl, rfl⟩)) | exact ⟨rfl, rfl⟩ | exact rfl | exact allU rfl)
def P_require_integer : Nat → List D → Fn → Prop := fun j dv sm => (j = 1 ∧ dv = [] ∧ sm = sm_is_integer)
def N_require_integer : List Str := ["value"]
theorem k_require_integer : chkSs (cf N_require_integer (defScope s_require_integer)) b_require_integer (defBody s_require_integer) = true := by decide +kernel
theorem sc_require_integer : FnScope N_require_integer ["value"] (defScope s_require_integer) := ⟨rfl, rfl, rfl, by decide +kernel, rfl, by decide +kernel, by decide +kernel⟩
theorem o_require_integer : okSs P_require_integer G R U b_require_integer := by
  repeat' (first | exact True.intro | refine And.intro ?_ ?_ | exact ⟨rfl, rfl, rfl⟩ | exact .inl (⟨rfl, rfl⟩) | exact .inr (.inl (⟨rfl, rfl⟩)) | exact .inr (.inr (⟨rfl, rfl⟩)) | exact ⟨rfl, rfl⟩ | exact rfl | exact allU rfl)
def P_require_within : Nat → List D → Fn → Prop := fun j dv sm => (j = 0 ∧ dv = [] ∧ sm = sm_is_whole)
def N_require_within : List Str := ["value", "least", "most"]
theorem k_require_within : chkSs (cf N_require_within (defScope s_require_within)) b_require_within (defBody s_require_within) = true := by decide +kernel
theorem sc_require_within : FnScope N_require_within ["value", "least", "most"] (defScope s_require_within) := ⟨rfl, rfl, rfl, by decide +kernel, rfl, by decide +kernel, by decide +kernel⟩
theorem o_require_within : okSs P_require_within G R U b_require_within := by
  repeat' (first | exact True.intro | refine And.intro ?_ ?_ | exact ⟨rfl, rfl, rfl⟩ | exact .inl (⟨rfl, rfl⟩) | exact .inr (.inl (⟨rfl, rfl⟩)) | exact .inr (.inr (⟨rfl, rfl⟩)) | exact ⟨rfl, rfl⟩ | exact rfl | exact allU rfl)
def P_chosen : Nat → List D → Fn → Prop := fun j dv sm => False
def N_chosen : List Str := ["number", "many", "found", "at"]
theorem k_chosen : chkSs (cf N_chosen (defScope s_chosen)) b_chosen (defBody s_chosen) = true := by decide +kernel
theorem sc_chosen : FnScope N_chosen ["number", "many"] (defScope s_chosen) := ⟨rfl, rfl, rfl, by decide +kernel, rfl, by decide +kernel, by decide +kernel⟩
theorem o_chosen : okSs P_chosen G R U b_chosen := by
  repeat' (first | exact True.intro | refine And.intro ?_ ?_ | exact .inl (⟨rfl, rfl⟩) | exact .inr (.inl (⟨rfl, rfl⟩)) | exact .inr (.inr (⟨rfl, rfl⟩)) | exact ⟨rfl, rfl⟩ | exact rfl | exact allU rfl)
def P_choose : Nat → List D → Fn → Prop := fun j dv sm => (j = 2 ∧ dv = [] ∧ sm = sm_require_integer) ∨ (j = 3 ∧ dv = [] ∧ sm = sm_require_within) ∨ (j = 4 ∧ dv = [] ∧ sm = sm_chosen)
def N_choose : List Str := ["number", "many"]
theorem k_choose : chkSs (cf N_choose (defScope s_choose)) b_choose (defBody s_choose) = true := by decide +kernel
theorem sc_choose : FnScope N_choose ["number", "many"] (defScope s_choose) := ⟨rfl, rfl, rfl, by decide +kernel, rfl, by decide +kernel, by decide +kernel⟩
theorem o_choose : okSs P_choose G R U b_choose := by
  repeat' (first | exact True.intro | refine And.intro ?_ ?_ | exact .inl (⟨rfl, rfl, rfl⟩) | exact .inr (.inl (⟨rfl, rfl, rfl⟩)) | exact .inr (.inr (⟨rfl, rfl, rfl⟩)) | exact .inl (⟨rfl, rfl⟩) | exact .inr (.inl (⟨rfl, rfl⟩)) | exact .inr (.inr (⟨rfl, rfl⟩)) | exact ⟨rfl, rfl⟩ | exact rfl | exact allU rfl)
def P_common_divisor : Nat → List D → Fn → Prop := fun j dv sm => (j = 2 ∧ dv = [] ∧ sm = sm_require_integer)
def N_common_divisor : List Str := ["one", "other"]
theorem k_common_divisor : chkSs (cf N_common_divisor (defScope s_common_divisor)) b_common_divisor (defBody s_common_divisor) = true := by decide +kernel
theorem sc_common_divisor : FnScope N_common_divisor ["one", "other"] (defScope s_common_divisor) := ⟨rfl, rfl, rfl, by decide +kernel, rfl, by decide +kernel, by decide +kernel⟩
theorem o_common_divisor : okSs P_common_divisor G R U b_common_divisor := by
  repeat' (first | exact True.intro | refine And.intro ?_ ?_ | exact ⟨rfl, rfl, rfl⟩ | exact .inl (⟨rfl, rfl⟩) | exact .inr (.inl (⟨rfl, rfl⟩)) | exact .inr (.inr (⟨rfl, rfl⟩)) | exact ⟨rfl, rfl⟩ | exact rfl | exact allU rfl)
def P_divisors_of : Nat → List D → Fn → Prop := fun j dv sm => False
def N_divisors_of : List Str := ["number", "low", "high", "at"]
theorem k_divisors_of : chkSs (cf N_divisors_of (defScope s_divisors_of)) b_divisors_of (defBody s_divisors_of) = true := by decide +kernel
theorem sc_divisors_of : FnScope N_divisors_of ["number"] (defScope s_divisors_of) := ⟨rfl, rfl, rfl, by decide +kernel, rfl, by decide +kernel, by decide +kernel⟩
theorem o_divisors_of : okSs P_divisors_of G R U b_divisors_of := by
  repeat' (first | exact True.intro | refine And.intro ?_ ?_ | exact .inl (⟨rfl, rfl⟩) | exact .inr (.inl (⟨rfl, rfl⟩)) | exact .inr (.inr (⟨rfl, rfl⟩)) | exact ⟨rfl, rfl⟩ | exact rfl | exact allU rfl)
def P_divisors : Nat → List D → Fn → Prop := fun j dv sm => (j = 3 ∧ dv = [] ∧ sm = sm_require_within) ∨ (j = 7 ∧ dv = [] ∧ sm = sm_divisors_of)
def N_divisors : List Str := ["number"]
theorem k_divisors : chkSs (cf N_divisors (defScope s_divisors)) b_divisors (defBody s_divisors) = true := by decide +kernel
theorem sc_divisors : FnScope N_divisors ["number"] (defScope s_divisors) := ⟨rfl, rfl, rfl, by decide +kernel, rfl, by decide +kernel, by decide +kernel⟩
theorem o_divisors : okSs P_divisors G R U b_divisors := by
  repeat' (first | exact True.intro | refine And.intro ?_ ?_ | exact .inl (⟨rfl, rfl, rfl⟩) | exact .inr (⟨rfl, rfl, rfl⟩) | exact .inl (⟨rfl, rfl⟩) | exact .inr (.inl (⟨rfl, rfl⟩)) | exact .inr (.inr (⟨rfl, rfl⟩)) | exact ⟨rfl, rfl⟩ | exact rfl | exact allU rfl)
def P__law_urn : Nat → List D → Fn → Prop := fun j dv sm => False
def N__law_urn : List Str := ["_law_script", "_law_at", "_law_mixed", "_law_cell", "_law_great"]
theorem k__law_urn : chkSs (cf N__law_urn (defScope s__law_urn)) b__law_urn (defBody s__law_urn) = true := by decide +kernel
theorem sc__law_urn : FnScope N__law_urn ["_law_script", "_law_at"] (defScope s__law_urn) := ⟨rfl, rfl, rfl, by decide +kernel, rfl, by decide +kernel, by decide +kernel⟩
theorem o__law_urn : okSs P__law_urn G R U b__law_urn := by
  repeat' (first | exact True.intro | refine And.intro ?_ ?_ | exact .inl (⟨rfl, rfl⟩) | exact .inr (.inl (⟨rfl, rfl⟩)) | exact .inr (.inr (⟨rfl, rfl⟩)) | exact ⟨rfl, rfl⟩ | exact rfl | exact allU rfl)
def P__law_take : Nat → List D → Fn → Prop := fun j dv sm => False
def N__law_take : List Str := ["_law_urn_here", "_law_total", "_law_found", "_law_one", "_law_two"]
theorem k__law_take : chkSs (cf N__law_take (defScope s__law_take)) b__law_take (defBody s__law_take) = true := by decide +kernel
theorem sc__law_take : FnScope N__law_take ["_law_urn_here", "_law_total"] (defScope s__law_take) := ⟨rfl, rfl, rfl, by decide +kernel, rfl, by decide +kernel, by decide +kernel⟩
theorem o__law_take : okSs P__law_take G R U b__law_take := by
  repeat' (first | exact True.intro | refine And.intro ?_ ?_ | exact .inl (⟨rfl, rfl⟩) | exact .inr (.inl (⟨rfl, rfl⟩)) | exact .inr (.inr (⟨rfl, rfl⟩)) | exact ⟨rfl, rfl⟩ | exact rfl | exact allU rfl)
def P__law_some : Nat → List D → Fn → Prop := fun j dv sm => (j = 10 ∧ dv = [] ∧ sm = sm__law_take)
def N__law_some : List Str := ["_law_urn_here", "_law_items"]
theorem k__law_some : chkSs (cf N__law_some (defScope s__law_some)) b__law_some (defBody s__law_some) = true := by decide +kernel
theorem sc__law_some : FnScope N__law_some ["_law_urn_here", "_law_items"] (defScope s__law_some) := ⟨rfl, rfl, rfl, by decide +kernel, rfl, by decide +kernel, by decide +kernel⟩
theorem o__law_some : okSs P__law_some G R U b__law_some := by
  repeat' (first | exact True.intro | refine And.intro ?_ ?_ | exact ⟨rfl, rfl, rfl⟩ | exact .inl (⟨rfl, rfl⟩) | exact .inr (.inl (⟨rfl, rfl⟩)) | exact .inr (.inr (⟨rfl, rfl⟩)) | exact ⟨rfl, rfl⟩ | exact rfl | exact allU rfl)
def P__law_long : Nat → List D → Fn → Prop := fun j dv sm => (j = 10 ∧ dv = [] ∧ sm = sm__law_take) ∨ (j = 11 ∧ dv = [] ∧ sm = sm__law_some)
def N__law_long : List Str := ["_law_urn_here", "_law_bound"]
theorem k__law_long : chkSs (cf N__law_long (defScope s__law_long)) b__law_long (defBody s__law_long) = true := by decide +kernel
theorem sc__law_long : FnScope N__law_long ["_law_urn_here"] (defScope s__law_long) := ⟨rfl, rfl, rfl, by decide +kernel, rfl, by decide +kernel, by decide +kernel⟩
theorem o__law_long : okSs P__law_long G R U b__law_long := by
  repeat' (first | exact True.intro | refine And.intro ?_ ?_ | exact .inl (⟨rfl, rfl, rfl⟩) | exact .inr (⟨rfl, rfl, rfl⟩) | exact .inl (⟨rfl, rfl⟩) | exact .inr (.inl (⟨rfl, rfl⟩)) | exact .inr (.inr (⟨rfl, rfl⟩)) | exact ⟨rfl, rfl⟩ | exact rfl | exact allU rfl)
def P__law_over : Nat → List D → Fn → Prop := fun j dv sm => False
def N__law_over : List Str := ["_law_top", "_law_bottom"]
theorem k__law_over : chkSs (cf N__law_over (defScope s__law_over)) b__law_over (defBody s__law_over) = true := by decide +kernel
theorem sc__law_over : FnScope N__law_over ["_law_top", "_law_bottom"] (defScope s__law_over) := ⟨rfl, rfl, rfl, by decide +kernel, rfl, by decide +kernel, by decide +kernel⟩
theorem o__law_over : okSs P__law_over G R U b__law_over := by
  repeat' (first | exact True.intro | refine And.intro ?_ ?_ | exact .inl (⟨rfl, rfl⟩) | exact .inr (.inl (⟨rfl, rfl⟩)) | exact .inr (.inr (⟨rfl, rfl⟩)) | exact ⟨rfl, rfl⟩ | exact rfl | exact allU rfl)
def P__law_binomial : Nat → List D → Fn → Prop := fun j dv sm => (j = 13 ∧ dv = [] ∧ sm = sm__law_over)
def N__law_binomial : List Str := ["_law_number", "_law_many", "_law_top", "_law_bottom", "_law_turn"]
theorem k__law_binomial : chkSs (cf N__law_binomial (defScope s__law_binomial)) b__law_binomial (defBody s__law_binomial) = true := by decide +kernel
theorem sc__law_binomial : FnScope N__law_binomial ["_law_number", "_law_many"] (defScope s__law_binomial) := ⟨rfl, rfl, rfl, by decide +kernel, rfl, by decide +kernel, by decide +kernel⟩
theorem o__law_binomial : okSs P__law_binomial G R U b__law_binomial := by
  repeat' (first | exact True.intro | refine And.intro ?_ ?_ | exact ⟨rfl, rfl, rfl⟩ | exact .inl (⟨rfl, rfl⟩) | exact .inr (.inl (⟨rfl, rfl⟩)) | exact .inr (.inr (⟨rfl, rfl⟩)) | exact ⟨rfl, rfl⟩ | exact rfl | exact allU rfl)
def P__law_refused : Nat → List D → Fn → Prop := fun j dv sm => (j = 5 ∧ dv = [] ∧ sm = sm_choose) ∨ (j = 6 ∧ dv = [] ∧ sm = sm_common_divisor) ∨ (j = 8 ∧ dv = [] ∧ sm = sm_divisors)
def N__law_refused : List Str := ["_law_way", "_law_value", "_law_other", "error"]
theorem k__law_refused : chkSs (cf N__law_refused (defScope s__law_refused)) b__law_refused (defBody s__law_refused) = true := by decide +kernel
theorem sc__law_refused : FnScope N__law_refused ["_law_way", "_law_value", "_law_other"] (defScope s__law_refused) := ⟨rfl, rfl, rfl, by decide +kernel, rfl, by decide +kernel, by decide +kernel⟩
theorem o__law_refused : okSs P__law_refused G R U b__law_refused := by
  repeat' (first | exact True.intro | refine And.intro ?_ ?_ | exact .inl (⟨rfl, rfl, rfl⟩) | exact .inr (.inl (⟨rfl, rfl, rfl⟩)) | exact .inr (.inr (⟨rfl, rfl, rfl⟩)) | exact .inl (⟨rfl, rfl⟩) | exact .inr (.inl (⟨rfl, rfl⟩)) | exact .inr (.inr (⟨rfl, rfl⟩)) | exact ⟨rfl, rfl⟩ | exact rfl | exact allU rfl)
def P__law_shared : Nat → List D → Fn → Prop := fun j dv sm => False
def N__law_shared : List Str := ["_law_one", "_law_other"]
theorem k__law_shared : chkSs (cf N__law_shared (defScope s__law_shared)) b__law_shared (defBody s__law_shared) = true := by decide +kernel
theorem sc__law_shared : FnScope N__law_shared ["_law_one", "_law_other"] (defScope s__law_shared) := ⟨rfl, rfl, rfl, by decide +kernel, rfl, by decide +kernel, by decide +kernel⟩
theorem o__law_shared : okSs P__law_shared G R U b__law_shared := by
  repeat' (first | exact True.intro | refine And.intro ?_ ?_ | exact .inl (⟨rfl, rfl⟩) | exact .inr (.inl (⟨rfl, rfl⟩)) | exact .inr (.inr (⟨rfl, rfl⟩)) | exact ⟨rfl, rfl⟩ | exact rfl | exact allU rfl)
def P__law_choices_right : Nat → List D → Fn → Prop := fun j dv sm => (j = 5 ∧ dv = [] ∧ sm = sm_choose) ∨ (j = 10 ∧ dv = [] ∧ sm = sm__law_take) ∨ (j = 11 ∧ dv = [] ∧ sm = sm__law_some) ∨ (j = 12 ∧ dv = [] ∧ sm = sm__law_long) ∨ (j = 14 ∧ dv = [] ∧ sm = sm__law_binomial)
def N__law_choices_right : List Str := ["_law_urn_here", "_law_number", "_law_many", "_law_other", "_law_told", "_law_parts", "_law_at"]
theorem k__law_choices_right : chkSs (cf N__law_choices_right (defScope s__law_choices_right)) b__law_choices_right (defBody s__law_choices_right) = true := by decide +kernel
theorem sc__law_choices_right : FnScope N__law_choices_right ["_law_urn_here"] (defScope s__law_choices_right) := ⟨rfl, rfl, rfl, by decide +kernel, rfl, by decide +kernel, by decide +kernel⟩
theorem o__law_choices_right : okSs P__law_choices_right G R U b__law_choices_right := by
  repeat' (first | exact True.intro | refine And.intro ?_ ?_ | exact .inl (⟨rfl, rfl, rfl⟩) | exact .inr (.inl (⟨rfl, rfl, rfl⟩)) | exact .inr (.inr (.inl (⟨rfl, rfl, rfl⟩))) | exact .inr (.inr (.inr (.inl (⟨rfl, rfl, rfl⟩)))) | exact .inr (.inr (.inr (.inr (⟨rfl, rfl, rfl⟩)))) | exact .inl (⟨rfl, rfl⟩) | exact .inr (.inl (⟨rfl, rfl⟩)) | exact .inr (.inr (⟨rfl, rfl⟩)) | exact ⟨rfl, rfl⟩ | exact rfl | exact allU rfl)
def P__law_divisors_right : Nat → List D → Fn → Prop := fun j dv sm => (j = 6 ∧ dv = [] ∧ sm = sm_common_divisor) ∨ (j = 8 ∧ dv = [] ∧ sm = sm_divisors) ∨ (j = 10 ∧ dv = [] ∧ sm = sm__law_take) ∨ (j = 11 ∧ dv = [] ∧ sm = sm__law_some) ∨ (j = 12 ∧ dv = [] ∧ sm = sm__law_long) ∨ (j = 16 ∧ dv = [] ∧ sm = sm__law_shared)
def N__law_divisors_right : List Str := ["_law_urn_here", "_law_small", "_law_number", "_law_low", "_law_at", "_law_high", "_law_one", "_law_other", "_law_share"]
theorem k__law_divisors_right : chkSs (cf N__law_divisors_right (defScope s__law_divisors_right)) b__law_divisors_right (defBody s__law_divisors_right) = true := by decide +kernel
theorem sc__law_divisors_right : FnScope N__law_divisors_right ["_law_urn_here"] (defScope s__law_divisors_right) := ⟨rfl, rfl, rfl, by decide +kernel, rfl, by decide +kernel, by decide +kernel⟩
theorem o__law_divisors_right : okSs P__law_divisors_right G R U b__law_divisors_right := by
  repeat' (first | exact True.intro | refine And.intro ?_ ?_ | exact .inl (⟨rfl, rfl, rfl⟩) | exact .inr (.inl (⟨rfl, rfl, rfl⟩)) | exact .inr (.inr (.inl (⟨rfl, rfl, rfl⟩))) | exact .inr (.inr (.inr (.inl (⟨rfl, rfl, rfl⟩)))) | exact .inr (.inr (.inr (.inr (.inl (⟨rfl, rfl, rfl⟩))))) | exact .inr (.inr (.inr (.inr (.inr (⟨rfl, rfl, rfl⟩))))) | exact .inl (⟨rfl, rfl⟩) | exact .inr (.inl (⟨rfl, rfl⟩)) | exact .inr (.inr (⟨rfl, rfl⟩)) | exact ⟨rfl, rfl⟩ | exact rfl | exact allU rfl)
def P__law_wrong_right : Nat → List D → Fn → Prop := fun j dv sm => (j = 1 ∧ dv = [] ∧ sm = sm_is_integer) ∨ (j = 11 ∧ dv = [] ∧ sm = sm__law_some) ∨ (j = 12 ∧ dv = [] ∧ sm = sm__law_long) ∨ (j = 15 ∧ dv = [] ∧ sm = sm__law_refused)
def N__law_wrong_right : List Str := ["_law_urn_here", "_law_wrong", "_law_later", "_law_none"]
theorem k__law_wrong_right : chkSs (cf N__law_wrong_right (defScope s__law_wrong_right)) b__law_wrong_right (defBody s__law_wrong_right) = true := by decide +kernel
theorem sc__law_wrong_right : FnScope N__law_wrong_right ["_law_urn_here"] (defScope s__law_wrong_right) := ⟨rfl, rfl, rfl, by decide +kernel, rfl, by decide +kernel, by decide +kernel⟩
theorem o__law_wrong_right : okSs P__law_wrong_right G R U b__law_wrong_right := by
  repeat' (first | exact True.intro | refine And.intro ?_ ?_ | exact .inl (⟨rfl, rfl, rfl⟩) | exact .inr (.inl (⟨rfl, rfl, rfl⟩)) | exact .inr (.inr (.inl (⟨rfl, rfl, rfl⟩))) | exact .inr (.inr (.inr (⟨rfl, rfl, rfl⟩))) | exact .inl (⟨rfl, rfl⟩) | exact .inr (.inl (⟨rfl, rfl⟩)) | exact .inr (.inr (⟨rfl, rfl⟩)) | exact ⟨rfl, rfl⟩ | exact rfl | exact allU rfl)
def P_law : Nat → List D → Fn → Prop := fun j dv sm => (j = 5 ∧ dv = [] ∧ sm = sm_choose) ∨ (j = 6 ∧ dv = [] ∧ sm = sm_common_divisor) ∨ (j = 8 ∧ dv = [] ∧ sm = sm_divisors) ∨ (j = 9 ∧ dv = [] ∧ sm = sm__law_urn) ∨ (j = 17 ∧ dv = [] ∧ sm = sm__law_choices_right) ∨ (j = 18 ∧ dv = [] ∧ sm = sm__law_divisors_right) ∨ (j = 19 ∧ dv = [] ∧ sm = sm__law_wrong_right)
def N_law : List Str := ["_law_script", "_law_at", "_law_urn_here", "_law_written"]
theorem k_law : chkSs (cf N_law (defScope s_law)) b_law (defBody s_law) = true := by decide +kernel
theorem sc_law : FnScope N_law ["_law_script"] (defScope s_law) := ⟨rfl, rfl, rfl, by decide +kernel, rfl, by decide +kernel, by decide +kernel⟩
theorem o_law : okSs P_law G R U b_law := by
  repeat' (first | exact True.intro | refine And.intro ?_ ?_ | exact .inl (⟨rfl, rfl, rfl⟩) | exact .inr (.inl (⟨rfl, rfl, rfl⟩)) | exact .inr (.inr (.inl (⟨rfl, rfl, rfl⟩))) | exact .inr (.inr (.inr (.inl (⟨rfl, rfl, rfl⟩)))) | exact .inr (.inr (.inr (.inr (.inl (⟨rfl, rfl, rfl⟩))))) | exact .inr (.inr (.inr (.inr (.inr (.inl (⟨rfl, rfl, rfl⟩)))))) | exact .inr (.inr (.inr (.inr (.inr (.inr (⟨rfl, rfl, rfl⟩)))))) | exact .inl (⟨rfl, rfl⟩) | exact .inr (.inl (⟨rfl, rfl⟩)) | exact .inr (.inr (⟨rfl, rfl⟩)) | exact ⟨rfl, rfl⟩ | exact rfl | exact allU rfl)
theorem all_mk {Pg : Program} (hPg : Pg = PySem.Challenge.pw_stairlots_k01_whole_integers_and_binomia) {w : World} {K : PySem.W.Frag} {h : Heap} {mg : Str → Option Value} {fa : Addr} (X : K.In h) (G0 : h.Ns mainGlobals mg) (hfa : mg "law" = some (.ref fa))
    {C0 I0 D0 E0 : Addr} {xod0 xan0 xfo0 xcl0 : Option Addr} {xsl0 xfs0 xcs0 : Array (Option Value)} {xdV0 xkV0 xdc0 xpm0 xct0 xfc0 xcc0 : Value} {xvs0 : Array Value} {xfl0 : Str} {xtk0 : Tok} {xcd0 : ClassData}
    {gt_BEYOND : Tok}
    {gt_MOST_CHOSEN : Tok}
    {gt_MOST_DIVIDED : Tok}
    {f0 : Addr} {od0 an0 : Option Addr} {sl0 : Array (Option Value)} {oc0 kV0 dc0 pm0 cd0 ct0 : Value}
    {f1 : Addr} {od1 an1 : Option Addr} {sl1 : Array (Option Value)} {oc1 kV1 dc1 pm1 cd1 ct1 : Value}
    {f2 : Addr} {od2 an2 : Option Addr} {sl2 : Array (Option Value)} {oc2 kV2 dc2 pm2 cd2 ct2 : Value}
    {f3 : Addr} {od3 an3 : Option Addr} {sl3 : Array (Option Value)} {oc3 kV3 dc3 pm3 cd3 ct3 : Value}
    {f4 : Addr} {od4 an4 : Option Addr} {sl4 : Array (Option Value)} {oc4 kV4 dc4 pm4 cd4 ct4 : Value}
    {f5 : Addr} {od5 an5 : Option Addr} {sl5 : Array (Option Value)} {oc5 kV5 dc5 pm5 cd5 ct5 : Value}
    {f6 : Addr} {od6 an6 : Option Addr} {sl6 : Array (Option Value)} {oc6 kV6 dc6 pm6 cd6 ct6 : Value}
    {f7 : Addr} {od7 an7 : Option Addr} {sl7 : Array (Option Value)} {oc7 kV7 dc7 pm7 cd7 ct7 : Value}
    {f8 : Addr} {od8 an8 : Option Addr} {sl8 : Array (Option Value)} {oc8 kV8 dc8 pm8 cd8 ct8 : Value}
    {f9 : Addr} {od9 an9 : Option Addr} {sl9 : Array (Option Value)} {oc9 kV9 dc9 pm9 cd9 ct9 : Value}
    {f10 : Addr} {od10 an10 : Option Addr} {sl10 : Array (Option Value)} {oc10 kV10 dc10 pm10 cd10 ct10 : Value}
    {f11 : Addr} {od11 an11 : Option Addr} {sl11 : Array (Option Value)} {oc11 kV11 dc11 pm11 cd11 ct11 : Value}
    {f12 : Addr} {od12 an12 : Option Addr} {sl12 : Array (Option Value)} {oc12 kV12 dc12 pm12 cd12 ct12 : Value}
    {f13 : Addr} {od13 an13 : Option Addr} {sl13 : Array (Option Value)} {oc13 kV13 dc13 pm13 cd13 ct13 : Value}
    {f14 : Addr} {od14 an14 : Option Addr} {sl14 : Array (Option Value)} {oc14 kV14 dc14 pm14 cd14 ct14 : Value}
    {f15 : Addr} {od15 an15 : Option Addr} {sl15 : Array (Option Value)} {oc15 kV15 dc15 pm15 cd15 ct15 : Value}
    {f16 : Addr} {od16 an16 : Option Addr} {sl16 : Array (Option Value)} {oc16 kV16 dc16 pm16 cd16 ct16 : Value}
    {f17 : Addr} {od17 an17 : Option Addr} {sl17 : Array (Option Value)} {oc17 kV17 dc17 pm17 cd17 ct17 : Value}
    {f18 : Addr} {od18 an18 : Option Addr} {sl18 : Array (Option Value)} {oc18 kV18 dc18 pm18 cd18 ct18 : Value}
    {f19 : Addr} {od19 an19 : Option Addr} {sl19 : Array (Option Value)} {oc19 kV19 dc19 pm19 cd19 ct19 : Value}
    {f20 : Addr} {od20 an20 : Option Addr} {sl20 : Array (Option Value)} {oc20 kV20 dc20 pm20 cd20 ct20 : Value}
    (xa0 : PySem.W.nsIn K mainGlobals "InvalidNumber" = some (some (.ref C0)))
    (xq0 : PySem.W.excInitIn K C0 [.type "IndexError", .type "LookupError", .type "Exception", .type "BaseException", .type "object"] "IndexError.__new__" = true)
    (xi0 : PySem.W.findIn K (.ref C0) "__init__" = some (some (.ref I0)))
    (xl0 : K.lookup I0 = some ⟨.type "function", xod0, .func (PySem.W.ksFn "__init__" "InvalidNumber.__init__" (defArgs s_InvalidNumber_init) (defBody s_InvalidNumber_init) (defScope s_InvalidNumber_init) xdV0 xkV0 xdc0 xpm0 xan0 (.ref D0) xct0 E0), xsl0⟩)
    (xdf0 : xdV0 = .none)
    (xc0 : PySem.W.codeIn K (.ref D0) "InvalidNumber.__init__" = true)
    (xf0 : K.lookup D0 = some ⟨xfc0, xfo0, .fields xvs0, xfs0⟩)
    (xv0 : xvs0[2]? = some (.str xfl0 xtk0))
    (xff0 : ((Pg.main.file : Str) == xfl0) = true)
    (xe0 : K.lookup E0 = some ⟨xcc0, xcl0, .cell (some (.ref C0)), xcs0⟩)
    (xk0 : PySem.W.clsIn K C0 = some xcd0)
    (xm0 : PySem.W.mroIn K C0 (.ref C0) = some true)
    (xs0 : PySem.W.ks_superIn K C0 C0 "__init__" = some (some (.builtin "IndexError.__init__")))
    (xb0 : PySem.W.subIn K (.ref C0) (.type "IndexError") = some true)
    (xt0 : PySem.W.findIn K (.ref C0) "__setattr__" = some (some (.builtin "object.__setattr__")))
    (xo0 : PySem.W.excOver K C0 [.type "IndexError", .type "LookupError", .type "Exception", .type "BaseException", .type "object"] = true)
    (xta0 : PySem.W.takerIn K C0 "given" = some none)
    (xh0 : PySem.W.hasDictIn K C0 = true)
    (xx0 : PySem.W.subIn K (.ref C0) (.type "BaseException") = some true)
    (xy0 : PySem.W.typeIn K (.ref C0) = some (.type "type"))
    (xkc0 : PySem.W.keepIn K (.ref C0) = true)
    (xga0 : PySem.W.findIn K (.ref C0) "__getattribute__" = some (some (.builtin "BaseException.__getattribute__")))
    (xgg0 : PySem.W.findIn K (.ref C0) "__getattr__" = some none)
    (xnf0 : PySem.W.findIn K (.ref C0) "given" = some none)
    (xu0_0 : PySem.W.subIn K (.ref C0) (.ref C0) = some true)
    (third : PySem.W.nsIn K cStatics "thirdparty.any" = some none)
    (z_super : PySem.W.nsIn K mainGlobals "super" = some none)
    (z_str : PySem.W.nsIn K mainGlobals "str" = some none)
    (z_abs : PySem.W.nsIn K mainGlobals "abs" = some none)
    (z_int : PySem.W.nsIn K mainGlobals "int" = some none)
    (z_len : PySem.W.nsIn K mainGlobals "len" = some none)
    (z_max : PySem.W.nsIn K mainGlobals "max" = some none)
    (z_min : PySem.W.nsIn K mainGlobals "min" = some none)
    (z_repr : PySem.W.nsIn K mainGlobals "repr" = some none)
    (z_sum : PySem.W.nsIn K mainGlobals "sum" = some none)
    (z_tuple : PySem.W.nsIn K mainGlobals "tuple" = some none)
    (z_bool : PySem.W.nsIn K mainGlobals "bool" = some none)
    (z_isinstance : PySem.W.nsIn K mainGlobals "isinstance" = some none)
    (z_range : PySem.W.nsIn K mainGlobals "range" = some none)
    (z_gcd : PySem.W.nsIn K mainGlobals "gcd" = some (some (.builtin "math.gcd")))
    (g_BEYOND : PySem.W.nsIn K mainGlobals "BEYOND" = some (some (.int 1000000000000000000000000000000000000000000000000000000000000 gt_BEYOND)))
    (g_MOST_CHOSEN : PySem.W.nsIn K mainGlobals "MOST_CHOSEN" = some (some (.int 60 gt_MOST_CHOSEN)))
    (g_MOST_DIVIDED : PySem.W.nsIn K mainGlobals "MOST_DIVIDED" = some (some (.int 1000000 gt_MOST_DIVIDED)))
    (a0 : PySem.W.nsIn K mainGlobals "is_whole" = some (some (.ref f0)))
    (l0 : K.lookup f0 = some ⟨oc0, od0, .func (PySem.W.fnOf "is_whole" "is_whole" (defArgs s_is_whole) (defBody s_is_whole) (defScope s_is_whole) .none kV0 dc0 pm0 an0 cd0 ct0), sl0⟩)
    (c0 : PySem.W.codeIn K cd0 "is_whole" = true)
    (k0 : PySem.W.keepIn K (.ref f0) = true)
    (a1 : PySem.W.nsIn K mainGlobals "is_integer" = some (some (.ref f1)))
    (l1 : K.lookup f1 = some ⟨oc1, od1, .func (PySem.W.fnOf "is_integer" "is_integer" (defArgs s_is_integer) (defBody s_is_integer) (defScope s_is_integer) .none kV1 dc1 pm1 an1 cd1 ct1), sl1⟩)
    (c1 : PySem.W.codeIn K cd1 "is_integer" = true)
    (k1 : PySem.W.keepIn K (.ref f1) = true)
    (a2 : PySem.W.nsIn K mainGlobals "require_integer" = some (some (.ref f2)))
    (l2 : K.lookup f2 = some ⟨oc2, od2, .func (PySem.W.fnOf "require_integer" "require_integer" (defArgs s_require_integer) (defBody s_require_integer) (defScope s_require_integer) .none kV2 dc2 pm2 an2 cd2 ct2), sl2⟩)
    (c2 : PySem.W.codeIn K cd2 "require_integer" = true)
    (k2 : PySem.W.keepIn K (.ref f2) = true)
    (a3 : PySem.W.nsIn K mainGlobals "require_within" = some (some (.ref f3)))
    (l3 : K.lookup f3 = some ⟨oc3, od3, .func (PySem.W.fnOf "require_within" "require_within" (defArgs s_require_within) (defBody s_require_within) (defScope s_require_within) .none kV3 dc3 pm3 an3 cd3 ct3), sl3⟩)
    (c3 : PySem.W.codeIn K cd3 "require_within" = true)
    (k3 : PySem.W.keepIn K (.ref f3) = true)
    (a4 : PySem.W.nsIn K mainGlobals "chosen" = some (some (.ref f4)))
    (l4 : K.lookup f4 = some ⟨oc4, od4, .func (PySem.W.fnOf "chosen" "chosen" (defArgs s_chosen) (defBody s_chosen) (defScope s_chosen) .none kV4 dc4 pm4 an4 cd4 ct4), sl4⟩)
    (c4 : PySem.W.codeIn K cd4 "chosen" = true)
    (k4 : PySem.W.keepIn K (.ref f4) = true)
    (a5 : PySem.W.nsIn K mainGlobals "choose" = some (some (.ref f5)))
    (l5 : K.lookup f5 = some ⟨oc5, od5, .func (PySem.W.fnOf "choose" "choose" (defArgs s_choose) (defBody s_choose) (defScope s_choose) .none kV5 dc5 pm5 an5 cd5 ct5), sl5⟩)
    (c5 : PySem.W.codeIn K cd5 "choose" = true)
    (k5 : PySem.W.keepIn K (.ref f5) = true)
    (a6 : PySem.W.nsIn K mainGlobals "common_divisor" = some (some (.ref f6)))
    (l6 : K.lookup f6 = some ⟨oc6, od6, .func (PySem.W.fnOf "common_divisor" "common_divisor" (defArgs s_common_divisor) (defBody s_common_divisor) (defScope s_common_divisor) .none kV6 dc6 pm6 an6 cd6 ct6), sl6⟩)
    (c6 : PySem.W.codeIn K cd6 "common_divisor" = true)
    (k6 : PySem.W.keepIn K (.ref f6) = true)
    (a7 : PySem.W.nsIn K mainGlobals "divisors_of" = some (some (.ref f7)))
    (l7 : K.lookup f7 = some ⟨oc7, od7, .func (PySem.W.fnOf "divisors_of" "divisors_of" (defArgs s_divisors_of) (defBody s_divisors_of) (defScope s_divisors_of) .none kV7 dc7 pm7 an7 cd7 ct7), sl7⟩)
    (c7 : PySem.W.codeIn K cd7 "divisors_of" = true)
    (k7 : PySem.W.keepIn K (.ref f7) = true)
    (a8 : PySem.W.nsIn K mainGlobals "divisors" = some (some (.ref f8)))
    (l8 : K.lookup f8 = some ⟨oc8, od8, .func (PySem.W.fnOf "divisors" "divisors" (defArgs s_divisors) (defBody s_divisors) (defScope s_divisors) .none kV8 dc8 pm8 an8 cd8 ct8), sl8⟩)
    (c8 : PySem.W.codeIn K cd8 "divisors" = true)
    (k8 : PySem.W.keepIn K (.ref f8) = true)
    (a9 : PySem.W.nsIn K mainGlobals "_law_urn" = some (some (.ref f9)))
    (l9 : K.lookup f9 = some ⟨oc9, od9, .func (PySem.W.fnOf "_law_urn" "_law_urn" (defArgs s__law_urn) (defBody s__law_urn) (defScope s__law_urn) .none kV9 dc9 pm9 an9 cd9 ct9), sl9⟩)
    (c9 : PySem.W.codeIn K cd9 "_law_urn" = true)
    (k9 : PySem.W.keepIn K (.ref f9) = true)
    (a10 : PySem.W.nsIn K mainGlobals "_law_take" = some (some (.ref f10)))
    (l10 : K.lookup f10 = some ⟨oc10, od10, .func (PySem.W.fnOf "_law_take" "_law_take" (defArgs s__law_take) (defBody s__law_take) (defScope s__law_take) .none kV10 dc10 pm10 an10 cd10 ct10), sl10⟩)
    (c10 : PySem.W.codeIn K cd10 "_law_take" = true)
    (k10 : PySem.W.keepIn K (.ref f10) = true)
    (a11 : PySem.W.nsIn K mainGlobals "_law_some" = some (some (.ref f11)))
    (l11 : K.lookup f11 = some ⟨oc11, od11, .func (PySem.W.fnOf "_law_some" "_law_some" (defArgs s__law_some) (defBody s__law_some) (defScope s__law_some) .none kV11 dc11 pm11 an11 cd11 ct11), sl11⟩)
    (c11 : PySem.W.codeIn K cd11 "_law_some" = true)
    (k11 : PySem.W.keepIn K (.ref f11) = true)
    (a12 : PySem.W.nsIn K mainGlobals "_law_long" = some (some (.ref f12)))
    (l12 : K.lookup f12 = some ⟨oc12, od12, .func (PySem.W.fnOf "_law_long" "_law_long" (defArgs s__law_long) (defBody s__law_long) (defScope s__law_long) .none kV12 dc12 pm12 an12 cd12 ct12), sl12⟩)
    (c12 : PySem.W.codeIn K cd12 "_law_long" = true)
    (k12 : PySem.W.keepIn K (.ref f12) = true)
    (a13 : PySem.W.nsIn K mainGlobals "_law_over" = some (some (.ref f13)))
    (l13 : K.lookup f13 = some ⟨oc13, od13, .func (PySem.W.fnOf "_law_over" "_law_over" (defArgs s__law_over) (defBody s__law_over) (defScope s__law_over) .none kV13 dc13 pm13 an13 cd13 ct13), sl13⟩)
    (c13 : PySem.W.codeIn K cd13 "_law_over" = true)
    (k13 : PySem.W.keepIn K (.ref f13) = true)
    (a14 : PySem.W.nsIn K mainGlobals "_law_binomial" = some (some (.ref f14)))
    (l14 : K.lookup f14 = some ⟨oc14, od14, .func (PySem.W.fnOf "_law_binomial" "_law_binomial" (defArgs s__law_binomial) (defBody s__law_binomial) (defScope s__law_binomial) .none kV14 dc14 pm14 an14 cd14 ct14), sl14⟩)
    (c14 : PySem.W.codeIn K cd14 "_law_binomial" = true)
    (k14 : PySem.W.keepIn K (.ref f14) = true)
    (a15 : PySem.W.nsIn K mainGlobals "_law_refused" = some (some (.ref f15)))
    (l15 : K.lookup f15 = some ⟨oc15, od15, .func (PySem.W.fnOf "_law_refused" "_law_refused" (defArgs s__law_refused) (defBody s__law_refused) (defScope s__law_refused) .none kV15 dc15 pm15 an15 cd15 ct15), sl15⟩)
    (c15 : PySem.W.codeIn K cd15 "_law_refused" = true)
    (k15 : PySem.W.keepIn K (.ref f15) = true)
    (a16 : PySem.W.nsIn K mainGlobals "_law_shared" = some (some (.ref f16)))
    (l16 : K.lookup f16 = some ⟨oc16, od16, .func (PySem.W.fnOf "_law_shared" "_law_shared" (defArgs s__law_shared) (defBody s__law_shared) (defScope s__law_shared) .none kV16 dc16 pm16 an16 cd16 ct16), sl16⟩)
    (c16 : PySem.W.codeIn K cd16 "_law_shared" = true)
    (k16 : PySem.W.keepIn K (.ref f16) = true)
    (a17 : PySem.W.nsIn K mainGlobals "_law_choices_right" = some (some (.ref f17)))
    (l17 : K.lookup f17 = some ⟨oc17, od17, .func (PySem.W.fnOf "_law_choices_right" "_law_choices_right" (defArgs s__law_choices_right) (defBody s__law_choices_right) (defScope s__law_choices_right) .none kV17 dc17 pm17 an17 cd17 ct17), sl17⟩)
    (c17 : PySem.W.codeIn K cd17 "_law_choices_right" = true)
    (k17 : PySem.W.keepIn K (.ref f17) = true)
    (a18 : PySem.W.nsIn K mainGlobals "_law_divisors_right" = some (some (.ref f18)))
    (l18 : K.lookup f18 = some ⟨oc18, od18, .func (PySem.W.fnOf "_law_divisors_right" "_law_divisors_right" (defArgs s__law_divisors_right) (defBody s__law_divisors_right) (defScope s__law_divisors_right) .none kV18 dc18 pm18 an18 cd18 ct18), sl18⟩)
    (c18 : PySem.W.codeIn K cd18 "_law_divisors_right" = true)
    (k18 : PySem.W.keepIn K (.ref f18) = true)
    (a19 : PySem.W.nsIn K mainGlobals "_law_wrong_right" = some (some (.ref f19)))
    (l19 : K.lookup f19 = some ⟨oc19, od19, .func (PySem.W.fnOf "_law_wrong_right" "_law_wrong_right" (defArgs s__law_wrong_right) (defBody s__law_wrong_right) (defScope s__law_wrong_right) .none kV19 dc19 pm19 an19 cd19 ct19), sl19⟩)
    (c19 : PySem.W.codeIn K cd19 "_law_wrong_right" = true)
    (k19 : PySem.W.keepIn K (.ref f19) = true)
    (a20 : PySem.W.nsIn K mainGlobals "law" = some (some (.ref f20)))
    (l20 : K.lookup f20 = some ⟨oc20, od20, .func (PySem.W.fnOf "law" "law" (defArgs s_law) (defBody s_law) (defScope s_law) .none kV20 dc20 pm20 an20 cd20 ct20), sl20⟩)
    (c20 : PySem.W.codeIn K cd20 "law" = true)
    (k20 : PySem.W.keepIn K (.ref f20) = true)
    : ∃ (T : Tb) (fd : FuncData), T.K = K ∧ (∀ (s : Shared) (u : Value), BindsTo s fd ⟨[u], []⟩ [("_law_script", u)]) ∧ ∀ base : Heap, K.In base → base.Ns mainGlobals mg → FnG Pg w K mg base 8 fa fd ["_law_script"] (spOf T sm_law) := by
  have e := hfa.symm.trans (PySem.W.mg_of X G0 a20)
  cases e
  let T : Tb := { K := K, ca := fun _ => 0, xa := fun x => match x with | _ => .ref C0, xf := fun x => match x with | _ => "given", xm := xm, hc := fun x => match x with | _ => .ref C0 }
  subst xdf0
  have Y0 : XCls Pg K C0 "IndexError" "IndexError.__init__" "IndexError.__new__" [.type "IndexError", .type "LookupError", .type "Exception", .type "BaseException", .type "object"] I0 D0 E0 "InvalidNumber.__init__" "self" "given" "given" (defScope s_InvalidNumber_init) (defBody s_InvalidNumber_init) (.Call (.Name "str" _) [.Name "given" _] [] _) :=
    { FB := PySem.F.excBase_IndexError, KF := PySem.W.kxs_IndexError, SF := PySem.F.store_IndexError, q := xq0, init := xi0, fn := ⟨_, _, _, _, _, _, _, _, _, _, _, _, xl0, rfl, rfl, rfl, fun s x y => .of_eq rfl⟩, code := xc0, file := ⟨_, _, _, _, _, _, xf0, xv0, xff0⟩, cell := ⟨_, _, _, xe0⟩, cls := ⟨_, xk0⟩, mro := xm0, sup := xs0, sub := xb0, third := third, sa := xt0, over := xo0, taker := xta0, hd := xh0, exC := xx0, tyC := xy0, kC := xkc0, top := by rw [hPg]; decide +kernel, txt := ⟨_, _, _, _, _, _, _, _, _, rfl, fun L => ⟨_, rfl⟩⟩, ks := by decide +kernel, kc := by decide +kernel, kslf := by decide +kernel, kpar := by decide +kernel, hne := by decide +kernel, dslf := by decide +kernel, dpar := by decide +kernel, nocell := by decide +kernel, kind := rfl, co := rfl, gen := rfl }
  have gl0 : ∀ N sc, ∀ base : Heap, Glob T Pg w K mg base G U (cf N sc) := fun N sc base => by
    refine ⟨rfl, fun b hb => ?_, fun _ => PySem.W.mg_none_of X G0 z_isinstance, fun t ht => ?_, fun _ => PySem.W.mg_none_of X G0 z_range, fun i d hd => ?_, fun k hk => ?_, fun x k hk => ?_, fun x k hk hx _ => ?_⟩
    · replace hb : bkB b = true := hb
      cases b <;> first | (exact absurd hb (by decide)) | exact PySem.W.mg_none_of X G0 z_abs | exact PySem.W.mg_none_of X G0 z_int | exact PySem.W.mg_none_of X G0 z_len | exact PySem.W.mg_none_of X G0 z_max | exact PySem.W.mg_none_of X G0 z_min | exact PySem.W.mg_none_of X G0 z_repr | exact PySem.W.mg_none_of X G0 z_sum | exact PySem.W.mg_none_of X G0 z_tuple | exact PySem.W.mg_of X G0 z_gcd
    · replace ht : tkB t = true := ht
      cases t <;> first | (exact absurd ht (by decide)) | exact PySem.W.mg_none_of X G0 z_bool | exact PySem.W.mg_none_of X G0 z_int
    · rcases hd with ⟨rfl, rfl⟩ | ⟨rfl, rfl⟩ | ⟨rfl, rfl⟩
      · exact ⟨_, .int 1000000000000000000000000000000000000000000000000000000000000, PySem.W.mg_of X G0 g_BEYOND, ⟨_, rfl⟩, fun W => .int _⟩
      · exact ⟨_, .int 60, PySem.W.mg_of X G0 g_MOST_CHOSEN, ⟨_, rfl⟩, fun W => .int _⟩
      · exact ⟨_, .int 1000000, PySem.W.mg_of X G0 g_MOST_DIVIDED, ⟨_, rfl⟩, fun W => .int _⟩
    · match k, hk with
      | 0, _ => exact .inl (PySem.W.mg_of X G0 xa0)
    · match k, hk with
      | 0, _ =>
        exact exm_by xx0 xk0 xy0 xu0_0
    · match k, hk with
      | 0, _ => exact ⟨C0, rfl, rfl, ⟨xga0, xgg0, xx0, xh0⟩, xnf0⟩
  refine ⟨T, PySem.W.fnOf "law" "law" (defArgs s_law) (defBody s_law) (defScope s_law) .none kV20 dc20 pm20 an20 cd20 ct20, rfl, fun s u => .of_eq rfl, fun base kb nb => ?_⟩
  have M0 : MkAt T Pg w K mg base "InvalidNumber" 1 mk_InvalidNumber := mk_str (T := T) rfl Y0 rfl rfl (PySem.W.mg_of X G0 xa0) (by decide +kernel) (PySem.W.mg_none_of X G0 z_super) (PySem.W.mg_none_of X G0 z_str) (by decide +kernel)
  have F0 := fun_mk (st := s_is_whole) l0 c0 k0
  have B0 : FnG Pg w K mg base 2 f0 _ ["value"] (spOf T sm_is_whole) := fn_byF (P := P_is_whole) (R := R) (gl0 N_is_whole (defScope s_is_whole) base) rfl rfl rfl (fun j dv sm z => z.elim) (by
    rintro k mk (⟨rfl, rfl⟩)
    · exact M0.mono (by decide)
    ) F0 sc_is_whole o_is_whole k_is_whole
  have A0 : FnAt T Pg w K mg base "is_whole" 2 [] sm_is_whole := ⟨f0, _, _, [], [], B0, PySem.W.mg_of X G0 a0, k0, F0.binds (ps := ["value"]) fun _ _ _ _ _ _ us hl => match us, hl with | [_], _ => rfl, .nil, fun _ => .nil⟩
  have F1 := fun_mk (st := s_is_integer) l1 c1 k1
  have B1 : FnG Pg w K mg base 3 f1 _ ["value"] (spOf T sm_is_integer) := fn_byF (P := P_is_integer) (R := R) (gl0 N_is_integer (defScope s_is_integer) base) rfl rfl rfl (by
    rintro j dv sm (⟨rfl, rfl, rfl⟩)
    · exact A0.mono (by decide)
    ) (by
    rintro k mk (⟨rfl, rfl⟩)
    · exact M0.mono (by decide)
    ) F1 sc_is_integer o_is_integer k_is_integer
  have A1 : FnAt T Pg w K mg base "is_integer" 3 [] sm_is_integer := ⟨f1, _, _, [], [], B1, PySem.W.mg_of X G0 a1, k1, F1.binds (ps := ["value"]) fun _ _ _ _ _ _ us hl => match us, hl with | [_], _ => rfl, .nil, fun _ => .nil⟩
  have F2 := fun_mk (st := s_require_integer) l2 c2 k2
  have B2 : FnG Pg w K mg base 4 f2 _ ["value"] (spOf T sm_require_integer) := fn_byF (P := P_require_integer) (R := R) (gl0 N_require_integer (defScope s_require_integer) base) rfl rfl rfl (by
    rintro j dv sm (⟨rfl, rfl, rfl⟩)
    · exact A1.mono (by decide)
    ) (by
    rintro k mk (⟨rfl, rfl⟩)
    · exact M0.mono (by decide)
    ) F2 sc_require_integer o_require_integer k_require_integer
  have A2 : FnAt T Pg w K mg base "require_integer" 4 [] sm_require_integer := ⟨f2, _, _, [], [], B2, PySem.W.mg_of X G0 a2, k2, F2.binds (ps := ["value"]) fun _ _ _ _ _ _ us hl => match us, hl with | [_], _ => rfl, .nil, fun _ => .nil⟩
  have F3 := fun_mk (st := s_require_within) l3 c3 k3
  have B3 : FnG Pg w K mg base 3 f3 _ ["value", "least", "most"] (spOf T sm_require_within) := fn_byF (P := P_require_within) (R := R) (gl0 N_require_within (defScope s_require_within) base) rfl rfl rfl (by
    rintro j dv sm (⟨rfl, rfl, rfl⟩)
    · exact A0.mono (by decide)
    ) (by
    rintro k mk (⟨rfl, rfl⟩)
    · exact M0.mono (by decide)
    ) F3 sc_require_within o_require_within k_require_within
  have A3 : FnAt T Pg w K mg base "require_within" 3 [] sm_require_within := ⟨f3, _, _, [], [], B3, PySem.W.mg_of X G0 a3, k3, F3.binds (ps := ["value", "least", "most"]) fun _ _ _ _ _ _ us hl => match us, hl with | [_, _, _], _ => rfl, .nil, fun _ => .nil⟩
  have F4 := fun_mk (st := s_chosen) l4 c4 k4
  have B4 : FnG Pg w K mg base 2 f4 _ ["number", "many"] (spOf T sm_chosen) := fn_byF (P := P_chosen) (R := R) (gl0 N_chosen (defScope s_chosen) base) rfl rfl rfl (fun j dv sm z => z.elim) (by
    rintro k mk (⟨rfl, rfl⟩)
    · exact M0.mono (by decide)
    ) F4 sc_chosen o_chosen k_chosen
  have A4 : FnAt T Pg w K mg base "chosen" 2 [] sm_chosen := ⟨f4, _, _, [], [], B4, PySem.W.mg_of X G0 a4, k4, F4.binds (ps := ["number", "many"]) fun _ _ _ _ _ _ us hl => match us, hl with | [_, _], _ => rfl, .nil, fun _ => .nil⟩
  have F5 := fun_mk (st := s_choose) l5 c5 k5
  have B5 : FnG Pg w K mg base 5 f5 _ ["number", "many"] (spOf T sm_choose) := fn_byF (P := P_choose) (R := R) (gl0 N_choose (defScope s_choose) base) rfl rfl rfl (by
    rintro j dv sm (⟨rfl, rfl, rfl⟩ | ⟨rfl, rfl, rfl⟩ | ⟨rfl, rfl, rfl⟩)
    · exact A2.mono (by decide)
    · exact A3.mono (by decide)
    · exact A4.mono (by decide)
    ) (by
    rintro k mk (⟨rfl, rfl⟩)
    · exact M0.mono (by decide)
    ) F5 sc_choose o_choose k_choose
  have A5 : FnAt T Pg w K mg base "choose" 5 [] sm_choose := ⟨f5, _, _, [], [], B5, PySem.W.mg_of X G0 a5, k5, F5.binds (ps := ["number", "many"]) fun _ _ _ _ _ _ us hl => match us, hl with | [_, _], _ => rfl, .nil, fun _ => .nil⟩
  have F6 := fun_mk (st := s_common_divisor) l6 c6 k6
  have B6 : FnG Pg w K mg base 5 f6 _ ["one", "other"] (spOf T sm_common_divisor) := fn_byF (P := P_common_divisor) (R := R) (gl0 N_common_divisor (defScope s_common_divisor) base) rfl rfl rfl (by
    rintro j dv sm (⟨rfl, rfl, rfl⟩)
    · exact A2.mono (by decide)
    ) (by
    rintro k mk (⟨rfl, rfl⟩)
    · exact M0.mono (by decide)
    ) F6 sc_common_divisor o_common_divisor k_common_divisor
  have A6 : FnAt T Pg w K mg base "common_divisor" 5 [] sm_common_divisor := ⟨f6, _, _, [], [], B6, PySem.W.mg_of X G0 a6, k6, F6.binds (ps := ["one", "other"]) fun _ _ _ _ _ _ us hl => match us, hl with | [_, _], _ => rfl, .nil, fun _ => .nil⟩
  have F7 := fun_mk (st := s_divisors_of) l7 c7 k7
  have B7 : FnG Pg w K mg base 2 f7 _ ["number"] (spOf T sm_divisors_of) := fn_byF (P := P_divisors_of) (R := R) (gl0 N_divisors_of (defScope s_divisors_of) base) rfl rfl rfl (fun j dv sm z => z.elim) (by
    rintro k mk (⟨rfl, rfl⟩)
    · exact M0.mono (by decide)
    ) F7 sc_divisors_of o_divisors_of k_divisors_of
  have A7 : FnAt T Pg w K mg base "divisors_of" 2 [] sm_divisors_of := ⟨f7, _, _, [], [], B7, PySem.W.mg_of X G0 a7, k7, F7.binds (ps := ["number"]) fun _ _ _ _ _ _ us hl => match us, hl with | [_], _ => rfl, .nil, fun _ => .nil⟩
  have F8 := fun_mk (st := s_divisors) l8 c8 k8
  have B8 : FnG Pg w K mg base 4 f8 _ ["number"] (spOf T sm_divisors) := fn_byF (P := P_divisors) (R := R) (gl0 N_divisors (defScope s_divisors) base) rfl rfl rfl (by
    rintro j dv sm (⟨rfl, rfl, rfl⟩ | ⟨rfl, rfl, rfl⟩)
    · exact A3.mono (by decide)
    · exact A7.mono (by decide)
    ) (by
    rintro k mk (⟨rfl, rfl⟩)
    · exact M0.mono (by decide)
    ) F8 sc_divisors o_divisors k_divisors
  have A8 : FnAt T Pg w K mg base "divisors" 4 [] sm_divisors := ⟨f8, _, _, [], [], B8, PySem.W.mg_of X G0 a8, k8, F8.binds (ps := ["number"]) fun _ _ _ _ _ _ us hl => match us, hl with | [_], _ => rfl, .nil, fun _ => .nil⟩
  have F9 := fun_mk (st := s__law_urn) l9 c9 k9
  have B9 : FnG Pg w K mg base 2 f9 _ ["_law_script", "_law_at"] (spOf T sm__law_urn) := fn_byF (P := P__law_urn) (R := R) (gl0 N__law_urn (defScope s__law_urn) base) rfl rfl rfl (fun j dv sm z => z.elim) (by
    rintro k mk (⟨rfl, rfl⟩)
    · exact M0.mono (by decide)
    ) F9 sc__law_urn o__law_urn k__law_urn
  have A9 : FnAt T Pg w K mg base "_law_urn" 2 [] sm__law_urn := ⟨f9, _, _, [], [], B9, PySem.W.mg_of X G0 a9, k9, F9.binds (ps := ["_law_script", "_law_at"]) fun _ _ _ _ _ _ us hl => match us, hl with | [_, _], _ => rfl, .nil, fun _ => .nil⟩
  have F10 := fun_mk (st := s__law_take) l10 c10 k10
  have B10 : FnG Pg w K mg base 2 f10 _ ["_law_urn_here", "_law_total"] (spOf T sm__law_take) := fn_byF (P := P__law_take) (R := R) (gl0 N__law_take (defScope s__law_take) base) rfl rfl rfl (fun j dv sm z => z.elim) (by
    rintro k mk (⟨rfl, rfl⟩)
    · exact M0.mono (by decide)
    ) F10 sc__law_take o__law_take k__law_take
  have A10 : FnAt T Pg w K mg base "_law_take" 2 [] sm__law_take := ⟨f10, _, _, [], [], B10, PySem.W.mg_of X G0 a10, k10, F10.binds (ps := ["_law_urn_here", "_law_total"]) fun _ _ _ _ _ _ us hl => match us, hl with | [_, _], _ => rfl, .nil, fun _ => .nil⟩
  have F11 := fun_mk (st := s__law_some) l11 c11 k11
  have B11 : FnG Pg w K mg base 3 f11 _ ["_law_urn_here", "_law_items"] (spOf T sm__law_some) := fn_byF (P := P__law_some) (R := R) (gl0 N__law_some (defScope s__law_some) base) rfl rfl rfl (by
    rintro j dv sm (⟨rfl, rfl, rfl⟩)
    · exact A10.mono (by decide)
    ) (by
    rintro k mk (⟨rfl, rfl⟩)
    · exact M0.mono (by decide)
    ) F11 sc__law_some o__law_some k__law_some
  have A11 : FnAt T Pg w K mg base "_law_some" 3 [] sm__law_some := ⟨f11, _, _, [], [], B11, PySem.W.mg_of X G0 a11, k11, F11.binds (ps := ["_law_urn_here", "_law_items"]) fun _ _ _ _ _ _ us hl => match us, hl with | [_, _], _ => rfl, .nil, fun _ => .nil⟩
  have F12 := fun_mk (st := s__law_long) l12 c12 k12
  have B12 : FnG Pg w K mg base 4 f12 _ ["_law_urn_here"] (spOf T sm__law_long) := fn_byF (P := P__law_long) (R := R) (gl0 N__law_long (defScope s__law_long) base) rfl rfl rfl (by
    rintro j dv sm (⟨rfl, rfl, rfl⟩ | ⟨rfl, rfl, rfl⟩)
    · exact A10.mono (by decide)
    · exact A11.mono (by decide)
    ) (by
    rintro k mk (⟨rfl, rfl⟩)
    · exact M0.mono (by decide)
    ) F12 sc__law_long o__law_long k__law_long
  have A12 : FnAt T Pg w K mg base "_law_long" 4 [] sm__law_long := ⟨f12, _, _, [], [], B12, PySem.W.mg_of X G0 a12, k12, F12.binds (ps := ["_law_urn_here"]) fun _ _ _ _ _ _ us hl => match us, hl with | [_], _ => rfl, .nil, fun _ => .nil⟩
  have F13 := fun_mk (st := s__law_over) l13 c13 k13
  have B13 : FnG Pg w K mg base 2 f13 _ ["_law_top", "_law_bottom"] (spOf T sm__law_over) := fn_byF (P := P__law_over) (R := R) (gl0 N__law_over (defScope s__law_over) base) rfl rfl rfl (fun j dv sm z => z.elim) (by
    rintro k mk (⟨rfl, rfl⟩)
    · exact M0.mono (by decide)
    ) F13 sc__law_over o__law_over k__law_over
  have A13 : FnAt T Pg w K mg base "_law_over" 2 [] sm__law_over := ⟨f13, _, _, [], [], B13, PySem.W.mg_of X G0 a13, k13, F13.binds (ps := ["_law_top", "_law_bottom"]) fun _ _ _ _ _ _ us hl => match us, hl with | [_, _], _ => rfl, .nil, fun _ => .nil⟩
  have F14 := fun_mk (st := s__law_binomial) l14 c14 k14
  have B14 : FnG Pg w K mg base 3 f14 _ ["_law_number", "_law_many"] (spOf T sm__law_binomial) := fn_byF (P := P__law_binomial) (R := R) (gl0 N__law_binomial (defScope s__law_binomial) base) rfl rfl rfl (by
    rintro j dv sm (⟨rfl, rfl, rfl⟩)
    · exact A13.mono (by decide)
    ) (by
    rintro k mk (⟨rfl, rfl⟩)
    · exact M0.mono (by decide)
    ) F14 sc__law_binomial o__law_binomial k__law_binomial
  have A14 : FnAt T Pg w K mg base "_law_binomial" 3 [] sm__law_binomial := ⟨f14, _, _, [], [], B14, PySem.W.mg_of X G0 a14, k14, F14.binds (ps := ["_law_number", "_law_many"]) fun _ _ _ _ _ _ us hl => match us, hl with | [_, _], _ => rfl, .nil, fun _ => .nil⟩
  have F15 := fun_mk (st := s__law_refused) l15 c15 k15
  have B15 : FnG Pg w K mg base 6 f15 _ ["_law_way", "_law_value", "_law_other"] (spOf T sm__law_refused) := fn_byF (P := P__law_refused) (R := R) (gl0 N__law_refused (defScope s__law_refused) base) rfl rfl rfl (by
    rintro j dv sm (⟨rfl, rfl, rfl⟩ | ⟨rfl, rfl, rfl⟩ | ⟨rfl, rfl, rfl⟩)
    · exact A5.mono (by decide)
    · exact A6.mono (by decide)
    · exact A8.mono (by decide)
    ) (by
    rintro k mk (⟨rfl, rfl⟩)
    · exact M0.mono (by decide)
    ) F15 sc__law_refused o__law_refused k__law_refused
  have A15 : FnAt T Pg w K mg base "_law_refused" 6 [] sm__law_refused := ⟨f15, _, _, [], [], B15, PySem.W.mg_of X G0 a15, k15, F15.binds (ps := ["_law_way", "_law_value", "_law_other"]) fun _ _ _ _ _ _ us hl => match us, hl with | [_, _, _], _ => rfl, .nil, fun _ => .nil⟩
  have F16 := fun_mk (st := s__law_shared) l16 c16 k16
  have B16 : FnG Pg w K mg base 2 f16 _ ["_law_one", "_law_other"] (spOf T sm__law_shared) := fn_byF (P := P__law_shared) (R := R) (gl0 N__law_shared (defScope s__law_shared) base) rfl rfl rfl (fun j dv sm z => z.elim) (by
    rintro k mk (⟨rfl, rfl⟩)
    · exact M0.mono (by decide)
    ) F16 sc__law_shared o__law_shared k__law_shared
  have A16 : FnAt T Pg w K mg base "_law_shared" 2 [] sm__law_shared := ⟨f16, _, _, [], [], B16, PySem.W.mg_of X G0 a16, k16, F16.binds (ps := ["_law_one", "_law_other"]) fun _ _ _ _ _ _ us hl => match us, hl with | [_, _], _ => rfl, .nil, fun _ => .nil⟩
  have F17 := fun_mk (st := s__law_choices_right) l17 c17 k17
  have B17 : FnG Pg w K mg base 6 f17 _ ["_law_urn_here"] (spOf T sm__law_choices_right) := fn_byF (P := P__law_choices_right) (R := R) (gl0 N__law_choices_right (defScope s__law_choices_right) base) rfl rfl rfl (by
    rintro j dv sm (⟨rfl, rfl, rfl⟩ | ⟨rfl, rfl, rfl⟩ | ⟨rfl, rfl, rfl⟩ | ⟨rfl, rfl, rfl⟩ | ⟨rfl, rfl, rfl⟩)
    · exact A5.mono (by decide)
    · exact A10.mono (by decide)
    · exact A11.mono (by decide)
    · exact A12.mono (by decide)
    · exact A14.mono (by decide)
    ) (by
    rintro k mk (⟨rfl, rfl⟩)
    · exact M0.mono (by decide)
    ) F17 sc__law_choices_right o__law_choices_right k__law_choices_right
  have A17 : FnAt T Pg w K mg base "_law_choices_right" 6 [] sm__law_choices_right := ⟨f17, _, _, [], [], B17, PySem.W.mg_of X G0 a17, k17, F17.binds (ps := ["_law_urn_here"]) fun _ _ _ _ _ _ us hl => match us, hl with | [_], _ => rfl, .nil, fun _ => .nil⟩
  have F18 := fun_mk (st := s__law_divisors_right) l18 c18 k18
  have B18 : FnG Pg w K mg base 6 f18 _ ["_law_urn_here"] (spOf T sm__law_divisors_right) := fn_byF (P := P__law_divisors_right) (R := R) (gl0 N__law_divisors_right (defScope s__law_divisors_right) base) rfl rfl rfl (by
    rintro j dv sm (⟨rfl, rfl, rfl⟩ | ⟨rfl, rfl, rfl⟩ | ⟨rfl, rfl, rfl⟩ | ⟨rfl, rfl, rfl⟩ | ⟨rfl, rfl, rfl⟩ | ⟨rfl, rfl, rfl⟩)
    · exact A6.mono (by decide)
    · exact A8.mono (by decide)
    · exact A10.mono (by decide)
    · exact A11.mono (by decide)
    · exact A12.mono (by decide)
    · exact A16.mono (by decide)
    ) (by
    rintro k mk (⟨rfl, rfl⟩)
    · exact M0.mono (by decide)
    ) F18 sc__law_divisors_right o__law_divisors_right k__law_divisors_right
  have A18 : FnAt T Pg w K mg base "_law_divisors_right" 6 [] sm__law_divisors_right := ⟨f18, _, _, [], [], B18, PySem.W.mg_of X G0 a18, k18, F18.binds (ps := ["_law_urn_here"]) fun _ _ _ _ _ _ us hl => match us, hl with | [_], _ => rfl, .nil, fun _ => .nil⟩
  have F19 := fun_mk (st := s__law_wrong_right) l19 c19 k19
  have B19 : FnG Pg w K mg base 7 f19 _ ["_law_urn_here"] (spOf T sm__law_wrong_right) := fn_byF (P := P__law_wrong_right) (R := R) (gl0 N__law_wrong_right (defScope s__law_wrong_right) base) rfl rfl rfl (by
    rintro j dv sm (⟨rfl, rfl, rfl⟩ | ⟨rfl, rfl, rfl⟩ | ⟨rfl, rfl, rfl⟩ | ⟨rfl, rfl, rfl⟩)
    · exact A1.mono (by decide)
    · exact A11.mono (by decide)
    · exact A12.mono (by decide)
    · exact A15.mono (by decide)
    ) (by
    rintro k mk (⟨rfl, rfl⟩)
    · exact M0.mono (by decide)
    ) F19 sc__law_wrong_right o__law_wrong_right k__law_wrong_right
  have A19 : FnAt T Pg w K mg base "_law_wrong_right" 7 [] sm__law_wrong_right := ⟨f19, _, _, [], [], B19, PySem.W.mg_of X G0 a19, k19, F19.binds (ps := ["_law_urn_here"]) fun _ _ _ _ _ _ us hl => match us, hl with | [_], _ => rfl, .nil, fun _ => .nil⟩
  have F20 := fun_mk (st := s_law) l20 c20 k20
  have B20 : FnG Pg w K mg base 8 fa _ ["_law_script"] (spOf T sm_law) := fn_byF (P := P_law) (R := R) (gl0 N_law (defScope s_law) base) rfl rfl rfl (by
    rintro j dv sm (⟨rfl, rfl, rfl⟩ | ⟨rfl, rfl, rfl⟩ | ⟨rfl, rfl, rfl⟩ | ⟨rfl, rfl, rfl⟩ | ⟨rfl, rfl, rfl⟩ | ⟨rfl, rfl, rfl⟩ | ⟨rfl, rfl, rfl⟩)
    · exact A5.mono (by decide)
    · exact A6.mono (by decide)
    · exact A8.mono (by decide)
    · exact A9.mono (by decide)
    · exact A17.mono (by decide)
    · exact A18.mono (by decide)
    · exact A19.mono (by decide)
    ) (by
    rintro k mk (⟨rfl, rfl⟩)
    · exact M0.mono (by decide)
    ) F20 sc_law o_law k_law
  exact B20
end L01
set_option Elab.async false
set_option linter.all false
set_option maxRecDepth 100000
set_option maxHeartbeats 1000000
open PySem PySem.W PyProof.Rows in
set_option maxRecDepth 100000 in
set_option maxHeartbeats 0 in
theorem PySem.Challenge.cw_stairlots_k01_whole_integers_and_binomia_holds : PySem.Challenge.rw_stairlots_k01_whole_integers_and_binomia.Holds := by
  w_on; o_law; k_head; (case hw => w_witness2)
  k_fill
  refine Ip.walk_G (l := PySem.Challenge.rw_stairlots_k01_whole_integers_and_binomia) (n := 63) (k := 8) (x := "_law_script") (sm := L01.sm_law) rfl (by decide) rfl ⟨rfl, by decide, by decide⟩ (fun w h Y => PySem.W.kIn_of Y) ?F L01.law_true
  case F =>
    intro w mg fa h KX G hmg
    refine' L01.all_mk rfl KX G hmg ?xa0 ?xq0 ?xi0 ?xl0 ?xdf0 ?xc0 ?xf0 ?xv0 ?xff0 ?xe0 ?xk0 ?xm0 ?xs0 ?xb0 ?xt0 ?xo0 ?xta0 ?xh0 ?xx0 ?xy0 ?xkc0 ?xga0 ?xgg0 ?xnf0 ?xu0_0 ?third ?z_super ?z_str ?z_abs ?z_int ?z_len ?z_max ?z_min ?z_repr ?z_sum ?z_tuple ?z_bool ?z_isinstance ?z_range ?z_gcd ?g_BEYOND ?g_MOST_CHOSEN ?g_MOST_DIVIDED ?a0 ?l0 ?c0 ?k0 ?a1 ?l1 ?c1 ?k1 ?a2 ?l2 ?c2 ?k2 ?a3 ?l3 ?c3 ?k3 ?a4 ?l4 ?c4 ?k4 ?a5 ?l5 ?c5 ?k5 ?a6 ?l6 ?c6 ?k6 ?a7 ?l7 ?c7 ?k7 ?a8 ?l8 ?c8 ?k8 ?a9 ?l9 ?c9 ?k9 ?a10 ?l10 ?c10 ?k10 ?a11 ?l11 ?c11 ?k11 ?a12 ?l12 ?c12 ?k12 ?a13 ?l13 ?c13 ?k13 ?a14 ?l14 ?c14 ?k14 ?a15 ?l15 ?c15 ?k15 ?a16 ?l16 ?c16 ?k16 ?a17 ?l17 ?c17 ?k17 ?a18 ?l18 ?c18 ?k18 ?a19 ?l19 ?c19 ?k19 ?a20 ?l20 ?c20 ?k20
    (case xa0 => k_is)
    (case xq0 => kx_is)
    (case xi0 => k_is)
    (case xl0 => k_is)
    (case xdf0 => rfl)
    (case xc0 => k_is)
    (case xf0 => k_is)
    (case xv0 => rfl)
    (case xff0 => (first | rfl | decide | decide +kernel))
    (case xe0 => k_is)
    (case xk0 => k_is)
    (case xm0 => k_is)
    (case xs0 => ks_is)
    (case xb0 => k_is)
    (case xt0 => k_is)
    (case xo0 => kx_is)
    (case xta0 => k_is)
    (case xh0 => k_is)
    (case xx0 => k_is)
    (case xy0 => k_is)
    (case xkc0 => k_is)
    (case xga0 => k_is)
    (case xgg0 => k_is)
    (case xnf0 => k_is)
    (case xu0_0 => k_is)
    (case third => k_is)
    (case z_super => k_is)
    (case z_str => k_is)
    (case z_abs => k_is)
    (case z_int => k_is)
    (case z_len => k_is)
    (case z_max => k_is)
    (case z_min => k_is)
    (case z_repr => k_is)
    (case z_sum => k_is)
    (case z_tuple => k_is)
    (case z_bool => k_is)
    (case z_isinstance => k_is)
    (case z_range => k_is)
    (case z_gcd => k_is)
    (case g_BEYOND => k_is)
    (case g_MOST_CHOSEN => k_is)
    (case g_MOST_DIVIDED => k_is)
    (case a0 => k_is)
    (case l0 => k_is)
    (case c0 => k_is)
    (case k0 => k_is)
    (case a1 => k_is)
    (case l1 => k_is)
    (case c1 => k_is)
    (case k1 => k_is)
    (case a2 => k_is)
    (case l2 => k_is)
    (case c2 => k_is)
    (case k2 => k_is)
    (case a3 => k_is)
    (case l3 => k_is)
    (case c3 => k_is)
    (case k3 => k_is)
    (case a4 => k_is)
    (case l4 => k_is)
    (case c4 => k_is)
    (case k4 => k_is)
    (case a5 => k_is)
    (case l5 => k_is)
    (case c5 => k_is)
    (case k5 => k_is)
    (case a6 => k_is)
    (case l6 => k_is)
    (case c6 => k_is)
    (case k6 => k_is)
    (case a7 => k_is)
    (case l7 => k_is)
    (case c7 => k_is)
    (case k7 => k_is)
    (case a8 => k_is)
    (case l8 => k_is)
    (case c8 => k_is)
    (case k8 => k_is)
    (case a9 => k_is)
    (case l9 => k_is)
    (case c9 => k_is)
    (case k9 => k_is)
    (case a10 => k_is)
    (case l10 => k_is)
    (case c10 => k_is)
    (case k10 => k_is)
    (case a11 => k_is)
    (case l11 => k_is)
    (case c11 => k_is)
    (case k11 => k_is)
    (case a12 => k_is)
    (case l12 => k_is)
    (case c12 => k_is)
    (case k12 => k_is)
    (case a13 => k_is)
    (case l13 => k_is)
    (case c13 => k_is)
    (case k13 => k_is)
    (case a14 => k_is)
    (case l14 => k_is)
    (case c14 => k_is)
    (case k14 => k_is)
    (case a15 => k_is)
    (case l15 => k_is)
    (case c15 => k_is)
    (case k15 => k_is)
    (case a16 => k_is)
    (case l16 => k_is)
    (case c16 => k_is)
    (case k16 => k_is)
    (case a17 => k_is)
    (case l17 => k_is)
    (case c17 => k_is)
    (case k17 => k_is)
    (case a18 => k_is)
    (case l18 => k_is)
    (case c18 => k_is)
    (case k18 => k_is)
    (case a19 => k_is)
    (case l19 => k_is)
    (case c19 => k_is)
    (case k19 => k_is)
    (case a20 => k_is)
    (case l20 => k_is)
    (case c20 => k_is)
    (case k20 => k_is)
