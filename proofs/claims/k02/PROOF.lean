import PyProof.Rows.All
import Wide.All
import OpenK.AllK
import Wide.FinOn
import HandS.ForMost
import HandS.ForExc
import HandS.Slots
import HandS.SlotsOwn
import PyProof.Rows.StrOr
import PyProof.ReprNest
import HandS.Wide
import HandS.TupAny
import HandS.Gcd
import HandS.Flow
import HandS.Style
import HandS.Conv
import HandS.IsInst
import HandS.TupLe
import HandS.RaiseMore
import HandS.CallSlots
import HandS.Comp
import HandS.TryMany
import KE.KOpsOwn
import KE.KCallOwn
import HandS.FStr
import PyProof.EqAt
import PyProof.EqKinds
import PyProof.NeKinds
import PyProof.MeetsIn
import HandS.ExcField
import HandS.ExcOwn
import KE.KExcSuper
import KE.KExcInit
import KE.KSuper
import HandS.ExcValue
import HandS.Small
import HandS.Ends
import HandS.Words
import HandS.Defaults
import KE.KExcLine
import KE.RegKSuper
import PySem.Challenge.RW_stairlots_k02_whole_rows_of_ratios
set_option Elab.async false
set_option linter.all false
set_option maxRecDepth 100000
set_option maxHeartbeats 4000000
/-! The plain interpreter: values, store, terms, what they give. No machine here. -/
namespace Ip
open PySem

/-- plain values: data as trees; ref: a cell of the store (a list or dict that changes, an object that is being made) -/
inductive D where
  | non | bl (b : Bool) | int (i : Int) | str (x : Str)
  | tup (xs : List D) | lst (xs : List D) | dct (ks vs : List D)
  | obj (c : Nat) (fs : List D) | cls (c : Nat) | ref (n : Nat)

inductive Cell where
  | dead | lst (xs : List D) | dct (ks vs : List D) | ins (c : Nat) (fs : List (Option D))

abbrev Store := List Cell
abbrev EnvD := List (Option D)
structure Ex where
  c : Nat
  vs : List D

inductive Out (α : Type) where
  | ok (a : α) (st : Store)
  | raise (x : Ex) (st : Store)
  | stuck

def Out.bind {α β : Type} (o : Out α) (f : α → Store → Out β) : Out β := match o with
  | .ok a st => f a st
  | .raise x st => .raise x st
  | .stuck => .stuck

def ofO {α : Type} (o : Option α) (st : Store) : Out α := match o with
  | some a => .ok a st
  | none => .stuck

abbrev Fn := List D → Store → Out D

/-! ### operations on values -/
inductive BO where | add | sub | mul | fdiv | mod | pow
  deriving DecidableEq
inductive UO where | neg | inv
  deriving DecidableEq
inductive CO where | lt | le | gt | ge | eq | ne | is | isnot | isin | notin
  deriving DecidableEq

def bits (i : Int) : Nat := i.natAbs.log2
/-- what * asks of sizes -/
def mulOk (i j : Int) : Bool := decide (i.natAbs.log2 + j.natAbs.log2 < 1000000)
def divOk (j : Int) : Bool := decide (j ≠ 0 ∧ j.natAbs.log2 < 9000)
def powOk (i j : Int) : Bool := decide (0 ≤ j ∧ (Builtin.Int.intBits i : Int) * j ≤ 2 ^ 27)
def szOk (n : Nat) : Bool := decide (n ≤ 1000000)

mutual
def eqD : D → D → Bool
  | .non, .non => true
  | .bl a, .bl b => a == b
  | .bl a, .int j => (if a then 1 else 0) == j
  | .int i, .bl b => i == (if b then 1 else 0)
  | .int i, .int j => i == j
  | .str x, .str y => x == y
  | .lst xs, .lst ys => eqDs xs ys
  | .tup xs, .tup ys => eqDs xs ys
  | _, _ => false
def eqDs : List D → List D → Bool
  | [], [] => true
  | x :: xs, y :: ys => eqD x y && eqDs xs ys
  | _, _ => false
end

mutual
/-- data of none, bools, ints, texts, lists, tuples, at most n deep -/
def pureD : Nat → D → Bool
  | _, .non => true
  | _, .bl _ => true
  | _, .int _ => true
  | _, .str x => PyData.strOk x
  | n + 1, .lst xs => pureDs n xs
  | n + 1, .tup xs => pureDs n xs
  | _, _ => false
def pureDs : Nat → List D → Bool
  | _, [] => true
  | n, x :: xs => pureD n x && pureDs n xs
end

/-- a value's items by the store, where it is a list or a tuple -/
def seqOf (st : Store) : D → Option (List D)
  | .lst xs => some xs
  | .tup xs => some xs
  | .ref n => match st[n]? with
    | some (.lst xs) => some xs
    | _ => none
  | _ => none

def truD (st : Store) : D → Option Bool
  | .non => some false
  | .bl b => some b
  | .int i => some (i != 0)
  | .str x => if szOk x.length then some ((x.length : Int) != 0) else none
  | .lst xs => some !xs.isEmpty
  | .tup xs => some !xs.isEmpty
  | .ref n => match st[n]? with
    | some (.lst xs) => some !xs.isEmpty
    | _ => none
  | _ => none

def binD (o : BO) (st : Store) (a b : D) : Option D := match o, a, b with
  | .add, .int i, .int j => some (.int (i + j))
  | .sub, .int i, .int j => some (.int (i - j))
  | .mul, .int i, .int j => if mulOk i j then some (.int (i * j)) else none
  | .fdiv, .int i, .int j => if divOk j then some (.int (i.fdiv j)) else none
  | .mod, .int i, .int j => if j ≠ 0 then some (.int (i.fmod j)) else none
  | .pow, .int i, .int j => if powOk i j then some (.int (i ^ j.toNat)) else none
  | .add, .str x, .str y => if szOk (x.length + y.length) then some (.str (x ++ y)) else none
  | .add, .lst xs, .lst ys => if szOk (xs.length + ys.length) then some (.lst (xs ++ ys)) else none
  | .add, .tup xs, .tup ys => if szOk (xs.length + ys.length) then some (.tup (xs ++ ys)) else none
  | _, _, _ => none
def unD (o : UO) (a : D) : Option D := match o, a with
  | .neg, .int i => some (.int (-i))
  | _, _ => none

def isNonD : D → Bool
  | .non => true
  | _ => false
def cmpD (o : CO) (st : Store) (a b : D) : Option Bool := match o, a, b with
  | .lt, .int i, .int j => some (decide (i < j))
  | .le, .int i, .int j => some (decide (i ≤ j))
  | .gt, .int i, .int j => some (decide (j < i))
  | .ge, .int i, .int j => some (decide (j ≤ i))
  | .eq, .str x, .str y => some (x == y)
  | .ne, .str x, .str y => some (!(x == y))
  | .eq, a, b => if pureD 60 a && pureD 60 b then some (eqD a b) else none
  | .ne, a, b => if pureD 60 a && pureD 60 b then some (!eqD a b) else none
  | .is, a, .non => some (isNonD a)
  | .isnot, a, .non => some (!isNonD a)
  | .is, .bl a, .bl b => some (decide (a = b))
  | .isnot, .bl a, .bl b => some (!decide (a = b))
  | .isin, .str x, .str y => some (!(Builtin.Str.occurrences y x 0 y.length 1).isEmpty)
  | .notin, .str x, .str y => some (!(!(Builtin.Str.occurrences y x 0 y.length 1).isEmpty))
  | _, _, _ => none

/-- o[i] -/
def subD (st : Store) (a b : D) : Option D := match b with
  | .int i => match a with
    | .str x => if szOk x.length then (L2.atI x.cps.toList i).map fun c => D.str ⟨#[c]⟩ else none
    | _ => match seqOf st a with
      | some xs => L2.atI xs i
      | none => none
  | _ => none
def cutD {α : Type} (xs : List α) (lo hi : Option Int) : List α := (xs.drop (HT.sIx xs.length 0 lo)).take (HT.sIx xs.length xs.length hi - HT.sIx xs.length 0 lo)
/-- o[lo:hi] -/
def sliceD (st : Store) (a : D) (lo hi : Option Int) : Option D := match a with
  | .str x => if szOk x.length then some (.str (L2.cutS x lo hi)) else none
  | .lst xs => some (.lst (cutD xs lo hi))
  | .tup xs => some (.tup (cutD xs lo hi))
  | .ref n => match st[n]? with
    | some (.lst xs) => some (.lst (cutD xs lo hi))
    | _ => none
  | _ => none


/-! ### texts of values -/
mutual
def reprD : D → Option Str
  | .non => some "None"
  | .bl b => some (if b then "True" else "False")
  | .int i => if bits i < 12900 then some (toString i) else none
  | .str x => if szOk (reprText x).length then some (reprText x) else none
  | .lst xs => match reprDs xs with
    | some ts => if szOk (listText ts).length then some (listText ts) else none
    | none => none
  | .tup xs => match reprDs xs with
    | some ts => if szOk (tupleText ts).length then some (tupleText ts) else none
    | none => none
  | .dct [] [] => some "{}"
  | _ => none
def reprDs : List D → Option (List Str)
  | [] => some []
  | x :: xs => match reprD x, reprDs xs with
    | some t, some ts => some (t :: ts)
    | _, _ => none
end
def strD (d : D) : Option Str := match d with
  | .str x => some x
  | d => reprD d

mutual
def depthD : D → Nat
  | .lst xs => depthDs xs + 1
  | .tup xs => depthDs xs + 1
  | .dct _ _ => 1
  | _ => 0
def depthDs : List D → Nat
  | [] => 0
  | x :: xs => max (depthD x) (depthDs xs)
end
/-! ### built-in functions -/
inductive Blt where | abs | int | len | max | min | str | repr | sum | tuple | all | any | gcd | bool
  deriving DecidableEq
def intsOf : List D → Option (List Int)
  | [] => some []
  | .int i :: r => (intsOf r).map (i :: ·)
  | _ => none
def blsOf : List D → Option (List Bool)
  | [] => some []
  | .bl i :: r => (blsOf r).map (i :: ·)
  | _ => none
def lenD (st : Store) : D → Option Nat
  | .str x => if szOk x.length then some x.length else none
  | d => (seqOf st d).map (·.length)
def bltD (b : Blt) (st : Store) (xs : List D) : Option D := match b, xs with
  | .abs, [.int i] => some (.int (if i < 0 then -i else i))
  | .int, [.int i] => some (.int i)
  | .int, [.bl k] => some (.int (if k then 1 else 0))
  | .bool, [.int i] => some (.bl (i != 0))
  | .bool, [.bl k] => some (.bl k)
  | .len, [x] => (lenD st x).map fun (n : Nat) => D.int (n : Int)
  | .max, [.int i, .int j] => some (.int (if j > i then j else i))
  | .min, [.int i, .int j] => some (.int (if j < i then j else i))
  | .gcd, [.int i, .int j] => some (.int ((Nat.gcd i.natAbs j.natAbs : Nat) : Int))
  | .str, [x] => if depthD x ≤ 60 then (strD x).map .str else none
  | .repr, [x] => if depthD x ≤ 60 then (reprD x).map .str else none
  | .sum, [.lst ys] => (intsOf ys).map fun ns => .int ns.sum
  | .all, [.lst ys] => (blsOf ys).map fun ns => .bl (ns.all id)
  | .any, [.lst ys] => (blsOf ys).map fun ns => .bl (ns.any id)
  | .tuple, [x] => (seqOf st x).map .tup
  | _, _ => none

/-! ### methods of lists in cells -/
inductive Mth where | append | popAt | pop
  deriving DecidableEq
def mthD (m : Mth) (st : Store) (o : D) (xs : List D) : Option (D × Store) := match m, o, xs with
  | .append, .ref n, [y] => match st[n]? with
    | some (.lst zs) => if zs.length < 1000000 then some (.non, st.set n (.lst (zs ++ [y]))) else none
    | _ => none
  | .pop, .ref n, [] => match st[n]? with
    | some (.lst zs) => (zs[zs.length - 1]?).map fun y => (y, st.set n (.lst zs.dropLast))
    | _ => none
  | .popAt, .ref n, [.int i] => match st[n]? with
    | some (.lst zs) => if szOk zs.length then match L2.ixN zs.length i with
      | some k => (zs[k]?).map fun y => (y, st.set n (.lst (zs.eraseIdx k)))
      | none => none else none
    | _ => none
  | _, _, _ => none
def isLst (st : Store) : D → Bool
  | .ref n => match st[n]? with
    | some (.lst _) => true
    | _ => false
  | _ => false
/-- o[i] = v -/
def setD (st : Store) (o i v : D) : Option Store := match o, i with
  | .ref n, .int i => match st[n]? with
    | some (.lst zs) => match L2.ixN zs.length i with
      | some k => some (st.set n (.lst (zs.set k v)))
      | none => none
    | _ => none
  | _, _ => none
/-- a list's cell is given up: the value is plain from now on -/
def freeze (st : Store) : D → Option (D × Store)
  | .ref n => match st[n]? with
    | some (.lst zs) => some (.lst zs, st.set n .dead)
    | _ => none
  | d => some (d, st)

/-! ### terms -/
inductive Ty where | int | bool | str | tuple | list | dict
  deriving DecidableEq
def isiD (t : Ty) : D → Option Bool
  | .non => some false
  | .bl _ => some (t = .int || t = .bool)
  | .int _ => some (t = .int)
  | .str _ => some (t = .str)
  | .tup _ => some (t = .tuple)
  | .lst _ => some (t = .list)
  | .dct _ _ => some (t = .dict)
  | .obj _ _ => some false
  | _ => none
inductive IT where | nm (i : Nat) | tp (is : List Nat)
def IT.vars : IT → List Nat
  | .nm i => [i]
  | .tp is => is
def setAll : List Nat → List D → EnvD → Option EnvD
  | [], [], σ => some σ
  | i :: is, d :: ds, σ => setAll is ds (σ.set i (some d))
  | _, _, _ => none
def asgT (st : Store) (t : IT) (d : D) (σ : EnvD) : Option EnvD := match t with
  | .nm i => some (σ.set i (some d))
  | .tp is => match d with
    | .tup ds => setAll is ds σ
    | _ => none

/-- a def at its place: its number, the values of its defaults, what it computes -/
structure Alt where
  i : Nat
  dv : List D
  sm : Fn
/-- operations upon values, the parts taken from the left -/
inductive XO where
  | fld (tab : List (Nat × Nat))
  | prop (alts : List (Nat × Alt))
  | mk (n : Nat) (c : Nat) (a : Alt)
  | own2 (o : BO) (c : Nat) (a : Alt)
  | ownC (o : CO) (c : Nat) (a : Alt)
  | eqL (o : CO) (c : Nat) (a : Alt)
  | ownU (o : UO) (c : Nat) (a : Alt)
  | ownB (b : Blt) (c : Nat) (a : Alt)
  | isC (c : Nat)
/-- the class of an object, done or being made -/
def clsD (st : Store) : D → Option Nat
  | .obj c _ => some c
  | .ref n => match st[n]? with
    | some (.ins c _) => some c
    | _ => none
  | _ => none
/-- what stands at a variable of an object; tab: its place, by the class -/
def fldD (tab : List (Nat × Nat)) (st : Store) : D → Option D
  | .obj c fs => (tab.lookup c).bind fun i => fs[i]?
  | .ref n => match st[n]? with
    | some (.ins c fs) => (tab.lookup c).bind fun i => (fs[i]?).bind id
    | _ => none
  | _ => none
def allSome : List (Option D) → Option (List D)
  | [] => some []
  | some d :: r => (allSome r).map (d :: ·)
  | none :: _ => none
/-- an object is done -/
def doneD (st : Store) (n : Nat) : Option (D × Store) := match st[n]? with
  | some (.ins c fs) => match allSome fs with
    | some (d :: ds) => some (.obj c (d :: ds), st.set n .dead)
    | _ => none
  | _ => none
def isCD (c : Nat) : D → Option Bool
  | .obj k _ => some (k == c)
  | .non => some false
  | .bl _ => some false
  | .int _ => some false
  | .str _ => some false
  | .tup _ => some false
  | .lst _ => some false
  | .dct _ _ => some false
  | _ => none
def fmtD : D → Option Str
  | .str x => if szOk x.length then some x else none
  | .int i => if bits i < 12900 then some (toString i) else none
  | _ => none
def fstrD : List (Option Str) → List D → Str → Option Str
  | [], [], acc => some acc
  | some x :: ps, ds, acc => if szOk (acc ++ x).length then fstrD ps ds (acc ++ x) else none
  | none :: ps, d :: ds, acc => match fmtD d with
    | some x => if szOk (acc ++ x).length then fstrD ps ds (acc ++ x) else none
    | none => none
  | _, _, _ => none
/-! ### the same -/
mutual
def sameD : D → D → Bool
  | .non, .non => true
  | .bl a, .bl b => a == b
  | .int a, .int b => a == b
  | .str a, .str b => decide (a = b)
  | .tup xs, .tup ys => sameDs xs ys
  | .lst xs, .lst ys => sameDs xs ys
  | .dct ks vs, .dct ls ws => sameDs ks ls && sameDs vs ws
  | .obj a fs, .obj b gs => a == b && sameDs fs gs
  | .cls a, .cls b => a == b
  | .ref a, .ref b => a == b
  | _, _ => false
def sameDs : List D → List D → Bool
  | [], [] => true
  | x :: xs, y :: ys => sameD x y && sameDs xs ys
  | _, _ => false
end
mutual
theorem sameD_eq : ∀ {a b : D}, sameD a b = true → a = b := by
  intro a b h
  cases a <;> cases b <;> simp only [sameD, Bool.and_eq_true, beq_iff_eq, decide_eq_true_eq, Bool.false_eq_true] at h <;> first | rfl | (rw [h]; done) | (rw [sameDs_eq h]; done) | (rw [sameDs_eq h.1, sameDs_eq h.2]; done) | (rw [h.1, sameDs_eq h.2]; done)
theorem sameDs_eq : ∀ {a b : List D}, sameDs a b = true → a = b
  | [], [], _ => rfl
  | x :: xs, y :: ys, h => by
    simp only [sameDs, Bool.and_eq_true] at h
    rw [sameD_eq h.1, sameDs_eq h.2]
  | [], _ :: _, h => by simp [sameDs] at h
  | _ :: _, [], h => by simp [sameDs] at h
end
mutual
theorem sameD_refl : ∀ a : D, sameD a a = true
  | .non => rfl
  | .bl _ => by simp [sameD]
  | .int _ => by simp [sameD]
  | .str _ => by simp [sameD]
  | .tup xs => by rw [sameD]; exact sameDs_refl xs
  | .lst xs => by rw [sameD]; exact sameDs_refl xs
  | .dct ks vs => by rw [sameD, sameDs_refl ks, sameDs_refl vs]; rfl
  | .obj c fs => by rw [sameD, sameDs_refl fs]; simp
  | .cls _ => by simp [sameD]
  | .ref _ => by simp [sameD]
theorem sameDs_refl : ∀ a : List D, sameDs a a = true
  | [] => rfl
  | x :: xs => by rw [sameDs, sameD_refl x, sameDs_refl xs]; rfl
end
def sameO : Option D → Option D → Bool
  | none, none => true
  | some a, some b => sameD a b
  | _, _ => false
def sameOs : List (Option D) → List (Option D) → Bool
  | [], [] => true
  | x :: xs, y :: ys => sameO x y && sameOs xs ys
  | _, _ => false
def sameC : Cell → Cell → Bool
  | .dead, .dead => true
  | .lst xs, .lst ys => sameDs xs ys
  | .dct ks vs, .dct ls ws => sameDs ks ls && sameDs vs ws
  | .ins c fs, .ins k gs => (c == k) && sameOs fs gs
  | _, _ => false
theorem sameO_eq {a b : Option D} (h : sameO a b = true) : a = b := by
  cases a <;> cases b <;> simp only [sameO, Bool.false_eq_true] at h <;> first | rfl | (rw [sameD_eq h]; done)
theorem sameOs_eq : ∀ {a b : List (Option D)}, sameOs a b = true → a = b
  | [], [], _ => rfl
  | x :: xs, y :: ys, h => by
    simp only [sameOs, Bool.and_eq_true] at h
    rw [sameO_eq h.1, sameOs_eq h.2]
  | [], _ :: _, h => by simp [sameOs] at h
  | _ :: _, [], h => by simp [sameOs] at h
theorem sameC_eq {a b : Cell} (h : sameC a b = true) : a = b := by
  cases a <;> cases b <;> simp only [sameC, Bool.and_eq_true, Bool.false_eq_true, beq_iff_eq] at h <;> first | rfl | (rw [sameDs_eq h]; done) | (rw [sameDs_eq h.1, sameDs_eq h.2]; done) | (rw [h.1, sameOs_eq h.2]; done)
def sameSt : Store → Store → Bool
  | [], [] => true
  | c :: cs, d :: ds => sameC c d && sameSt cs ds
  | _, _ => false
theorem sameSt_eq : ∀ {a b : Store}, sameSt a b = true → a = b
  | [], [], _ => rfl
  | x :: xs, y :: ys, h => by
    simp only [sameSt, Bool.and_eq_true] at h
    rw [sameC_eq h.1, sameSt_eq h.2]
  | [], _ :: _, h => by simp [sameSt] at h
  | _ :: _, [], h => by simp [sameSt] at h
/-- an exception out of here is not followed -/
def noRaise {α : Type} : Out α → Out α
  | .ok a st => .ok a st
  | _ => .stuck
def isIntD : D → Bool
  | .int _ => true
  | _ => false
def isObj (c : Nat) : D → Bool
  | .obj k _ => k == c
  | _ => false
/-- lists of objects of the class c that are equal, item by item, by the own def; the store stays -/
def eqLs (c : Nat) (a : Alt) (st : Store) : List D → List D → Bool
  | [], [] => true
  | x :: xs, y :: ys => isObj c x && isObj c y && (match a.sm (x :: y :: a.dv) st with
    | .ok (.bl true) st' => sameSt st' st
    | _ => false) && eqLs c a st xs ys
  | _, _ => false
def extD (k : XO) (xs : List D) (st : Store) : Out D := match k with
  | .fld tab => match xs with
    | [o] => ofO (fldD tab st o) st
    | _ => .stuck
  | .prop alts => match xs with
    | [o] => match (clsD st o).bind fun c => alts.lookup c with
      | some a => noRaise (a.sm (o :: a.dv) st)
      | none => .stuck
    | _ => .stuck
  | .mk n c a => (a.sm (.ref st.length :: (xs ++ a.dv)) (st ++ [.ins c (List.replicate n none)])).bind fun r st1 => match r with
    | .non => match doneD st1 st.length with
      | some (d, st2) => .ok d st2
      | none => .stuck
    | _ => .stuck
  | .own2 _ c a => match xs with
    | [x, y] => if isObj c x = true ∧ (isObj c y || isIntD y) = true then a.sm (x :: y :: a.dv) st else .stuck
    | _ => .stuck
  | .ownC o c a => match xs with
    | [x, y] => if isObj c x = true ∧ (isCD c y).isSome = true then (a.sm (x :: y :: a.dv) st).bind fun r st1 => match r with
      | .bl b => .ok (.bl (if o = .ne then !b else b)) st1
      | _ => .stuck else ofO ((cmpD o st x y).map .bl) st
    | _ => .stuck
  | .eqL o c a => match xs with
    | [.lst xs, .lst ys] => if eqLs c a st xs ys = true then .ok (.bl (if o = .ne then false else true)) st else .stuck
    | _ => .stuck
  | .ownU _ c a => match xs with
    | [x] => if isObj c x = true then a.sm (x :: a.dv) st else .stuck
    | _ => .stuck
  | .ownB b c a => match xs with
    | [x] => if isObj c x = true then (noRaise (a.sm (x :: a.dv) st)).bind fun r st1 => match b, r with
      | .len, .int i => if 0 ≤ i ∧ i < 2 ^ 62 then .ok (.int i) st1 else .stuck
      | .bool, .bl k => .ok (.bl k) st1
      | .str, .str x => .ok (.str x) st1
      | _, _ => .stuck else .stuck
    | _ => .stuck
  | .isC c => match xs with
    | [x] => ofO ((isCD c x).map .bl) st
    | _ => .stuck
mutual
inductive IE where
  | ext (k : XO) (es : IEs)
  | meth (alts : List (Nat × Alt)) (o : IE) (es : IEs)
  | fstr (ps : List (Option Str)) (es : IEs)
  | var (i : Nat) | con (d : D) | glob (x : Nat) (d : D)
  | bin (o : BO) (a b : IE) | un (o : UO) (a : IE)
  | cmp (o : CO) (a b : IE) | chain (o1 o2 : CO) (a b c : IE)
  | and (a b : IE) | or (a b : IE) | not (a : IE) | ife (c a b : IE)
  | tup (es : IEs) | lst (t : Bool) (es : IEs)
  | dct0
  | sub (a b : IE) | slice (a lo hi : IE) | rev (a : IE) | no
  | call (f : Nat) (dv : List D) (sm : Fn) (es : IEs)
  | blt (b : Blt) (es : IEs) | isi (t : Ty) (e : IE)
  | mth (m : Mth) (o : IE) (es : IEs)
  | comp (t : Bool) (own : List Nat) (it : IIt) (tg : IT) (cond elt : IE)
  | fz (e : IE)
inductive IEs where
  | nil | cons (e : IE) (es : IEs)
inductive IIt where
  | val (e : IE) | range (es : IEs)
end

def wipeD (σ : EnvD) : List Nat → EnvD
  | [] => σ
  | v :: vs => (wipeD σ vs).set v none
/-- what is walked: items that stand, or a cell's list as it is at each turn -/
inductive ItD where | seq (xs : List D) | cell (n : Nat)
def nextD (it : ItD) (i : Nat) (st : Store) : Option (Option D) := match it with
  | .seq xs => some xs[i]?
  | .cell n => match st[n]? with
    | some (.lst xs) => some xs[i]?
    | _ => none
/-- the turns of a comprehension: g the element's value (none: left out) -/
def compRun (g : D → Store → Out (Option D)) (it : ItD) : Nat → Nat → List D → Store → Out (List D)
  | 0, _, _, _ => .stuck
  | f + 1, i, acc, st => match nextD it i st with
    | none => .stuck
    | some none => .ok acc st
    | some (some x) => (g x st).bind fun r st1 => match r with
      | some y => if acc.length < 1000000 then compRun g it f (i + 1) (acc ++ [y]) st1 else .stuck
      | none => compRun g it f (i + 1) acc st1
/-- how many turns are followed -/
def fuelD : Nat := 18446744073709551616
def rangeD (xs : List D) : Option (List D) := match xs with
  | [.int j] => if -(2 ^ 62) ≤ j ∧ j < 2 ^ 62 then some ((List.range j.toNat).map fun (k : Nat) => D.int (0 + (k : Int))) else none
  | [.int i, .int j] => if -(2 ^ 62) ≤ i ∧ i < 2 ^ 62 ∧ -(2 ^ 62) ≤ j ∧ j < 2 ^ 62 then some ((List.range (j - i).toNat).map fun (k : Nat) => D.int (i + (k : Int))) else none
  | _ => none
/-- what is walked -/
def itemsD (st : Store) : D → Option ItD
  | .lst xs => some (.seq xs)
  | .tup xs => some (.seq xs)
  | .ref n => match st[n]? with
    | some (.lst _) => some (.cell n)
    | _ => none
  | _ => none
def newLst (t : Bool) (xs : List D) (st : Store) : Out D := if t then .ok (.ref st.length) (st ++ [.lst xs]) else .ok (.lst xs) st

mutual
def ev : IE → EnvD → Store → Out D
  | .var i, σ, st => match σ[i]? with
    | some (some d) => .ok d st
    | _ => .stuck
  | .con d, _, st => .ok d st
  | .glob _ d, _, st => .ok d st
  | .bin o a b, σ, st => (ev a σ st).bind fun x st => (ev b σ st).bind fun y st => ofO (binD o st x y) st
  | .un o a, σ, st => (ev a σ st).bind fun x st => ofO (unD o x) st
  | .cmp o a b, σ, st => (ev a σ st).bind fun x st => (ev b σ st).bind fun y st => ofO ((cmpD o st x y).map .bl) st
  | .chain o1 o2 a b c, σ, st => (ev a σ st).bind fun x st => (ev b σ st).bind fun y st => (ofO (cmpD o1 st x y) st).bind fun k st =>
      if k = true then (ev c σ st).bind fun z st => ofO ((cmpD o2 st y z).map .bl) st else .ok (.bl false) st
  | .and a b, σ, st => (ev a σ st).bind fun x st => (ofO (truD st x) st).bind fun k st => if k = true then ev b σ st else .ok x st
  | .or a b, σ, st => (ev a σ st).bind fun x st => (ofO (truD st x) st).bind fun k st => if k = true then .ok x st else ev b σ st
  | .not a, σ, st => (ev a σ st).bind fun x st => (ofO (truD st x) st).bind fun k st => .ok (.bl (!k)) st
  | .ife c a b, σ, st => (ev c σ st).bind fun x st => (ofO (truD st x) st).bind fun k st => if k = true then ev a σ st else ev b σ st
  | .tup es, σ, st => (evs es σ st).bind fun xs st => if szOk xs.length then .ok (.tup xs) st else .stuck
  | .lst t es, σ, st => (evs es σ st).bind fun xs st => if szOk xs.length then newLst t xs st else .stuck
  | .sub a b, σ, st => (ev a σ st).bind fun x st => (ev b σ st).bind fun y st => ofO (subD st x y) st
  | .slice a lo hi, σ, st => (ev a σ st).bind fun x st => (evo lo σ st).bind fun i st => (evo hi σ st).bind fun j st => ofO (sliceD st x i j) st
  | .rev a, σ, st => (ev a σ st).bind fun x st => match x with
    | .lst xs => .ok (.lst xs.reverse) st
    | .ref n => match st[n]? with
      | some (.lst xs) => .ok (.lst xs.reverse) st
      | _ => .stuck
    | _ => .stuck
  | .no, _, _ => .stuck
  | .ext k es, σ, st => (evs es σ st).bind fun xs st => extD k xs st
  | .fstr ps es, σ, st => (noRaise (evs es σ st)).bind fun xs st => ofO ((fstrD ps xs "").map .str) st
  | .meth alts o es, σ, st => (ev o σ st).bind fun x st => match (clsD st x).bind fun c => alts.lookup c with
    | some a => (evs es σ st).bind fun xs st => a.sm (x :: (xs ++ a.dv)) st
    | none => .stuck
  | .dct0, _, st => .ok (.dct [] []) st
  | .call _ dv sm es, σ, st => (evs es σ st).bind fun xs st => sm (xs ++ dv) st
  | .blt b es, σ, st => (evs es σ st).bind fun xs st => ofO (bltD b st xs) st
  | .isi t e, σ, st => (ev e σ st).bind fun x st => ofO ((isiD t x).map .bl) st
  | .mth m o es, σ, st => (ev o σ st).bind fun x st => if isLst st x = true then (evs es σ st).bind fun xs st => (match mthD m st x xs with
    | some (d, st) => .ok d st
    | none => .stuck) else .stuck
  | .comp t own it tg cond elt, σ, st => (evi it σ st).bind fun its st =>
      (compRun (fun x st => match asgT st tg x (wipeD σ own) with
        | none => .stuck
        | some σ' => noRaise ((ev cond σ' st).bind fun c st => (ofO (truD st c) st).bind fun k st => if k = true then (ev elt σ' st).bind fun y st => .ok (some y) st else .ok none st)) its fuelD 0 [] st).bind fun ys st => newLst t ys st
  | .fz e, σ, st => (ev e σ st).bind fun x st => match freeze st x with
    | some (d, st) => .ok d st
    | none => .stuck
def evo : IE → EnvD → Store → Out (Option Int)
  | .no, _, st => .ok none st
  | e, σ, st => (ev e σ st).bind fun x st => match x with
    | .int i => .ok (some i) st
    | _ => .stuck
def evs : IEs → EnvD → Store → Out (List D)
  | .nil, _, st => .ok [] st
  | .cons e es, σ, st => (ev e σ st).bind fun x st => (evs es σ st).bind fun xs st => .ok (x :: xs) st
def evi : IIt → EnvD → Store → Out ItD
  | .val e, σ, st => (ev e σ st).bind fun x st => ofO (itemsD st x) st
  | .range es, σ, st => (evs es σ st).bind fun xs st => ofO ((rangeD xs).map .seq) st
end

/-- as a test -/
def evt (e : IE) (σ : EnvD) (st : Store) : Out Bool := (ev e σ st).bind fun x st => ofO (truD st x) st

end Ip
set_option Elab.async false
set_option linter.all false
set_option maxRecDepth 100000
set_option maxHeartbeats 400000
/-! The plain interpreter: statements. No machine here. -/
namespace Ip
open PySem

inductive OutS where
  | nx (σ : EnvD) (st : Store)
  | brk (σ : EnvD) (st : Store)
  | cnt (σ : EnvD) (st : Store)
  | ret (d : D) (st : Store)
  | raise (x : Ex) (σ : EnvD) (st : Store)
  | stuck
/-- a value, then on -/
def Out.andS {α : Type} (o : Out α) (σ : EnvD) (f : α → Store → OutS) : OutS := match o with
  | .ok a st => f a st
  | .raise x st => .raise x σ st
  | .stuck => .stuck
def OutS.seq (o : OutS) (f : EnvD → Store → OutS) : OutS := match o with
  | .nx σ st => f σ st
  | o => o
abbrev MkF := List D → Store → Option Ex
/-- class x, its field the one argument, its text str(argument) -/
def mkStr (x : Nat) : MkF := fun ds _ => match ds with
  | [d] => if depthD d ≤ 60 ∧ (strD d).isSome = true then some ⟨x, [d]⟩ else none
  | _ => none
/-- .. its text a constant -/
def mkCon (x : Nat) : MkF := fun ds _ => match ds with
  | [d] => some ⟨x, [d]⟩
  | _ => none
/-- class x, without a field -/
def mkNo (x : Nat) : MkF := fun ds _ => if szOk ds.length then some ⟨x, []⟩ else none
/-! what an except suite returns: fld is the exception's field -/
mutual
inductive HE where | con (d : D) | fld | lst (es : HEs) | tup (es : HEs) | add (a b : HE) | rep (a : HE)
inductive HEs where | nil | cons (e : HE) (es : HEs)
end
mutual
def evh (x : Ex) : HE → Option D
  | .con d => some d
  | .fld => match x.vs with
    | [d] => some d
    | _ => none
  | .lst es => match evhs x es with
    | some ds => if szOk ds.length then some (.lst ds) else none
    | none => none
  | .tup es => match evhs x es with
    | some ds => if szOk ds.length then some (.tup ds) else none
    | none => none
  | .add a b => match evh x a, evh x b with
    | some d, some e => binD .add [] d e
    | _, _ => none
  | .rep a => match evh x a with
    | some d => bltD .repr [] [d]
    | none => none
def evhs (x : Ex) : HEs → Option (List D)
  | .nil => some []
  | .cons e es => match evh x e, evhs x es with
    | some d, some ds => some (d :: ds)
    | _, _ => none
end
/-- an except clause: of which class; the slot of its name; what is returned -/
structure Hd where
  k : Nat
  i : Option Nat
  h : HE

mutual
inductive IS where
  | pass | brk | cnt | doc (s : Str)
  | expr (e : IE) | ret (e : IE) | retN
  | asg (t : IT) (e : IE)
  | par (is : List Nat) (es : IEs)
  | setI (o i v : IE)
  | setA (tab : List (Nat × Nat)) (o v : IE)
  | stk
  | aug (i : Nat) (o : BO) (e : IE)
  | ite (c : IE) (a b : ISs)
  | whl (n : Nat) (c : IE) (b : ISs)
  | for (t : IT) (it : IIt) (b : ISs)
  | raise (k : Nat) (mk : MkF) (es : IEs)
  | try (b : ISs) (hs : List Hd)
inductive ISs where
  | nil | cons (s : IS) (ss : ISs)
end
def whlRun (c : EnvD → Store → Out Bool) (b : EnvD → Store → OutS) : Nat → EnvD → Store → OutS
  | 0, _, _ => .stuck
  | n + 1, σ, st => (c σ st).andS σ fun k st => if k = true then (match b σ st with
    | .nx σ st => whlRun c b n σ st
    | .cnt σ st => whlRun c b n σ st
    | .brk σ st => .nx σ st
    | o => o) else .nx σ st
def forRun (t : IT) (b : EnvD → Store → OutS) (it : ItD) : Nat → Nat → EnvD → Store → OutS
  | 0, _, _, _ => .stuck
  | n + 1, i, σ, st => match nextD it i st with
    | none => .stuck
    | some none => .nx σ st
    | some (some x) => match asgT st t x σ with
      | none => .stuck
      | some σ => match b σ st with
        | .nx σ st => forRun t b it n (i + 1) σ st
        | .cnt σ st => forRun t b it n (i + 1) σ st
        | .brk σ st => .nx σ st
        | o => o
/-- which clause takes an exception; xm: does the class c fit the clause's class k -/
def handle (xm : Nat → Nat → Bool) (x : Ex) (σ : EnvD) (st : Store) : List Hd → OutS
  | [] => .raise x σ st
  | h :: hs => if xm x.c h.k = true then (match evh x h.h with
    | some d => if h.i.all (fun i => decide (i < σ.length)) = true then .ret d st else .stuck
    | none => .stuck) else handle xm x σ st hs
def augD (o : BO) (a b : D) : Option D := match o, a, b with
  | .add, .int i, .int j => some (.int (i + j))
  | .sub, .int i, .int j => some (.int (i - j))
  | .mul, .int i, .int j => if mulOk i j then some (.int (i * j)) else none
  | _, _, _ => none
/-- o.f = d, o being made -/
def setAD (tab : List (Nat × Nat)) (st : Store) (o d : D) : Option Store := match o with
  | .ref n => match st[n]? with
    | some (.ins c fs) => match tab.lookup c with
      | some i => if i < fs.length then some (st.set n (.ins c (fs.set i (some d)))) else none
      | none => none
    | _ => none
  | _ => none
mutual
def exec (xm : Nat → Nat → Bool) : IS → EnvD → Store → OutS
  | .pass, σ, st => .nx σ st
  | .brk, σ, st => .brk σ st
  | .cnt, σ, st => .cnt σ st
  | .doc _, σ, st => .nx σ st
  | .expr e, σ, st => (ev e σ st).andS σ fun _ st => .nx σ st
  | .ret e, σ, st => (ev e σ st).andS σ fun d st => .ret d st
  | .retN, _, st => .ret .non st
  | .asg t e, σ, st => (ev e σ st).andS σ fun d st => match asgT st t d σ with
    | some σ => .nx σ st
    | none => .stuck
  | .par is es, σ, st => (evs es σ st).andS σ fun ds st => match setAll is.reverse ds.reverse σ with
    | some σ => .nx σ st
    | none => .stuck
  | .setI o i v, σ, st => (ev v σ st).andS σ fun d st => (ev o σ st).andS σ fun x st => (ev i σ st).andS σ fun y st => match setD st x y d with
    | some st => .nx σ st
    | none => .stuck
  | .setA tab o v, σ, st => (ev v σ st).andS σ fun d st => (ev o σ st).andS σ fun x st => match setAD tab st x d with
    | some st => .nx σ st
    | none => .stuck
  | .stk, _, _ => .stuck
  | .aug i o e, σ, st => match σ[i]? with
    | some (some a) => (ev e σ st).andS σ fun b st => match augD o a b with
      | some d => .nx (σ.set i (some d)) st
      | none => .stuck
    | _ => .stuck
  | .ite c a b, σ, st => (evt c σ st).andS σ fun k st => if k = true then execs xm a σ st else execs xm b σ st
  | .whl n c b, σ, st => whlRun (evt c) (execs xm b) n σ st
  | .for t it b, σ, st => (evi it σ st).andS σ fun its st => forRun t (execs xm b) its fuelD 0 σ st
  | .raise _ mk es, σ, st => (evs es σ st).andS σ fun ds st => match mk ds st with
    | some x => .raise x σ st
    | none => .stuck
  | .try b hs, σ, st => match execs xm b σ st with
    | .raise x σ st => handle xm x σ st hs
    | o => o
def execs (xm : Nat → Nat → Bool) : ISs → EnvD → Store → OutS
  | .nil, σ, st => .nx σ st
  | .cons s ss, σ, st => (exec xm s σ st).seq (execs xm ss)
end
/-! ### a call's end: the cells that it laid are let go, where nothing points at them -/
mutual
def noRef : D → Bool
  | .tup xs => noRefs xs
  | .lst xs => noRefs xs
  | .dct ks vs => noRefs ks && noRefs vs
  | .obj _ fs => noRefs fs
  | .ref _ => false
  | _ => true
def noRefs : List D → Bool
  | [] => true
  | x :: xs => noRef x && noRefs xs
end
def noRefO : Option D → Bool
  | some d => noRef d
  | none => true
def noRefC : Cell → Bool
  | .dead => true
  | .lst xs => noRefs xs
  | .dct ks vs => noRefs ks && noRefs vs
  | .ins _ fs => fs.all noRefO
def keepB : Store → Store → Bool
  | [], _ => true
  | c :: cs, d :: ds => (sameC c d || noRefC d) && keepB cs ds
  | _ :: _, [] => false
/-- the store behind a call -/
def closeSt (st st' : Store) : Store := if keepB st st' = true then st'.take st.length else st'
/-- what a body gives, called with these arguments; n slots -/
def callD (xm : Nat → Nat → Bool) (np n : Nat) (b : ISs) : Fn := fun ds st => if ds.length = np then (match execs xm b (ds.map some ++ List.replicate n none) st with
  | .nx _ st' => .ok .non (closeSt st st')
  | .ret d st' => if noRef d = true then .ok d (closeSt st st') else .ok d st'
  | .raise x _ st' => if noRefs x.vs = true then .raise x (closeSt st st') else .raise x st'
  | _ => .stuck) else .stuck
/-! ### exceptions whose text an own object's def makes -/
/-- class x, its field the one argument, an object of the class cl; its text by the own def -/
def mkOwn (x cl : Nat) (a : Alt) : MkF := fun ds st => match ds with
  | [.obj c fs] => if c = cl then (match a.sm (.obj c fs :: a.dv) st with
    | .ok (.str _) st' => if sameSt st' st = true then some ⟨x, [.obj c fs]⟩ else none
    | _ => none) else none
  | _ => none
theorem mkOwn_some {x cl : Nat} {a : Alt} {d : D} {st : Store} {e : Ex} (h : mkOwn x cl a [d] st = some e) : ∃ c fs, d = .obj c fs ∧ c = cl ∧ ∃ y, a.sm (.obj c fs :: a.dv) st = .ok (.str y) st := by
  unfold mkOwn at h
  split at h
  · rename_i c fs hd
    split at h
    · rename_i hc
      split at h
      · rename_i y st' hy
        split at h
        · rename_i hs
          cases hd
          rw [sameSt_eq hs] at hy
          exact ⟨c, fs, rfl, hc, y, hy⟩
        · cases h
      · cases h
    · cases h
  · cases h
def mkAlt (a b : MkF) : MkF := fun ds st => match a ds st with
  | some x => some x
  | none => b ds st
end Ip
set_option Elab.async false
set_option linter.all false
set_option maxRecDepth 100000
set_option maxHeartbeats 4000000
/-! What plain values and stores mean in the abstract heap; readings by the interpreter. -/
namespace Ip
open PySem PySem.Spec PyProof.Rows L2

/-- what of the text a class must have -/
structure ClsOk (K : PySem.W.Frag) (C : Addr) (sl : List Str) : Prop where
  cls : SlX.SCls K C
  isi : SlX.SIsi K C
  ne : PySem.W.findIn K (.ref C) "__ne__" = some (some (.builtin "object.__ne__"))
  slot : ∀ (i : Nat) f, sl[i]? = some f → ∃ p, SlX.Slot1 K C f p i
structure Tb where
  K : PySem.W.Frag
  ca : Nat → Addr
  nc : Nat
  sl : Nat → List Str
  cok : ∀ k, k < nc → ClsOk K (ca k) (sl k)
  kit : ∀ j k, j < nc → k < nc → PySem.W.kitOne K (.ref (ca j)) (.ref (ca k)) = some (j == k)
  kib : ∀ k, k < nc → ∀ t ∈ ["NoneType", "bool", "int", "str", "tuple", "list", "dict"], PySem.W.kitOne K (.type t) (.ref (ca k)) = some false ∧ PySem.W.notFirst K (ca k) (.type t) = true ∧ PySem.W.subIn K (.type t) (.ref (ca k)) = some false
  kti : ∀ j, j < nc → ∀ t ∈ ["bool", "int", "str", "tuple", "list", "dict"], PySem.W.kitOne K (.ref (ca j)) (.type t) = some false
  nf : ∀ j k, j < nc → k < nc → PySem.W.notFirst K (ca j) (.ref (ca k)) = true
  dg : PySem.W.nsIn K cStatics "sys.int_max_str_digits" = some none
  xa : Nat → Value
  xf : Nat → Str
  xm : Nat → Nat → Bool
  hc : Nat → Value

/-- F: what stands and is never changed; φ: where the store's cells stand; h: what is held as it is by a loop around -/
structure Wd where
  F : Hp
  φ : List (Addr × Addr)
  h : List (Addr × HO)
def Wd.Sub (W W' : Wd) : Prop := Same W.F W'.F ∧ ∃ r, W'.φ = W.φ ++ r
def Wd.le (W W' : Wd) : Prop := W.Sub W' ∧ W'.h = W.h
theorem Wd.Sub.refl (W : Wd) : W.Sub W := ⟨Same.refl _, [], by simp⟩
theorem Wd.Sub.trans {A B C : Wd} (h : A.Sub B) (k : B.Sub C) : A.Sub C := by
  obtain ⟨h1, r, h2⟩ := h
  obtain ⟨k1, q, k2⟩ := k
  exact ⟨h1.trans k1, r ++ q, by rw [k2, h2, List.append_assoc]⟩
theorem Wd.le.refl (W : Wd) : W.le W := ⟨.refl W, rfl⟩
theorem Wd.le.trans {A B C : Wd} (h : A.le B) (k : B.le C) : A.le C := ⟨h.1.trans k.1, k.2.trans h.2⟩
theorem Wd.Sub.at {A B : Wd} (h : A.Sub B) {n : Nat} {p : Addr × Addr} (e : A.φ[n]? = some p) : B.φ[n]? = some p := by
  obtain ⟨_, r, e2⟩ := h
  rw [e2]
  have hlt : n < A.φ.length := (List.getElem?_eq_some_iff.mp e).1
  rw [List.getElem?_append_left hlt]
  exact e

theorem Same.tup {K : PySem.W.Frag} {H H' : Hp} {a : Addr} {xs : List V} (e : Same H H') (h : SqT K H a xs) : SqT K H' a xs := by
  rcases h with (h | ⟨o, h⟩) | h
  · exact .inl (.inl (e _ _ h))
  · exact .inl (.inr ⟨o, e _ _ h⟩)
  · exact .inr h

mutual
inductive Rep (T : Tb) (W : Wd) : D → V → Prop
  | non : Rep T W .non .non
  | bl (b : Bool) : Rep T W (.bl b) (.bl b)
  | int (i : Int) : Rep T W (.int i) (.int i)
  | str (x : Str) : Rep T W (.str x) (.str x)
  | tup {ds : List D} {a : Addr} {xs : List V} : SqT T.K W.F a xs → RepA T W ds xs → Rep T W (.tup ds) (.ref a)
  | lst {ds : List D} {a : Addr} {xs : List V} : SqL T.K W.F a xs → RepA T W ds xs → Rep T W (.lst ds) (.ref a)
  | ref {n : Nat} {p : Addr × Addr} : W.φ[n]? = some p → Rep T W (.ref n) (.ref p.1)
  | cls (c : Nat) : Rep T W (.cls c) (.ref (T.ca c))
  | dct0 {a : Addr} : W.F a = some (.dK []) → Rep T W (.dct [] []) (.ref a)
  | obj {c : Nat} {fs : List D} {a dx : Addr} {vs : List (Option V)} {xs : List V} : c < T.nc → W.F a = some (SlX.SlO a (T.ca c) dx vs) → W.F dx = some (.xd []) → (∀ (i : Nat) x, xs[i]? = some x → vs[i]? = some (some x)) → RepA T W fs xs → Rep T W (.obj c fs) (.ref a)
inductive RepA (T : Tb) (W : Wd) : List D → List V → Prop
  | nil : RepA T W [] []
  | cons {d : D} {ds : List D} {v : V} {vs : List V} : Rep T W d v → RepA T W ds vs → RepA T W (d :: ds) (v :: vs)
end

section
variable {T : Tb} {W W' : Wd}
mutual
theorem Rep.sub (le : W.Sub W') : ∀ {d : D} {v : V}, Rep T W d v → Rep T W' d v
  | _, _, .non => .non
  | _, _, .bl b => .bl b
  | _, _, .int i => .int i
  | _, _, .str x => .str x
  | _, _, .tup h r => .tup (Same.tup le.1 h) (RepA.sub le r)
  | _, _, .lst h r => .lst (le.1.seq h) (RepA.sub le r)
  | _, _, .ref h => .ref (le.at h)
  | _, _, .cls c => .cls c
  | _, _, .dct0 h => .dct0 (le.1 _ _ h)
  | _, _, .obj h1 h2 h3 h4 r => .obj h1 (le.1 _ _ h2) (le.1 _ _ h3) h4 (RepA.sub le r)
theorem RepA.sub (le : W.Sub W') : ∀ {ds : List D} {vs : List V}, RepA T W ds vs → RepA T W' ds vs
  | _, _, .nil => .nil
  | _, _, .cons h r => .cons (Rep.sub le h) (RepA.sub le r)
end
theorem Rep.mono (le : W.le W') {d : D} {v : V} (r : Rep T W d v) : Rep T W' d v := r.sub le.1
theorem RepA.mono (le : W.le W') {ds : List D} {vs : List V} (r : RepA T W ds vs) : RepA T W' ds vs := r.sub le.1
theorem RepA.length : ∀ {ds : List D} {vs : List V}, RepA T W ds vs → ds.length = vs.length
  | _, _, .nil => rfl
  | _, _, .cons _ r => by rw [List.length_cons, List.length_cons, RepA.length r]
theorem RepA.get : ∀ {ds : List D} {vs : List V} {i : Nat} {d : D}, RepA T W ds vs → ds[i]? = some d → ∃ v, vs[i]? = some v ∧ Rep T W d v
  | _, _, _, _, .nil, e => by simp at e
  | _, _, 0, _, .cons h _, e => by simp at e; subst e; exact ⟨_, by simp, h⟩
  | _, _, i + 1, _, .cons _ r, e => by
    obtain ⟨v, h1, h2⟩ := RepA.get (i := i) r (by simpa using e)
    exact ⟨v, by simpa using h1, h2⟩
theorem RepA.getV : ∀ {ds : List D} {vs : List V} {i : Nat} {v : V}, RepA T W ds vs → vs[i]? = some v → ∃ d, ds[i]? = some d ∧ Rep T W d v
  | _, _, _, _, .nil, e => by simp at e
  | _, _, 0, _, .cons h _, e => by simp at e; subst e; exact ⟨_, by simp, h⟩
  | _, _, i + 1, _, .cons _ r, e => by
    obtain ⟨v, h1, h2⟩ := RepA.getV (i := i) r (by simpa using e)
    exact ⟨v, by simpa using h1, h2⟩
theorem RepA.append : ∀ {ds es : List D} {vs ws : List V}, RepA T W ds vs → RepA T W es ws → RepA T W (ds ++ es) (vs ++ ws)
  | _, _, _, _, .nil, s => s
  | _, _, _, _, .cons h r, s => .cons h (RepA.append r s)
theorem RepA.take : ∀ {ds : List D} {vs : List V} (n : Nat), RepA T W ds vs → RepA T W (ds.take n) (vs.take n)
  | _, _, 0, _ => by simp; exact .nil
  | _, _, _ + 1, .nil => .nil
  | _, _, n + 1, .cons h r => .cons h (RepA.take n r)
theorem RepA.drop : ∀ {ds : List D} {vs : List V} (n : Nat), RepA T W ds vs → RepA T W (ds.drop n) (vs.drop n)
  | _, _, 0, r => r
  | _, _, _ + 1, .nil => .nil
  | _, _, n + 1, .cons _ r => RepA.drop n r
theorem RepA.reverse : ∀ {ds : List D} {vs : List V}, RepA T W ds vs → RepA T W ds.reverse vs.reverse
  | _, _, .nil => .nil
  | _, _, .cons h r => by rw [List.reverse_cons, List.reverse_cons]; exact (RepA.reverse r).append (.cons h .nil)
theorem RepA.set : ∀ {ds : List D} {vs : List V} {d : D} {v : V} (n : Nat), RepA T W ds vs → Rep T W d v → RepA T W (ds.set n d) (vs.set n v)
  | _, _, _, _, _, .nil, _ => .nil
  | _, _, _, _, 0, .cons _ r, h => .cons h r
  | _, _, _, _, n + 1, .cons k r, h => .cons k (RepA.set n r h)
theorem RepA.erase : ∀ {ds : List D} {vs : List V} (n : Nat), RepA T W ds vs → RepA T W (ds.eraseIdx n) (vs.eraseIdx n)
  | _, _, _, .nil => .nil
  | _, _, 0, .cons _ r => r
  | _, _, n + 1, .cons k r => .cons k (RepA.erase n r)
theorem RepA.cut {ds : List D} {vs : List V} (r : RepA T W ds vs) (lo hi : Option Int) : RepA T W (cutD ds lo hi) (cutV vs lo hi) := by
  unfold cutD cutV
  rw [r.length]
  exact (r.drop _).take _
theorem RepA.isEmpty {ds : List D} {vs : List V} (r : RepA T W ds vs) : (!vs.isEmpty) = !ds.isEmpty := by cases r <;> rfl
end

def Cell.live : Cell → Bool
  | .dead => false
  | _ => true
def CellRep (T : Tb) (W : Wd) (p : Addr × Addr) (H : Hp) : Cell → Prop
  | .dead => True
  | .lst ds => ∃ xs, H p.1 = some (.lst xs) ∧ RepA T W ds xs ∧ p.2 = p.1
  | .ins c fs => ∃ vs, SlX.Slt H p.1 (T.ca c) p.2 vs ∧ p.2 ≠ p.1 ∧ c < T.nc ∧ ∀ (i : Nat) d, fs[i]? = some (some d) → ∃ v, vs[i]? = some (some v) ∧ Rep T W d v
  | _ => False
/-- the store and the abstract heap -/
structure Sim (T : Tb) (W : Wd) (st : Store) (H : Hp) : Prop where
  sub : Same W.F H
  len : W.φ.length = st.length
  cell : ∀ (n : Nat) c p, st[n]? = some c → W.φ[n]? = some p → CellRep T W p H c
  own : ∀ (n : Nat) c p, st[n]? = some c → W.φ[n]? = some p → c.live = true → W.F p.1 = none ∧ W.F p.2 = none ∧ H p.1 ≠ none ∧ H p.2 ≠ none
  held : ∀ p ∈ W.h, H p.1 = some p.2 ∧ W.F p.1 = none ∧ ∀ (n : Nat) c q, st[n]? = some c → W.φ[n]? = some q → c.live = true → q.1 ≠ p.1 ∧ q.2 ≠ p.1
  hnd : (W.h.map (·.1)).Nodup
  sep : ∀ (n m : Nat) c d p q, n ≠ m → st[n]? = some c → st[m]? = some d → c.live = true → d.live = true → W.φ[n]? = some p → W.φ[m]? = some q → p.1 ≠ q.1 ∧ p.1 ≠ q.2 ∧ p.2 ≠ q.1 ∧ p.2 ≠ q.2
theorem CellRep.sub {T : Tb} {W W' : Wd} {p : Addr × Addr} {H : Hp} (le : W.Sub W') : ∀ {c : Cell}, CellRep T W p H c → CellRep T W' p H c
  | .dead, h => h
  | .lst _, ⟨xs, h1, h2, h3⟩ => ⟨xs, h1, h2.sub le, h3⟩
  | .dct _ _, h => h
  | .ins _ _, ⟨vs, h1, h2, h3, h4⟩ => ⟨vs, h1, h2, h3, fun i d e => let ⟨v, a, b⟩ := h4 i d e; ⟨v, a, b.sub le⟩⟩
theorem CellRep.heap {T : Tb} {W : Wd} {p : Addr × Addr} {H H' : Hp} (h1 : H' p.1 = H p.1) (h2 : H' p.2 = H p.2) : ∀ {c : Cell}, CellRep T W p H c → CellRep T W p H' c
  | .dead, h => h
  | .lst _, ⟨xs, a, b, c⟩ => ⟨xs, by rw [h1]; exact a, b, c⟩
  | .dct _ _, h => h
  | .ins _ _, ⟨vs, a, b⟩ => ⟨vs, by unfold SlX.Slt at a ⊢; rw [h1, h2]; exact a, b⟩

section
variable {T : Tb} {W : Wd} {st : Store} {H : Hp}
/-- a new object that stays as it is -/
theorem Sim.new (s : Sim T W st H) {p : Addr} {o : HO} (hp : H p = none) : W.le ⟨upd W.F p o, W.φ, W.h⟩ ∧ Sim T ⟨upd W.F p o, W.φ, W.h⟩ st (upd H p o) := by
  have hf : W.F p = none := s.sub.free hp
  have le : W.le ⟨upd W.F p o, W.φ, W.h⟩ := ⟨⟨fun b u e => by rw [show (Wd.mk (upd W.F p o) W.φ W.h).F = upd W.F p o from rfl, upd_ne (ne_of_none e hf)]; exact e, [], by simp⟩, rfl⟩
  have hh : ∀ q ∈ W.h, q.1 ≠ p := fun q hq z => by
    have := (s.held q hq).1
    rw [z, hp] at this; cases this
  refine ⟨le, ⟨fun b u e => ?_, s.len, fun n c q h1 h2 => ?_, fun n c q h1 h2 h3 => ?_, fun q hq => ⟨by rw [upd_ne (hh q hq)]; exact (s.held q hq).1, by show upd W.F p o q.1 = none; rw [upd_ne (hh q hq)]; exact (s.held q hq).2.1, (s.held q hq).2.2⟩, s.hnd, s.sep⟩⟩
  · by_cases hb : b = p
    · subst hb
      have e' : upd W.F b o b = some u := e
      rw [upd_same] at e' ⊢
      exact e'
    · have e' : upd W.F p o b = some u := e
      rw [upd_ne hb] at e' ⊢
      exact s.sub _ _ e'
  · by_cases hl : c.live = true
    · obtain ⟨_, _, o3, o4⟩ := s.own n c q h1 h2 hl
      have n1 : q.1 ≠ p := fun z => o3 (by rw [z]; exact hp)
      have n2 : q.2 ≠ p := fun z => o4 (by rw [z]; exact hp)
      exact ((s.cell n c q h1 h2).sub le.1).heap (by rw [upd_ne n1]) (by rw [upd_ne n2])
    · cases c <;> first | trivial | exact absurd rfl hl
  · obtain ⟨o1, o2, o3, o4⟩ := s.own n c q h1 h2 h3
    have n1 : q.1 ≠ p := fun z => o3 (by rw [z]; exact hp)
    have n2 : q.2 ≠ p := fun z => o4 (by rw [z]; exact hp)
    refine ⟨?_, ?_, ?_, ?_⟩
    · show upd W.F p o q.1 = none; rw [upd_ne n1]; exact o1
    · show upd W.F p o q.2 = none; rw [upd_ne n2]; exact o2
    · rw [upd_ne n1]; exact o3
    · rw [upd_ne n2]; exact o4
theorem get_snoc {α : Type} {l : List α} {x y : α} {n : Nat} (h : (l ++ [x])[n]? = some y) : (l[n]? = some y ∧ n < l.length) ∨ (n = l.length ∧ y = x) := by
  by_cases hn : n < l.length
  · rw [List.getElem?_append_left hn] at h; exact .inl ⟨h, hn⟩
  · have hl : n < (l ++ [x]).length := (List.getElem?_eq_some_iff.mp h).1
    rw [List.length_append, List.length_singleton] at hl
    have e : n = l.length := by omega
    subst e
    rw [List.getElem?_append_right (Nat.le_refl _), Nat.sub_self] at h
    simp at h
    exact .inr ⟨rfl, h.symm⟩
/-- a new list that is a cell -/
theorem Sim.newCell (s : Sim T W st H) {p : Addr} {xs : List V} {ds : List D} (hp : H p = none) (r : RepA T W ds xs) :
    W.le ⟨W.F, W.φ ++ [(p, p)], W.h⟩ ∧ Sim T ⟨W.F, W.φ ++ [(p, p)], W.h⟩ (st ++ [.lst ds]) (upd H p (.lst xs)) := by
  have hf : W.F p = none := s.sub.free hp
  have le : W.le ⟨W.F, W.φ ++ [(p, p)], W.h⟩ := ⟨⟨Same.refl _, [(p, p)], rfl⟩, rfl⟩
  have hh : ∀ q ∈ W.h, q.1 ≠ p := fun q hq z => by
    have := (s.held q hq).1
    rw [z, hp] at this; cases this
  have old : ∀ {n : Nat} {c : Cell} {q : Addr × Addr}, st[n]? = some c → W.φ[n]? = some q → c.live = true → q.1 ≠ p ∧ q.2 ≠ p := fun h1 h2 h3 => by
    obtain ⟨_, _, o3, o4⟩ := s.own _ _ _ h1 h2 h3
    exact ⟨fun z => o3 (by rw [z]; exact hp), fun z => o4 (by rw [z]; exact hp)⟩
  have two : ∀ {n : Nat} {c : Cell} {q : Addr × Addr}, (st ++ [Cell.lst ds])[n]? = some c → (W.φ ++ [(p, p)])[n]? = some q → (st[n]? = some c ∧ W.φ[n]? = some q) ∨ (n = st.length ∧ c = .lst ds ∧ q = (p, p)) := fun {n c q} h1 h2 => by
    rcases get_snoc h1 with ⟨h1, k1⟩ | ⟨k1, h1⟩
    · rcases get_snoc h2 with ⟨h2, _⟩ | ⟨k2, _⟩
      · exact .inl ⟨h1, h2⟩
      · rw [s.len] at k2; omega
    · rcases get_snoc h2 with ⟨_, k2⟩ | ⟨_, h2⟩
      · rw [s.len] at k2; omega
      · exact .inr ⟨k1, h1, h2⟩
  refine ⟨le, ⟨fun b u e => ?_, ?_, fun n c q h1 h2 => ?_, fun n c q h1 h2 h3 => ?_, fun q hq => ⟨by rw [upd_ne (hh q hq)]; exact (s.held q hq).1, (s.held q hq).2.1, fun n c r h1 h2 h3 => ?_⟩, s.hnd, fun n m c d q1 q2 hnm h1 h2 h3 h4 h5 h6 => ?_⟩⟩
  · rw [upd_ne (ne_of_none e hf)]; exact s.sub _ _ e
  · show (W.φ ++ [(p, p)]).length = _; rw [List.length_append, List.length_append, s.len]; rfl
  · rcases two h1 h2 with ⟨h1, h2⟩ | ⟨_, rfl, rfl⟩
    · by_cases hl : c.live = true
      · obtain ⟨n1, n2⟩ := old h1 h2 hl
        exact ((s.cell n c q h1 h2).sub le.1).heap (by rw [upd_ne n1]) (by rw [upd_ne n2])
      · cases c <;> first | trivial | exact absurd rfl hl
    · exact ⟨xs, upd_same, r.mono le, rfl⟩
  · rcases two h1 h2 with ⟨h1, h2⟩ | ⟨_, rfl, rfl⟩
    · obtain ⟨o1, o2, o3, o4⟩ := s.own n c q h1 h2 h3
      obtain ⟨n1, n2⟩ := old h1 h2 h3
      exact ⟨o1, o2, by rw [upd_ne n1]; exact o3, by rw [upd_ne n2]; exact o4⟩
    · exact ⟨hf, hf, (by rw [upd_same]; exact fun z => nomatch z), (by rw [upd_same]; exact fun z => nomatch z)⟩
  · rcases two h1 h2 with ⟨h1, h2⟩ | ⟨_, rfl, rfl⟩
    · exact (s.held q hq).2.2 n c r h1 h2 h3
    · exact ⟨fun z => hh q hq z.symm, fun z => hh q hq z.symm⟩
  · rcases two h1 h5 with ⟨h1, h5⟩ | ⟨k1, rfl, rfl⟩
    · rcases two h2 h6 with ⟨h2, h6⟩ | ⟨k2, rfl, rfl⟩
      · exact s.sep n m c d q1 q2 hnm h1 h2 h3 h4 h5 h6
      · obtain ⟨n1, n2⟩ := old h1 h5 h3
        exact ⟨n1, n1, n2, n2⟩
    · rcases two h2 h6 with ⟨h2, h6⟩ | ⟨k2, rfl, rfl⟩
      · obtain ⟨n1, n2⟩ := old h2 h6 h4
        exact ⟨fun z => n1 z.symm, fun z => n2 z.symm, fun z => n1 z.symm, fun z => n2 z.symm⟩
      · omega
theorem set_get {α : Type} {l : List α} {n m : Nat} {x y : α} (h : (l.set n x)[m]? = some y) : (m = n ∧ y = x ∧ n < l.length) ∨ (m ≠ n ∧ l[m]? = some y) := by
  by_cases e : n = m
  · subst e
    have hl : n < (l.set n x).length := (List.getElem?_eq_some_iff.mp h).1
    rw [List.length_set] at hl
    rw [List.getElem?_set_self hl] at h
    exact .inl ⟨rfl, (Option.some.inj h).symm, hl⟩
  · rw [List.getElem?_set_ne e] at h
    exact .inr ⟨fun z => e z.symm, h⟩
/-- a list in a cell is changed -/
theorem Sim.write (s : Sim T W st H) {n : Nat} {p : Addr × Addr} {ds es : List D} {xs : List V} (hn : st[n]? = some (.lst ds)) (hp : W.φ[n]? = some p) (r : RepA T W es xs) : Sim T W (st.set n (.lst es)) (upd H p.1 (.lst xs)) := by
  obtain ⟨o1, o2, o3, o4⟩ := s.own n _ p hn hp rfl
  obtain ⟨_, _, _, e12⟩ := s.cell n _ p hn hp
  have back : ∀ {j : Nat} {c : Cell}, (st.set n (.lst es))[j]? = some c → c.live = true → ∃ c', st[j]? = some c' ∧ c'.live = true := fun {j c} h hl => by
    rcases set_get h with ⟨rfl, rfl, _⟩ | ⟨hm, h⟩
    · exact ⟨_, hn, rfl⟩
    · exact ⟨c, h, hl⟩
  have hh : ∀ q ∈ W.h, q.1 ≠ p.1 := fun q hq z => ((s.held q hq).2.2 n _ p hn hp rfl).1 z.symm
  refine ⟨fun b u e => ?_, by rw [List.length_set]; exact s.len, fun m c q h1 h2 => ?_, fun m c q h1 h2 h3 => ?_, fun q hq => ⟨by rw [upd_ne (hh q hq)]; exact (s.held q hq).1, (s.held q hq).2.1, fun m c r h1 h2 h3 => ?_⟩, s.hnd, fun m k c d q1 q2 hmk h1 h2 h3 h4 h5 h6 => ?_⟩
  · rw [upd_ne (ne_of_none e o1)]; exact s.sub _ _ e
  · rcases set_get h1 with ⟨rfl, rfl, _⟩ | ⟨hm, h1⟩
    · rw [hp] at h2; cases h2
      exact ⟨xs, upd_same, r, e12⟩
    · by_cases hl : c.live = true
      · obtain ⟨a1, a2, a3, a4⟩ := s.sep m n c _ q p hm h1 hn hl rfl h2 hp
        exact (s.cell m c q h1 h2).heap (by rw [upd_ne a1]) (by rw [upd_ne a3])
      · cases c <;> first | trivial | exact absurd rfl hl
  · rcases set_get h1 with ⟨rfl, rfl, _⟩ | ⟨hm, h1⟩
    · rw [hp] at h2; cases h2
      exact ⟨o1, o2, (by rw [upd_same]; exact fun z => nomatch z), (by rw [e12, upd_same]; exact fun z => nomatch z)⟩
    · obtain ⟨b1, b2, b3, b4⟩ := s.own m c q h1 h2 h3
      obtain ⟨a1, a2, a3, a4⟩ := s.sep m n c _ q p hm h1 hn h3 rfl h2 hp
      exact ⟨b1, b2, by rw [upd_ne a1]; exact b3, by rw [upd_ne a3]; exact b4⟩
  · obtain ⟨c', g1, g2⟩ := back h1 h3
    exact (s.held q hq).2.2 m c' r g1 h2 g2
  · obtain ⟨c', g1, g2⟩ := back h1 h3
    obtain ⟨d', g3, g4⟩ := back h2 h4
    exact s.sep m k c' d' q1 q2 hmk g1 g3 g2 g4 h5 h6
/-- a cell is given up: its list stays as it is from now on -/
theorem Sim.freeze (s : Sim T W st H) {n : Nat} {p : Addr × Addr} {ds : List D} (hn : st[n]? = some (.lst ds)) (hp : W.φ[n]? = some p) :
    ∃ W', W.le W' ∧ Sim T W' (st.set n .dead) H ∧ Rep T W' (.lst ds) (.ref p.1) := by
  obtain ⟨o1, o2, o3, o4⟩ := s.own n _ p hn hp rfl
  obtain ⟨xs, hx, r, e12⟩ := s.cell n _ p hn hp
  have le : W.le ⟨upd W.F p.1 (.lst xs), W.φ, W.h⟩ := ⟨⟨fun b u e => by rw [show (Wd.mk (upd W.F p.1 (.lst xs)) W.φ W.h).F = upd W.F p.1 (.lst xs) from rfl, upd_ne (ne_of_none e o1)]; exact e, [], by simp⟩, rfl⟩
  have back : ∀ {j : Nat} {c : Cell}, (st.set n .dead)[j]? = some c → c.live = true → st[j]? = some c := fun {j c} h hl => by
    rcases set_get h with ⟨rfl, rfl, _⟩ | ⟨hm, h⟩
    · cases hl
    · exact h
  have hh : ∀ q ∈ W.h, q.1 ≠ p.1 := fun q hq z => ((s.held q hq).2.2 n _ p hn hp rfl).1 z.symm
  refine ⟨⟨upd W.F p.1 (.lst xs), W.φ, W.h⟩, le, ⟨fun b u e => ?_, by rw [List.length_set]; exact s.len, fun m c q h1 h2 => ?_, fun m c q h1 h2 h3 => ?_, fun q hq => ⟨(s.held q hq).1, by show upd W.F p.1 _ q.1 = none; rw [upd_ne (hh q hq)]; exact (s.held q hq).2.1, fun m c r h1 h2 h3 => (s.held q hq).2.2 m c r (back h1 h3) h2 h3⟩, s.hnd, fun m k c d q1 q2 hmk h1 h2 h3 h4 h5 h6 => ?_⟩, .lst (SqL.of upd_same) (r.mono le)⟩
  · have e' : upd W.F p.1 (.lst xs) b = some u := e
    by_cases hb : b = p.1
    · rw [hb, upd_same] at e'; rw [hb, hx]; exact e'
    · rw [upd_ne hb] at e'; exact s.sub _ _ e'
  · rcases set_get h1 with ⟨rfl, rfl, _⟩ | ⟨hm, h1⟩
    · trivial
    · exact (s.cell m c q h1 h2).sub le.1
  · rcases set_get h1 with ⟨rfl, rfl, _⟩ | ⟨hm, h1⟩
    · cases h3
    · obtain ⟨b1, b2, b3, b4⟩ := s.own m c q h1 h2 h3
      obtain ⟨a1, a2, a3, a4⟩ := s.sep m n c _ q p hm h1 hn h3 rfl h2 hp
      refine ⟨?_, ?_, b3, b4⟩
      · show upd W.F p.1 _ q.1 = none; rw [upd_ne a1]; exact b1
      · show upd W.F p.1 _ q.2 = none; rw [upd_ne a3]; exact b2
  · exact s.sep m k c d q1 q2 hmk (back h1 h3) (back h2 h4) h3 h4 h5 h6
/-- a new object is held -/
theorem Sim.hold (s : Sim T W st H) {p : Addr} {o : HO} (hp : H p = none) : Sim T ⟨W.F, W.φ, (p, o) :: W.h⟩ st (upd H p o) := by
  have hf : W.F p = none := s.sub.free hp
  have hh : ∀ q ∈ W.h, q.1 ≠ p := fun q hq z => by
    have := (s.held q hq).1
    rw [z, hp] at this; cases this
  have old : ∀ {n : Nat} {c : Cell} {q : Addr × Addr}, st[n]? = some c → W.φ[n]? = some q → c.live = true → q.1 ≠ p ∧ q.2 ≠ p := fun h1 h2 h3 => by
    obtain ⟨_, _, o3, o4⟩ := s.own _ _ _ h1 h2 h3
    exact ⟨fun z => o3 (by rw [z]; exact hp), fun z => o4 (by rw [z]; exact hp)⟩
  refine ⟨fun b u e => by rw [upd_ne (ne_of_none e hf)]; exact s.sub _ _ e, s.len, fun n c q h1 h2 => ?_, fun n c q h1 h2 h3 => ?_, fun q hq => ?_, ?_, s.sep⟩
  · by_cases hl : c.live = true
    · obtain ⟨n1, n2⟩ := old h1 h2 hl
      exact (CellRep.sub (W := W) (W' := ⟨W.F, W.φ, (p, o) :: W.h⟩) ⟨Same.refl _, [], by simp⟩ (s.cell n c q h1 h2)).heap (by rw [upd_ne n1]) (by rw [upd_ne n2])
    · cases c <;> first | trivial | exact absurd rfl hl
  · obtain ⟨o1, o2, o3, o4⟩ := s.own n c q h1 h2 h3
    obtain ⟨n1, n2⟩ := old h1 h2 h3
    exact ⟨o1, o2, by rw [upd_ne n1]; exact o3, by rw [upd_ne n2]; exact o4⟩
  · rcases List.mem_cons.mp hq with rfl | hq
    · exact ⟨upd_same, hf, fun n c r h1 h2 h3 => old h1 h2 h3⟩
    · exact ⟨by rw [upd_ne (hh q hq)]; exact (s.held q hq).1, (s.held q hq).2.1, (s.held q hq).2.2⟩
  · show (p :: W.h.map (·.1)).Nodup
    exact List.nodup_cons.mpr ⟨fun hm => by
      obtain ⟨q, hq, e⟩ := List.mem_map.mp hm
      exact hh q hq e, s.hnd⟩
/-- what is held is changed by its holder -/
theorem Sim.rehold {p : Addr} {o o' : HO} {hs : List (Addr × HO)} (s : Sim T W st H) (e : W.h = (p, o) :: hs) : Sim T ⟨W.F, W.φ, (p, o') :: hs⟩ st (upd H p o') := by
  have hm : (p, o) ∈ W.h := by rw [e]; exact List.mem_cons_self
  obtain ⟨k1, k2, k3⟩ := s.held _ hm
  have nd := s.hnd
  rw [e] at nd
  have nd' : (p :: hs.map (·.1)).Nodup := nd
  have hh : ∀ q ∈ hs, q.1 ≠ p := fun q hq z => (List.nodup_cons.mp nd').1 (List.mem_map.mpr ⟨q, hq, z⟩)
  refine ⟨fun b u e => by rw [upd_ne (ne_of_none e k2)]; exact s.sub _ _ e, s.len, fun n c q h1 h2 => ?_, fun n c q h1 h2 h3 => ?_, fun q hq => ?_, nd', s.sep⟩
  · by_cases hl : c.live = true
    · obtain ⟨n1, n2⟩ := k3 n c q h1 h2 hl
      exact (CellRep.sub (W := W) (W' := ⟨W.F, W.φ, (p, o') :: hs⟩) ⟨Same.refl _, [], by simp⟩ (s.cell n c q h1 h2)).heap (by rw [upd_ne n1]) (by rw [upd_ne n2])
    · cases c <;> first | trivial | exact absurd rfl hl
  · obtain ⟨o1, o2, o3, o4⟩ := s.own n c q h1 h2 h3
    obtain ⟨n1, n2⟩ := k3 n c q h1 h2 h3
    exact ⟨o1, o2, by rw [upd_ne n1]; exact o3, by rw [upd_ne n2]; exact o4⟩
  · rcases List.mem_cons.mp hq with rfl | hq
    · exact ⟨upd_same, k2, k3⟩
    · have hq' : q ∈ W.h := by rw [e]; exact List.mem_cons_of_mem _ hq
      exact ⟨by rw [upd_ne (hh q hq)]; exact (s.held q hq').1, (s.held q hq').2.1, (s.held q hq').2.2⟩
/-- a list that was held stays as it is, or is a cell -/
theorem Sim.settle {p : Addr} {xs : List V} {ds : List D} {hs : List (Addr × HO)} (s : Sim T W st H) (e : W.h = (p, .lst xs) :: hs) (r : RepA T W ds xs) :
    ∃ W', W.Sub W' ∧ W'.h = hs ∧ Sim T W' st H ∧ Rep T W' (.lst ds) (.ref p) := by
  have hm : (p, HO.lst xs) ∈ W.h := by rw [e]; exact List.mem_cons_self
  obtain ⟨k1, k2, k3⟩ := s.held _ hm
  have nd := s.hnd
  rw [e] at nd
  have nd' : (p :: hs.map (·.1)).Nodup := nd
  have hh : ∀ q ∈ hs, q.1 ≠ p := fun q hq z => (List.nodup_cons.mp nd').1 (List.mem_map.mpr ⟨q, hq, z⟩)
  have sub : W.Sub ⟨upd W.F p (.lst xs), W.φ, hs⟩ := ⟨fun b u e => by rw [show (Wd.mk (upd W.F p (.lst xs)) W.φ hs).F = upd W.F p (.lst xs) from rfl, upd_ne (ne_of_none e k2)]; exact e, [], by simp⟩
  refine ⟨_, sub, rfl, ⟨fun b u e => ?_, s.len, fun n c q h1 h2 => (s.cell n c q h1 h2).sub sub, fun n c q h1 h2 h3 => ?_, fun q hq => ?_, (List.nodup_cons.mp nd').2, s.sep⟩, .lst (SqL.of upd_same) (r.sub sub)⟩
  · have e' : upd W.F p (.lst xs) b = some u := e
    by_cases hb : b = p
    · rw [hb, upd_same] at e'; rw [hb, k1]; exact e'
    · rw [upd_ne hb] at e'; exact s.sub _ _ e'
  · obtain ⟨o1, o2, o3, o4⟩ := s.own n c q h1 h2 h3
    obtain ⟨n1, n2⟩ := k3 n c q h1 h2 h3
    refine ⟨?_, ?_, o3, o4⟩
    · show upd W.F p _ q.1 = none; rw [upd_ne n1]; exact o1
    · show upd W.F p _ q.2 = none; rw [upd_ne n2]; exact o2
  · have hq' : q ∈ W.h := by rw [e]; exact List.mem_cons_of_mem _ hq
    refine ⟨(s.held q hq').1, ?_, (s.held q hq').2.2⟩
    show upd W.F p _ q.1 = none; rw [upd_ne (hh q hq)]; exact (s.held q hq').2.1
theorem Sim.settleCell {p : Addr} {xs : List V} {ds : List D} {hs : List (Addr × HO)} (s : Sim T W st H) (e : W.h = (p, .lst xs) :: hs) (r : RepA T W ds xs) :
    ∃ W', W.Sub W' ∧ W'.h = hs ∧ Sim T W' (st ++ [.lst ds]) H ∧ Rep T W' (.ref st.length) (.ref p) := by
  have hm : (p, HO.lst xs) ∈ W.h := by rw [e]; exact List.mem_cons_self
  obtain ⟨k1, k2, k3⟩ := s.held _ hm
  have nd := s.hnd
  rw [e] at nd
  have nd' : (p :: hs.map (·.1)).Nodup := nd
  have hh : ∀ q ∈ hs, q.1 ≠ p := fun q hq z => (List.nodup_cons.mp nd').1 (List.mem_map.mpr ⟨q, hq, z⟩)
  have sub : W.Sub ⟨W.F, W.φ ++ [(p, p)], hs⟩ := ⟨Same.refl _, [(p, p)], rfl⟩
  have two : ∀ {n : Nat} {c : Cell} {q : Addr × Addr}, (st ++ [Cell.lst ds])[n]? = some c → (W.φ ++ [(p, p)])[n]? = some q → (st[n]? = some c ∧ W.φ[n]? = some q) ∨ (n = st.length ∧ c = .lst ds ∧ q = (p, p)) := fun {n c q} h1 h2 => by
    rcases get_snoc h1 with ⟨h1, k1⟩ | ⟨k1, h1⟩
    · rcases get_snoc h2 with ⟨h2, _⟩ | ⟨k2, _⟩
      · exact .inl ⟨h1, h2⟩
      · rw [s.len] at k2; omega
    · rcases get_snoc h2 with ⟨_, k2⟩ | ⟨_, h2⟩
      · rw [s.len] at k2; omega
      · exact .inr ⟨k1, h1, h2⟩
  refine ⟨_, sub, rfl, ⟨s.sub, ?_, fun n c q h1 h2 => ?_, fun n c q h1 h2 h3 => ?_, fun q hq => ?_, (List.nodup_cons.mp nd').2, fun n m c d q1 q2 hnm h1 h2 h3 h4 h5 h6 => ?_⟩, .ref (p := (p, p)) (by show (W.φ ++ [(p, p)])[st.length]? = _; rw [← s.len]; simp)⟩
  · show (W.φ ++ [(p, p)]).length = _; rw [List.length_append, List.length_append, s.len]; rfl
  · rcases two h1 h2 with ⟨h1, h2⟩ | ⟨_, rfl, rfl⟩
    · exact (s.cell n c q h1 h2).sub sub
    · exact ⟨xs, k1, r.sub sub, rfl⟩
  · rcases two h1 h2 with ⟨h1, h2⟩ | ⟨_, rfl, rfl⟩
    · exact s.own n c q h1 h2 h3
    · exact ⟨k2, k2, (by rw [k1]; exact fun z => nomatch z), (by rw [k1]; exact fun z => nomatch z)⟩
  · have hq' : q ∈ W.h := by rw [e]; exact List.mem_cons_of_mem _ hq
    refine ⟨(s.held q hq').1, (s.held q hq').2.1, fun n c r h1 h2 h3 => ?_⟩
    rcases two h1 h2 with ⟨h1, h2⟩ | ⟨_, rfl, rfl⟩
    · exact (s.held q hq').2.2 n c r h1 h2 h3
    · exact ⟨fun z => hh q hq z.symm, fun z => hh q hq z.symm⟩
  · rcases two h1 h5 with ⟨h1, h5⟩ | ⟨k1, rfl, rfl⟩
    · rcases two h2 h6 with ⟨h2, h6⟩ | ⟨k2, rfl, rfl⟩
      · exact s.sep n m c d q1 q2 hnm h1 h2 h3 h4 h5 h6
      · obtain ⟨n1, n2⟩ := k3 n c q1 h1 h5 h3
        exact ⟨n1, n1, n2, n2⟩
    · rcases two h2 h6 with ⟨h2, h6⟩ | ⟨k2, rfl, rfl⟩
      · obtain ⟨n1, n2⟩ := k3 m d q2 h2 h6 h4
        exact ⟨fun z => n1 z.symm, fun z => n2 z.symm, fun z => n1 z.symm, fun z => n2 z.symm⟩
      · omega
end

/-! ### environments -/
structure RepS (T : Tb) (W : Wd) (σ : L2.St) (σd : EnvD) : Prop where
  len : σd.length = σ.length
  get : ∀ (i : Nat) d, σd[i]? = some (some d) → ∃ v, σ[i]? = some (some v) ∧ Rep T W d v
theorem RepS.sub {T : Tb} {W W' : Wd} {σ : L2.St} {σd : EnvD} (le : W.Sub W') (r : RepS T W σ σd) : RepS T W' σ σd :=
  ⟨r.len, fun i d e => let ⟨v, h1, h2⟩ := r.get i d e; ⟨v, h1, h2.sub le⟩⟩
theorem RepS.mono {T : Tb} {W W' : Wd} {σ : L2.St} {σd : EnvD} (le : W.le W') (r : RepS T W σ σd) : RepS T W' σ σd := r.sub le.1
theorem RepS.set {T : Tb} {W : Wd} {σ : L2.St} {σd : EnvD} (r : RepS T W σ σd) (i : Nat) {d : D} {v : V} (h : Rep T W d v) : RepS T W (σ.set i (some v)) (σd.set i (some d)) := by
  refine ⟨by rw [List.length_set, List.length_set]; exact r.len, fun j e q => ?_⟩
  rcases set_get q with ⟨rfl, h2, hl⟩ | ⟨hm, q⟩
  · cases h2
    exact ⟨v, List.getElem?_set_self (by rw [← r.len]; exact hl), h⟩
  · obtain ⟨w, h1, h2⟩ := r.get j e q
    exact ⟨w, by rw [List.getElem?_set_ne (fun z => hm z.symm)]; exact h1, h2⟩
theorem RepS.setNone {T : Tb} {W : Wd} {σ : L2.St} {σd : EnvD} (r : RepS T W σ σd) (i : Nat) : RepS T W (σ.set i none) (σd.set i none) := by
  refine ⟨by rw [List.length_set, List.length_set]; exact r.len, fun j e q => ?_⟩
  rcases set_get q with ⟨rfl, h2, hl⟩ | ⟨hm, q⟩
  · cases h2
  · obtain ⟨w, h1, h2⟩ := r.get j e q
    exact ⟨w, by rw [List.getElem?_set_ne (fun z => hm z.symm)]; exact h1, h2⟩
theorem RepS.wipe {T : Tb} {W : Wd} {σ : L2.St} {σd : EnvD} (r : RepS T W σ σd) : ∀ vs : List Nat, RepS T W (L2.wipe σ vs) (wipeD σd vs)
  | [] => r
  | v :: vs => (r.wipe vs).setNone v

/-! ### what is wanted behind an outcome -/
/-- an exception by its class and dict -/
def RepX (T : Tb) (W : Wd) (x : Ex) (cls : Value) (dd : Option Addr) : Prop :=
  cls = T.xa x.c ∧ match x.vs with
    | [] => True
    | [d] => ∃ a v, dd = some a ∧ W.F a = some (.xd [(T.xf x.c, v)]) ∧ Rep T W d v
    | _ => False
theorem RepX.mono {T : Tb} {W W' : Wd} {x : Ex} {cls : Value} {dd : Option Addr} (le : W.le W') (h : RepX T W x cls dd) : RepX T W' x cls dd := by
  obtain ⟨h1, h2⟩ := h
  refine ⟨h1, ?_⟩
  split at h2
  · trivial
  · obtain ⟨a, v, e, f, r⟩ := h2
    exact ⟨a, v, e, le.1.1 _ _ f, r.mono le⟩
  · exact h2.elim
def Pst {α β : Type} (T : Tb) (XW : WX) (σ : L2.St) (W : Wd) (R : Wd → α → β → Prop) (o : Out α) (Q : β → Hp → Prop) : Prop := match o with
  | .ok a st => ∀ b W' H', W.le W' → Sim T W' st H' → R W' a b → Q b H'
  | .raise x st => ∀ cls dd W' H', W.le W' → Sim T W' st H' → RepX T W' x cls dd → XW cls dd σ H'
  | .stuck => False
section
variable {α β γ δ : Type} {T : Tb} {XW : WX} {σ : L2.St} {W W' : Wd} {R : Wd → α → β → Prop} {S : Wd → γ → δ → Prop}
theorem Pst.mono {o : Out α} {Q : β → Hp → Prop} (le : W.le W') (h : Pst T XW σ W R o Q) : Pst T XW σ W' R o Q := by
  cases o with
  | ok a st => exact fun b W'' H' l => h b W'' H' (le.trans l)
  | raise x st => exact fun cls dd W'' H' l => h cls dd W'' H' (le.trans l)
  | stuck => exact h
theorem Pst.imp {o : Out α} {Q Q' : β → Hp → Prop} (h : Pst T XW σ W R o Q) (k : ∀ b H, Q b H → Q' b H) : Pst T XW σ W R o Q' := by
  cases o with
  | ok a st => exact fun b W'' H' l s r => k _ _ (h b W'' H' l s r)
  | raise x st => exact h
  | stuck => exact h
theorem Pst.bind {o : Out α} {f : α → Store → Out γ} {Q : δ → Hp → Prop} (R : Wd → α → β → Prop) (h : Pst T XW σ W S (o.bind f) Q) :
    Pst T XW σ W R o (fun b H => ∃ W1 a st1, W.le W1 ∧ Sim T W1 st1 H ∧ R W1 a b ∧ Pst T XW σ W1 S (f a st1) Q) := by
  cases o with
  | ok a st => exact fun b W' H' le s r => ⟨W', a, st, le, s, r, Pst.mono le h⟩
  | raise x st => exact h
  | stuck => exact h
/-- an outcome that is there -/
theorem Pst.here {a : α} {b : β} {st : Store} {H : Hp} {Q : β → Hp → Prop} (h : Pst T XW σ W R (.ok a st) Q) (le : W.le W') (s : Sim T W' st H) (r : R W' a b) : Q b H := h b W' H le s r
end
/-- the reading of a term -/
def tI (T : Tb) (XW : WX) (e : IE) : TE := fun σ H Q => ∃ W st σd, Sim T W st H ∧ RepS T W σ σd ∧ Pst T XW σ W (Rep T) (ev e σd st) Q
def tIs (T : Tb) (XW : WX) (es : IEs) : TA := fun σ H Q => ∃ W st σd, Sim T W st H ∧ RepS T W σ σd ∧ Pst T XW σ W (RepA T) (evs es σd st) Q
def tIt (T : Tb) (XW : WX) (e : IE) : TT := fun σ H Q => ∃ W st σd, Sim T W st H ∧ RepS T W σ σd ∧ Pst T XW σ W (fun _ (a b : Bool) => a = b) (evt e σd st) Q
end Ip
set_option Elab.async false
set_option linter.all false
set_option maxRecDepth 100000
set_option maxHeartbeats 1000000
/-! Objects with slots: new, stored into, done. -/
namespace Ip
open PySem PySem.Spec PyProof.Rows L2 SlX
section
variable {T : Tb} {W : Wd} {st : Store} {H : Hp}
/-- the addresses of a live cell are none of another one, nor held -/
theorem Sim.newIns (s : Sim T W st H) {p d : Addr} {c n : Nat} (hc : c < T.nc) (hp : H p = none) (hd : H d = none) (hne : d ≠ p) :
    W.le ⟨W.F, W.φ ++ [(p, d)], W.h⟩ ∧ Sim T ⟨W.F, W.φ ++ [(p, d)], W.h⟩ (st ++ [.ins c (List.replicate n none)]) (upd (upd H d (.own p)) p (.ins (T.ca c) d [])) := by
  have hf : W.F p = none := s.sub.free hp
  have hfd : W.F d = none := s.sub.free hd
  have le : W.le ⟨W.F, W.φ ++ [(p, d)], W.h⟩ := ⟨⟨Same.refl _, [(p, d)], rfl⟩, rfl⟩
  have un : ∀ {a : Addr}, a ≠ p → a ≠ d → upd (upd H d (.own p)) p (.ins (T.ca c) d []) a = H a := fun h1 h2 => by rw [upd_ne h1, upd_ne h2]
  have hh : ∀ q ∈ W.h, q.1 ≠ p ∧ q.1 ≠ d := fun q hq => by
    have := (s.held q hq).1
    refine ⟨fun z => ?_, fun z => ?_⟩
    · rw [z, hp] at this; cases this
    · rw [z, hd] at this; cases this
  have old : ∀ {n : Nat} {c : Cell} {q : Addr × Addr}, st[n]? = some c → W.φ[n]? = some q → c.live = true → q.1 ≠ p ∧ q.2 ≠ p ∧ q.1 ≠ d ∧ q.2 ≠ d := fun h1 h2 h3 => by
    obtain ⟨_, _, o3, o4⟩ := s.own _ _ _ h1 h2 h3
    exact ⟨fun z => o3 (z ▸ hp), fun z => o4 (z ▸ hp), fun z => o3 (z ▸ hd), fun z => o4 (z ▸ hd)⟩
  have two : ∀ {m : Nat} {x : Cell} {q : Addr × Addr}, (st ++ [Cell.ins c (List.replicate n none)])[m]? = some x → (W.φ ++ [(p, d)])[m]? = some q → (st[m]? = some x ∧ W.φ[m]? = some q) ∨ (m = st.length ∧ x = .ins c (List.replicate n none) ∧ q = (p, d)) := fun {m x q} h1 h2 => by
    rcases get_snoc h1 with ⟨h1, k1⟩ | ⟨k1, h1⟩
    · rcases get_snoc h2 with ⟨h2, _⟩ | ⟨k2, _⟩
      · exact .inl ⟨h1, h2⟩
      · rw [s.len] at k2; omega
    · rcases get_snoc h2 with ⟨_, k2⟩ | ⟨_, h2⟩
      · rw [s.len] at k2; omega
      · exact .inr ⟨k1, h1, h2⟩
  refine ⟨le, ⟨fun b u e => ?_, ?_, fun m x q h1 h2 => ?_, fun m x q h1 h2 h3 => ?_, fun q hq => ⟨by rw [un (hh q hq).1 (hh q hq).2]; exact (s.held q hq).1, (s.held q hq).2.1, fun m x r h1 h2 h3 => ?_⟩, s.hnd, fun m k x y q1 q2 hnm h1 h2 h3 h4 h5 h6 => ?_⟩⟩
  · rw [un (ne_of_none e hf) (ne_of_none e hfd)]; exact s.sub _ _ e
  · show (W.φ ++ [(p, d)]).length = _; rw [List.length_append, List.length_append, s.len]; rfl
  · rcases two h1 h2 with ⟨h1, h2⟩ | ⟨_, rfl, rfl⟩
    · by_cases hl : x.live = true
      · obtain ⟨n1, n2, n3, n4⟩ := old h1 h2 hl
        exact ((s.cell m x q h1 h2).sub le.1).heap (un n1 n3) (un n2 n4)
      · cases x <;> first | trivial | exact absurd rfl hl
    · refine ⟨[], .inl ⟨upd_same, rfl⟩, hne, hc, fun i dd e => ?_⟩
      rw [List.getElem?_replicate] at e
      split at e <;> cases e
  · rcases two h1 h2 with ⟨h1, h2⟩ | ⟨_, rfl, rfl⟩
    · obtain ⟨o1, o2, o3, o4⟩ := s.own m x q h1 h2 h3
      obtain ⟨n1, n2, n3, n4⟩ := old h1 h2 h3
      exact ⟨o1, o2, by rw [un n1 n3]; exact o3, by rw [un n2 n4]; exact o4⟩
    · exact ⟨hf, hfd, (by rw [upd_same]; exact fun z => nomatch z), (by rw [upd_ne hne, upd_same]; exact fun z => nomatch z)⟩
  · rcases two h1 h2 with ⟨h1, h2⟩ | ⟨_, rfl, rfl⟩
    · exact (s.held q hq).2.2 m x r h1 h2 h3
    · exact ⟨fun z => (hh q hq).1 z.symm, fun z => (hh q hq).2 z.symm⟩
  · rcases two h1 h5 with ⟨h1, h5⟩ | ⟨k1, rfl, rfl⟩
    · rcases two h2 h6 with ⟨h2, h6⟩ | ⟨k2, rfl, rfl⟩
      · exact s.sep m k x y q1 q2 hnm h1 h2 h3 h4 h5 h6
      · obtain ⟨n1, n2, n3, n4⟩ := old h1 h5 h3
        exact ⟨n1, n3, n2, n4⟩
    · rcases two h2 h6 with ⟨h2, h6⟩ | ⟨k2, rfl, rfl⟩
      · obtain ⟨n1, n2, n3, n4⟩ := old h2 h6 h4
        exact ⟨fun z => n1 z.symm, fun z => n2 z.symm, fun z => n3 z.symm, fun z => n4 z.symm⟩
      · omega
/-- an object that is being made is stored into -/
theorem Sim.setIns (s : Sim T W st H) {n c i : Nat} {p : Addr × Addr} {fs : List (Option D)} {d : D} {v : V} (hn : st[n]? = some (.ins c fs)) (hp : W.φ[n]? = some p) (hi : i < fs.length) (r : Rep T W d v) :
    ∃ vs, Slt H p.1 (T.ca c) p.2 vs ∧ c < T.nc ∧ Sim T W (st.set n (.ins c (fs.set i (some d)))) (slH H p.1 (T.ca c) p.2 (putS i v vs)) := by
  obtain ⟨o1, o2, o3, o4⟩ := s.own n _ p hn hp rfl
  obtain ⟨vs, hs, hne, hc, hfs⟩ := s.cell n _ p hn hp
  have back : ∀ {j : Nat} {x : Cell}, (st.set n (.ins c (fs.set i (some d))))[j]? = some x → x.live = true → ∃ c', st[j]? = some c' ∧ c'.live = true := fun {j x} h hl => by
    rcases set_get h with ⟨rfl, rfl, _⟩ | ⟨hm, h⟩
    · exact ⟨_, hn, rfl⟩
    · exact ⟨x, h, hl⟩
  have hh : ∀ q ∈ W.h, q.1 ≠ p.1 ∧ q.1 ≠ p.2 := fun q hq => by
    obtain ⟨h1, h2⟩ := (s.held q hq).2.2 n _ p hn hp rfl
    exact ⟨fun z => h1 z.symm, fun z => h2 z.symm⟩
  refine ⟨vs, hs, hc, fun b u e => ?_, by rw [List.length_set]; exact s.len, fun m x q h1 h2 => ?_, fun m x q h1 h2 h3 => ?_, fun q hq => ⟨by rw [slH_ne (hh q hq).1 (hh q hq).2]; exact (s.held q hq).1, (s.held q hq).2.1, fun m x r h1 h2 h3 => ?_⟩, s.hnd, fun m k x y q1 q2 hmk h1 h2 h3 h4 h5 h6 => ?_⟩
  · rw [slH_ne (ne_of_none e o1) (ne_of_none e o2)]; exact s.sub _ _ e
  · rcases set_get h1 with ⟨rfl, rfl, _⟩ | ⟨hm, h1⟩
    · rw [hp] at h2; cases h2
      refine ⟨_, slH_slt hne, hne, hc, fun j e he => ?_⟩
      by_cases hj : j = i
      · subst hj
        rw [List.getElem?_set_self hi] at he
        cases he
        exact ⟨v, putS_get _ _ _, r⟩
      · rw [List.getElem?_set_ne (fun z => hj z.symm)] at he
        obtain ⟨w, h1, h2⟩ := hfs j e he
        exact ⟨w, (putS_ne hj).mpr h1, h2⟩
    · by_cases hl : x.live = true
      · obtain ⟨a1, a2, a3, a4⟩ := s.sep m n x _ q p hm h1 hn hl rfl h2 hp
        exact (s.cell m x q h1 h2).heap (slH_ne a1 a2) (slH_ne a3 a4)
      · cases x <;> first | trivial | exact absurd rfl hl
  · rcases set_get h1 with ⟨rfl, rfl, _⟩ | ⟨hm, h1⟩
    · rw [hp] at h2; cases h2
      refine ⟨o1, o2, ?_, ?_⟩
      · unfold slH; rw [upd_same]; exact fun z => nomatch z
      · unfold slH; rw [upd_ne hne, upd_same]; exact fun z => nomatch z
    · obtain ⟨b1, b2, b3, b4⟩ := s.own m x q h1 h2 h3
      obtain ⟨a1, a2, a3, a4⟩ := s.sep m n x _ q p hm h1 hn h3 rfl h2 hp
      exact ⟨b1, b2, by rw [slH_ne a1 a2]; exact b3, by rw [slH_ne a3 a4]; exact b4⟩
  · obtain ⟨c', g1, g2⟩ := back h1 h3
    exact (s.held q hq).2.2 m c' r g1 h2 g2
  · obtain ⟨c', g1, g2⟩ := back h1 h3
    obtain ⟨d', g3, g4⟩ := back h2 h4
    exact s.sep m k c' d' q1 q2 hmk g1 g3 g2 g4 h5 h6
/-- all slots are there -/
theorem allSome_rep : ∀ {fs : List (Option D)} {ds : List D} {vs : List (Option V)}, allSome fs = some ds → (∀ (i : Nat) d, fs[i]? = some (some d) → ∃ v, vs[i]? = some (some v) ∧ Rep T W d v) →
    ∃ xs, RepA T W ds xs ∧ ∀ (i : Nat) x, xs[i]? = some x → vs[i]? = some (some x)
  | [], ds, vs, h, _ => by
    cases h
    exact ⟨[], .nil, fun i x e => by simp at e⟩
  | none :: r, ds, vs, h, _ => by cases h
  | some d :: r, ds, vs, h, k => by
    obtain ⟨es, h1, rfl⟩ := Option.map_eq_some_iff.mp h
    obtain ⟨v, h2, h3⟩ := k 0 d rfl
    obtain ⟨xs, h4, h5⟩ := allSome_rep (vs := vs.drop 1) h1 (fun i e he => by
      obtain ⟨w, h6, h7⟩ := k (i + 1) e (by simpa using he)
      exact ⟨w, by rw [List.getElem?_drop, Nat.add_comm]; exact h6, h7⟩)
    refine ⟨v :: xs, .cons h3 h4, fun i x e => ?_⟩
    cases i with
    | zero => simp at e; subst e; exact h2
    | succ i =>
      have := h5 i x (by simpa using e)
      rw [List.getElem?_drop, Nat.add_comm] at this
      exact this
/-- an object is done: it stays as it is from now on -/
theorem Sim.done (s : Sim T W st H) {n c : Nat} {p : Addr × Addr} {fs : List (Option D)} {d : D} {ds : List D} (hn : st[n]? = some (.ins c fs)) (hp : W.φ[n]? = some p) (ha : allSome fs = some (d :: ds)) :
    ∃ W', W.le W' ∧ Sim T W' (st.set n .dead) H ∧ Rep T W' (.obj c (d :: ds)) (.ref p.1) := by
  obtain ⟨o1, o2, o3, o4⟩ := s.own n _ p hn hp rfl
  obtain ⟨vs, hs, hne, hc, hfs⟩ := s.cell n _ p hn hp
  obtain ⟨xs, hr, hx⟩ := allSome_rep ha hfs
  have h2 : H p.1 = some (SlO p.1 (T.ca c) p.2 vs) ∧ H p.2 = some (.xd []) := by
    rcases hs with ⟨_, h⟩ | h
    · cases hr with
      | cons _ _ =>
        have := hx 0 _ rfl
        rw [h] at this
        simp at this
    · exact h
  have gF : ∀ b, upd (upd W.F p.2 (.xd [])) p.1 (SlO p.1 (T.ca c) p.2 vs) b = if b = p.1 then some (SlO p.1 (T.ca c) p.2 vs) else if b = p.2 then some (.xd []) else W.F b := fun b => by
    by_cases h1 : b = p.1
    · rw [if_pos h1, h1, upd_same]
    · rw [if_neg h1, upd_ne h1]
      by_cases h3 : b = p.2
      · rw [if_pos h3, h3, upd_same]
      · rw [if_neg h3, upd_ne h3]
  have le : W.le ⟨upd (upd W.F p.2 (.xd [])) p.1 (SlO p.1 (T.ca c) p.2 vs), W.φ, W.h⟩ := ⟨⟨fun b u e => by
    show upd (upd W.F p.2 (.xd [])) p.1 _ b = some u
    rw [gF, if_neg (ne_of_none e o1), if_neg (ne_of_none e o2)]; exact e, [], by simp⟩, rfl⟩
  have back : ∀ {j : Nat} {c : Cell}, (st.set n .dead)[j]? = some c → c.live = true → st[j]? = some c := fun {j c} h hl => by
    rcases set_get h with ⟨rfl, rfl, _⟩ | ⟨hm, h⟩
    · cases hl
    · exact h
  have hh : ∀ q ∈ W.h, q.1 ≠ p.1 ∧ q.1 ≠ p.2 := fun q hq => by
    obtain ⟨h1, h2⟩ := (s.held q hq).2.2 n _ p hn hp rfl
    exact ⟨fun z => h1 z.symm, fun z => h2 z.symm⟩
  refine ⟨⟨upd (upd W.F p.2 (.xd [])) p.1 (SlO p.1 (T.ca c) p.2 vs), W.φ, W.h⟩, le, ⟨fun b u e => ?_, by rw [List.length_set]; exact s.len, fun m x q h1 h2 => ?_, fun m x q h1 h2 h3 => ?_, fun q hq => ⟨(s.held q hq).1, by show upd (upd W.F p.2 (.xd [])) p.1 _ q.1 = none; rw [gF, if_neg (hh q hq).1, if_neg (hh q hq).2]; exact (s.held q hq).2.1, fun m x r h1 h2 h3 => (s.held q hq).2.2 m x r (back h1 h3) h2 h3⟩, s.hnd, fun m k x y q1 q2 hmk h1 h2 h3 h4 h5 h6 => ?_⟩, .obj hc (by show upd (upd W.F p.2 (.xd [])) p.1 _ p.1 = _; rw [upd_same]) (by show upd (upd W.F p.2 (.xd [])) p.1 _ p.2 = _; rw [upd_ne hne, upd_same]) hx (hr.mono le)⟩
  · have e' : upd (upd W.F p.2 (.xd [])) p.1 (SlO p.1 (T.ca c) p.2 vs) b = some u := e
    rw [gF] at e'
    split at e'
    · rename_i hb; rw [hb, h2.1]; exact e'
    · split at e'
      · rename_i hb; rw [hb, h2.2]; exact e'
      · exact s.sub _ _ e'
  · rcases set_get h1 with ⟨rfl, rfl, _⟩ | ⟨hm, h1⟩
    · trivial
    · exact (s.cell m x q h1 h2).sub le.1
  · rcases set_get h1 with ⟨rfl, rfl, _⟩ | ⟨hm, h1⟩
    · cases h3
    · obtain ⟨b1, b2, b3, b4⟩ := s.own m x q h1 h2 h3
      obtain ⟨a1, a2, a3, a4⟩ := s.sep m n x _ q p hm h1 hn h3 rfl h2 hp
      refine ⟨?_, ?_, b3, b4⟩
      · show upd (upd W.F p.2 (.xd [])) p.1 _ q.1 = none; rw [gF, if_neg a1, if_neg a2]; exact b1
      · show upd (upd W.F p.2 (.xd [])) p.1 _ q.2 = none; rw [gF, if_neg a3, if_neg a4]; exact b2
  · exact s.sep m k x y q1 q2 hmk (back h1 h3) (back h2 h4) h3 h4 h5 h6
/-- an object's reading -/
theorem rep_obj {c : Nat} {fs : List D} {v : V} (r : Rep T W (.obj c fs) v) : ∃ a dx vs xs, v = .ref a ∧ c < T.nc ∧ W.F a = some (SlO a (T.ca c) dx vs) ∧ W.F dx = some (.xd []) ∧ (∀ (i : Nat) x, xs[i]? = some x → vs[i]? = some (some x)) ∧ RepA T W fs xs := by
  cases r with
  | obj h1 h2 h3 h4 r => exact ⟨_, _, _, _, rfl, h1, h2, h3, h4, r⟩
theorem obj_slt (s : Sim T W st H) {c : Nat} {a dx : Addr} {vs : List (Option V)} (h1 : W.F a = some (SlO a (T.ca c) dx vs)) (h2 : W.F dx = some (.xd [])) : Slt H a (T.ca c) dx vs := .inr ⟨s.sub _ _ h1, s.sub _ _ h2⟩
/-- an object, done or being made, and its class -/
theorem cls_slt (s : Sim T W st H) {d : D} {v : V} {c : Nat} (r : Rep T W d v) (h : clsD st d = some c) : c < T.nc ∧ ∃ a dx vs, v = .ref a ∧ Slt H a (T.ca c) dx vs := by
  unfold clsD at h
  split at h
  · cases h
    obtain ⟨a, dx, vs, xs, rfl, hc, h1, h2, _, _⟩ := rep_obj r
    exact ⟨hc, a, dx, vs, rfl, obj_slt s h1 h2⟩
  · split at h
    · cases h
      rename_i hn
      cases r with
      | ref hp =>
        obtain ⟨vs, hs, _, hc, _⟩ := s.cell _ _ _ hn hp
        exact ⟨hc, _, _, vs, rfl, hs⟩
    · cases h
  · cases h
end
end Ip
set_option Elab.async false
set_option linter.all false
set_option maxRecDepth 100000
set_option maxHeartbeats 1000000
/-! Texts of integers of up to 4300 digits: no limit stands in the way. -/
namespace Ip
open PySem PySem.Spec PyProof.Rows
open PySem.Builtin PySem.Builtin.Str PySem.Builtin.Int
section
variable {prog : Program} {w : World} {A : Around} {E : Value → Shared → Prop} {s : Shared} {a : Int} {t : Tok}
theorem big_code {R : Result → Shared → Prop} (hn : s.heap.NoDigits) (hl : a.natAbs < 10 ^ 4300) (h1 : R (.ok (.ret (.str (toString a) s.toks))) { s with toks := s.toks + 1 }) :
    codeAny (model prog w) A (.builtin "int.__repr__" ⟨[.int a t], []⟩) R s := by
  refine codeAny_builtin entry_int_repr ?_
  rw [Around.under_plainId plain_int_repr _]
  unfold Builtin.«int.__repr__»
  show wpAny _ _ (do let r ← Builtin.overDigitLimit? a; _) _ _ s
  refine wpAny_bind (overDigitLimit_any hn (fun hlt => ?_) (fun hge => absurd hl (Nat.not_lt.mpr hge)))
  exact wpAny_bind (wpAny_mkStr (wpAny_pure h1) (int_text_fits10 hl))
theorem big_call {Q : Value → Shared → Prop} (hn : s.heap.NoDigits) (hl : a.natAbs < 10 ^ 4300) (h1 : Q (.str (toString a) s.toks) { s with toks := s.toks + 1 }) :
    wpAny (model prog w) A (call (.builtin "int.__repr__") [.int a t]) Q E s := by
  refine wpAny_call_entry F.slot_int_repr (typeIs_int s a t) F.entry_int_repr ?_ (F.args_int_repr_1 _)
  unfold Builtin.«int.__repr__»
  show wpAny _ _ (do let r ← Builtin.overDigitLimit? a; _) _ _ s
  refine wpAny_bind (overDigitLimit_any hn (fun hlt => ?_) (fun hge => absurd hl (Nat.not_lt.mpr hge)))
  exact wpAny_bind (wpAny_mkStr (wpAny_pure ⟨_, rfl, h1⟩) (int_text_fits10 hl))
theorem big_strOf {Q : Value → Shared → Prop} (hn : s.heap.NoDigits) (hl : a.natAbs < 10 ^ 4300) (h1 : Q (.str (toString a) s.toks) { s with toks := s.toks + 1 }) :
    wpAny (model prog w) A (Str.strOf (.int a t)) Q E s := by
  unfold Str.strOf
  rw [show isExactStr (.int a t) = false from rfl]
  try (have hv : [Value.int a t].any Value.onHeap = false := rfl; simp only [cRoomFor, hv, Bool.false_eq_true, if_false, pure_bind])
  refine wpAny_bind (m := callSpecial? (.int a t) (Str.ofString "__str__")) (wpAny_callSpecial?_slot (name := Str.ofString "__str__") (typeIs_int s a t) F.slot_int_str ?_)
  refine wpAny_call_entry F.slot_int_str (typeIs_int s a t) entry_object_str ?_ (args_object_str _)
  unfold Builtin.«object.__str__»
  refine wpAny_bind (m := slotArgs "__str__" 0 _) (wpAny_pure ?_)
  try (have hv : [Value.int a t].any Value.onHeap = false := rfl; simp only [cRoomFor, hv, Bool.false_eq_true, if_false, pure_bind])
  refine wpAny_bind (m := callSpecialIfBound? (.int a t) (Str.ofString "__repr__")) (wpAny_callSpecialIfBound?_slot (name := Str.ofString "__repr__") (typeIs_int s a t) F.slot_int_repr
    (big_call hn hl ?_))
  exact wpAny_pure ⟨_, rfl, wpAny_pure h1⟩
theorem big_str {Q : Value → Shared → Prop} (hn : s.heap.NoDigits) (hl : a.natAbs < 10 ^ 4300) (h1 : Q (.str (toString a) s.toks) { s with toks := s.toks + 1 }) :
    wpAny (model prog w) A (call (.type "str") [.int a t]) Q E s :=
  callType_new F.called_str (by decide) (F.typeCall_str_1 _) (F.newCall_str_1 _) (fun obj => F.args_object_init_2 obj _) F.entry_str_new
    (meets_str_new (S := fun A R s => s.heap.NoDigits ∧ R (.ok (.ret (.str (toString a) s.toks))) { s with toks := s.toks + 1 }) fun _ _ _ _ _ hq => big_strOf hq.1 hl hq.2) ⟨hn, typeIs_str _ _ _, h1⟩
theorem big_format {Q : Value → Shared → Prop} (hn : s.heap.NoDigits) (hl : a.natAbs < 10 ^ 4300) (h1 : Q (.str (toString a) (s.toks + 1)) { s with toks := s.toks + 1 + 1 }) :
    wpAny (model prog w) A (formatField (.int a t) Str.empty) Q E s := by
  show wpAny _ _ (holding [.int a t] (pyFormat (.int a t) Str.empty)) Q E s
  refine wpAny_holding ?_
  unfold pyFormat
  refine wpAny_bind (wpAny_mkStr ?_ (by decide))
  refine wpAny_bind (m := callSpecial? (.int a t) (Str.ofString "__format__") [.str Str.empty s.toks]) (wpAny_callSpecial?_slot (name := Str.ofString "__format__") (typeIs_int _ a t) slot_int_format ?_)
  refine wpAny_call (codeAny_call_builtin slot_int_format.plain entry_int_format (slot_int_format.check _ _ _ _ _ _ _ _ (typeIs_int _ a t) (args_int_format _ _) ?_))
  show wpAny _ _ (do let _kind ← typeNameOf (.str Str.empty s.toks); (do rule "int.format.empty"; again (.builtin "int.__repr__" ⟨[.int a t], []⟩))) _ _ _
  refine wpAny_bind (wpAny_typeNameOf (T := "str") (typeIs_str _ _ _) (by decide) fun _ => wpAny_bind (wpAny_rule (wpAny_pure ⟨plainId_quiet plain_int_repr _, big_code hn hl ?_⟩)))
  show wpAny _ _ (do if ← isInstance (.str (toString a) (s.toks + 1)) (.type "str") then return (.str (toString a) (s.toks + 1)) else _) Q E _
  exact wpAny_bind (wpAny_isInstance (typeIs_str _ _ _) isSubtype_str_str (wpAny_pure h1))
theorem big_obj {Q : Value → Shared → Prop} (hn : s.heap.NoDigits) (hl : a.natAbs < 10 ^ 4300) (h1 : Q (.str (toString a) s.toks) { s with toks := s.toks + 1 }) :
    wpAny (model prog w) A (pyReprObj (.int a t)) Q E s := by
  have hv : [Value.int a t].any Value.onHeap = false := rfl
  unfold pyReprObj
  simp only [cRoomFor, hv, Bool.false_eq_true, if_false, pure_bind]
  refine wpAny_bind (wpAny_specialOf (name := Str.ofString "__repr__") (typeIs_int s a t) F.slot_int_repr.lookup ?_)
  refine wpAny_bind (m := callSpecialIfBound? (.int a t) (Str.ofString "__repr__")) (wpAny_callSpecialIfBound?_slot (name := Str.ofString "__repr__") (typeIs_int s a t) F.slot_int_repr (big_call hn hl ?_))
  exact wpAny_pure h1
theorem big_repr {Q : Value → Shared → Prop} (hn : s.heap.NoDigits) (hl : a.natAbs < 10 ^ 4300) (h1 : Q (.str (toString a) s.toks) { s with toks := s.toks + 1 }) :
    wpAny (model prog w) A (call (.builtin "repr") [.int a t]) Q E s := by
  have hv : [Value.int a t].any Value.onHeap = false := rfl
  refine Calls.call_function_entry F.kind_repr F.plain_repr F.entry_repr (F.args_repr1 _) ?_
  unfold Builtin.«repr»
  refine wpAny_bind (m := oneArg "repr" _) (wpAny_pure ?_)
  simp only [cRoomFor, hv, Bool.false_eq_true, if_false, pure_bind]
  refine wpAny_bind (wpAny_specialOf (name := Str.ofString "__repr__") (typeIs_int s a t) F.slot_int_repr.lookup ?_)
  refine wpAny_bind (m := callSpecialIfBound? (.int a t) (Str.ofString "__repr__")) (wpAny_callSpecialIfBound?_slot (name := Str.ofString "__repr__") (typeIs_int s a t) F.slot_int_repr (big_call hn hl ?_))
  exact wpAny_pure ⟨_, rfl, h1⟩
theorem big_nest {as : List Addr} {h₀ : Heap} {d : Nat} (hn : h₀.NoDigits) (hl : a.natAbs < 10 ^ 4300) : ReprK prog w as h₀ d (.int a t) (toString a) := by
  intro base hb A g E s Q hg hcl hu hk hq
  have hn' : base ≤ sizeLine := Nat.le_trans (Nat.le_add_right _ _) hb
  rw [pyReprUnder_leaf (v := .int a t) hn' (fun _ e => nomatch e)]
  unfold pyRepr
  exact wpAny_bind (big_obj (hn.keeps hk) hl (wpAny_pure (hq s.heap _ fun _ _ e => e)))
theorem big_of {i : Int} (h : bits i < 12900) : i.natAbs < 10 ^ 4300 := Nat.lt_of_lt_of_le (lt_of_log2 h) pow_lo
theorem digits_of {K : PySem.W.Frag} {h : Heap} (X : K.In h) (lim : h.NoLimit) (e : PySem.W.nsIn K cStatics "sys.int_max_str_digits" = some none) : h.NoDigits := by
  obtain ⟨mc, hns, _⟩ := lim
  refine ⟨mc, hns, ?_⟩
  obtain ⟨o, es, ep, ho, hd, _, hf⟩ := hns
  unfold PySem.W.nsIn at e
  split at e
  · rename_i c d es' n' sl q
    have := X _ _ q
    rw [ho] at this
    cases this
    cases hd
    split at e
    · cases e
    · rename_i he
      rw [← hf]
      unfold nsFind findBy
      rw [← Array.find?_toList, he]
      rfl
  · cases e
theorem inv_digits {T : Tb} {X : L2.Cx} {pins : List (Addr × Obj)} {σ : L2.St} {H : L2.Hp} {s : Shared} (hK : T.K = X.K) (I : L2.Inv X pins σ H s) : s.heap.NoDigits := digits_of I.kIn I.nolimit (hK ▸ T.dg)
end
end Ip
set_option Elab.async false
set_option linter.all false
set_option maxRecDepth 100000
set_option maxHeartbeats 4000000
/-! Operations by values: what the machine gives where the interpreter's functions give something. -/
namespace Ip
open PySem PySem.Spec PyProof.Rows L2

theorem szOk.le {n : Nat} (h : szOk n = true) : n ≤ sizeLine := Nat.le_trans (of_decide_eq_true h) (by decide)

section
variable {X : Cx}
/-- list + list, also lists that are only read -/
def rCatL (K : PySem.W.Frag) : R2 := fun x y H Q => ∃ l b xs zs, x = .ref l ∧ y = .ref b ∧ SqL K H l xs ∧ SqL K H b zs ∧ xs.length + zs.length ≤ sizeLine ∧ ∀ p, H p = none → Q (.ref p) (upd H p (.lst (xs ++ zs)))
theorem op_catL : OpR X (binaryOp .Add) (rCatL X.K) := by
  intro pins s σ H x y v u Q I rx ry h
  obtain ⟨l, b, xs, zs, rfl, rfl, hH, hB, hz, q⟩ := h
  cases rx
  cases ry
  obtain ⟨its, r, ⟨⟨cls, dd, data, sl⟩, n, ho, hc, hdd, hd⟩, z⟩ := I.list hH
  obtain ⟨its2, r2, ⟨⟨cls2, dd2, data2, sl2⟩, n2, ho2, hc2, hdd2, hd2⟩, z2⟩ := I.list hB
  simp only at hc hd hc2 hd2
  subst hc hd hc2 hd2
  have e : its.toArray ++ its2.toArray = (its ++ its2).toArray := by simp
  have l1 := r.length
  have l2 := r2.length
  refine concat_meets ⟨_, ho, rfl⟩ ⟨_, ho2, rfl⟩ noFill_list_add seq_list_add PySem.F.slot_list_add PySem.F.entry_list_add (PySem.F.args_list_add_2 _ _) (list_addW l b its.toArray its2.toArray n n2 dd dd2 sl sl2 (by rw [List.size_toArray, List.size_toArray]; omega)) ⟨ho, ho2, ?_⟩
  rw [e]
  exact ⟨.ref _, _, I.lnew (t' := s.toks) (r.append r2) (by rw [List.length_append]; omega), rfl, q _ I.fresh⟩
/-- // by any divisor that is not too long -/
theorem op_fdivA : OpR X (binaryOp .FloorDiv) (rI (fun _ j => j ≠ 0 ∧ j.natAbs.log2 < 9000) fun i j => .int (i.fdiv j)) := opI fun i j _ _ _ _ _ hc q =>
  floordiv_int hc.1 q (.inl (PyProof.noPylong_of_log2 hc.2))
theorem op_powA : OpR X (binaryOp .Pow) (rI (fun i j => 0 ≤ j ∧ (Builtin.Int.intBits i : Int) * j ≤ 2 ^ 27) fun i j => .int (i ^ j.toNat)) := opI fun i j _ _ _ _ _ hc q =>
  pow_int hc.1 hc.2 q
end

/-- a two-place operation that only makes objects -/
def rV2 (T : Tb) (g : Store → D → D → Option D) : R2 := fun x y H Q => ∃ W st a b, Sim T W st H ∧ Rep T W a x ∧ Rep T W b y ∧ ∃ d, g st a b = some d ∧ ∀ v W' H', W.le W' → Sim T W' st H' → Rep T W' d v → Q v H'
section
variable {X : Cx} {T : Tb}
theorem rep_bl {W : Wd} {x : V} {b : Bool} (h : Rep T W (.bl b) x) : x = .bl b := by cases h; rfl
theorem rep_int {W : Wd} {x : V} {b : Int} (h : Rep T W (.int b) x) : x = .int b := by cases h; rfl
theorem rep_str {W : Wd} {x : V} {b : Str} (h : Rep T W (.str b) x) : x = .str b := by cases h; rfl
theorem rep_non {W : Wd} {x : V} (h : Rep T W .non x) : x = .non := by cases h; rfl
theorem rep_lst {W : Wd} {x : V} {ds : List D} (h : Rep T W (.lst ds) x) : ∃ a xs, x = .ref a ∧ SqL T.K W.F a xs ∧ RepA T W ds xs := by cases h with | lst h r => exact ⟨_, _, rfl, h, r⟩
theorem rep_tup {W : Wd} {x : V} {ds : List D} (h : Rep T W (.tup ds) x) : ∃ a xs, x = .ref a ∧ SqT T.K W.F a xs ∧ RepA T W ds xs := by cases h with | tup h r => exact ⟨_, _, rfl, h, r⟩
theorem rep_ref {W : Wd} {x : V} {n : Nat} (h : Rep T W (.ref n) x) : ∃ p, x = .ref p.1 ∧ W.φ[n]? = some p := by cases h with | ref h => exact ⟨_, rfl, h⟩
/-- a new list that stays -/
theorem Sim.newL {W : Wd} {st : Store} {H : Hp} {p : Addr} {xs : List V} {ds : List D} (s : Sim T W st H) (hp : H p = none) (r : RepA T W ds xs) :
    ∃ W', W.le W' ∧ Sim T W' st (upd H p (.lst xs)) ∧ Rep T W' (.lst ds) (.ref p) := by
  obtain ⟨le, s'⟩ := s.new (o := .lst xs) hp
  exact ⟨_, le, s', .lst (SqL.of upd_same) (r.mono le)⟩
theorem Sim.newT {W : Wd} {st : Store} {H : Hp} {p : Addr} {xs : List V} {ds : List D} (s : Sim T W st H) (hp : H p = none) (r : RepA T W ds xs) :
    ∃ W', W.le W' ∧ Sim T W' st (upd H p (.tup xs)) ∧ Rep T W' (.tup ds) (.ref p) := by
  obtain ⟨le, s'⟩ := s.new (o := .tup xs) hp
  exact ⟨_, le, s', .tup (SqT.of upd_same) (r.mono le)⟩
/-- a list or tuple of the store, or that stays -/
theorem seqOf_rep {W : Wd} {st : Store} {H : Hp} {d : D} {x : V} {ds : List D} (s : Sim T W st H) (h : Rep T W d x) (e : seqOf st d = some ds) : ∃ a xs, x = .ref a ∧ (SqL T.K H a xs ∨ SqT T.K H a xs) ∧ RepA T W ds xs := by
  unfold seqOf at e
  split at e
  · cases e
    obtain ⟨a, xs, rfl, h, r⟩ := rep_lst h
    exact ⟨a, xs, rfl, .inl (s.sub.seq h), r⟩
  · cases e
    obtain ⟨a, xs, rfl, h, r⟩ := rep_tup h
    exact ⟨a, xs, rfl, .inr (Same.tup s.sub h), r⟩
  · split at e
    · cases e
      obtain ⟨p, rfl, hp⟩ := rep_ref h
      rename_i hn
      obtain ⟨xs, hx, r, _⟩ := s.cell _ _ p hn hp
      exact ⟨p.1, xs, rfl, .inl (SqL.of hx), r⟩
    · cases e
  · cases e
def BO.op : BO → Operator
  | .add => .Add | .sub => .Sub | .mul => .Mult | .fdiv => .FloorDiv | .mod => .Mod | .pow => .Pow
theorem RepA.nil_iff {W : Wd} {ds : List D} {xs : List V} (r : RepA T W ds xs) : ds = [] ↔ xs = [] := by cases r <;> simp
theorem op_bin (hK : T.K = X.K) (o : BO) : OpR X (binaryOp o.op) (rV2 T (binD o)) := by
  intro pins s σ H x y v u Q I rx ry h
  obtain ⟨W, st, a, b, sim, ra, rb, d, e, q⟩ := h
  have fin : ∀ {d' : D} {v' : V}, d = d' → Rep T W d' v' → Q v' H := fun e1 r => by subst e1; exact q _ W H (.refl _) sim r
  unfold binD at e
  split at e
  all_goals try (cases e; done)
  · cases rep_int ra; cases rep_int rb
    exact op_add pins s σ H _ _ v u Q I rx ry ⟨_, _, rfl, rfl, fin (Option.some.inj e).symm (.int _)⟩
  · cases rep_int ra; cases rep_int rb
    exact op_sub pins s σ H _ _ v u Q I rx ry ⟨_, _, rfl, rfl, fin (Option.some.inj e).symm (.int _)⟩
  · cases rep_int ra; cases rep_int rb
    split at e
    · rename_i hm
      exact op_mulW pins s σ H _ _ v u Q I rx ry ⟨_, _, rfl, rfl, (of_decide_eq_true hm : _ < 1000000), fin (Option.some.inj e).symm (.int _)⟩
    · cases e
  · cases rep_int ra; cases rep_int rb
    split at e
    · rename_i hm
      exact op_fdivA pins s σ H _ _ v u Q I rx ry ⟨_, _, rfl, rfl, of_decide_eq_true hm, fin (Option.some.inj e).symm (.int _)⟩
    · cases e
  · cases rep_int ra; cases rep_int rb
    split at e
    · rename_i hm
      exact op_modN pins s σ H _ _ v u Q I rx ry ⟨_, _, rfl, rfl, hm, fin (Option.some.inj e).symm (.int _)⟩
    · cases e
  · cases rep_int ra; cases rep_int rb
    split at e
    · rename_i hm
      exact op_powA pins s σ H _ _ v u Q I rx ry ⟨_, _, rfl, rfl, of_decide_eq_true hm, fin (Option.some.inj e).symm (.int _)⟩
    · cases e
  · cases rep_str ra; cases rep_str rb
    split at e
    · rename_i hm
      exact op_add_str pins s σ H _ _ v u Q I rx ry ⟨_, _, rfl, rfl, szOk.le hm, fin (Option.some.inj e).symm (.str _)⟩
    · cases e
  · obtain ⟨l, xs, rfl, hx, r1⟩ := rep_lst ra
    obtain ⟨b, zs, rfl, hz, r2⟩ := rep_lst rb
    split at e
    · rename_i hm
      refine op_catL pins s σ H _ _ v u Q I rx ry ⟨_, _, xs, zs, rfl, rfl, hK ▸ sim.sub.seq hx, hK ▸ sim.sub.seq hz, (by rw [← r1.length, ← r2.length]; exact szOk.le hm), fun p hp => ?_⟩
      obtain ⟨W', le, s', r'⟩ := sim.newL hp (r1.append r2)
      exact q _ W' _ le s' (Option.some.inj e ▸ r')
    · cases e
  · obtain ⟨l, xs, rfl, hx, r1⟩ := rep_tup ra
    obtain ⟨b, zs, rfl, hz, r2⟩ := rep_tup rb
    split at e
    · rename_i hm
      refine op_catA pins s σ H _ _ v u Q I rx ry ⟨_, _, xs, zs, rfl, rfl, hK ▸ Same.tup sim.sub hx, hK ▸ Same.tup sim.sub hz, (by rw [← r1.length, ← r2.length]; exact szOk.le hm), fun z => ?_, fun _ z => ?_, fun _ _ p hp => ?_⟩
      · have z1 := r1.nil_iff.mpr z
        subst z1
        exact fin (Option.some.inj e).symm rb
      · have z1 := r2.nil_iff.mpr z
        subst z1
        exact fin (Option.some.inj e).symm (by rw [List.append_nil]; exact ra)
      · obtain ⟨W', le, s', r'⟩ := sim.newT hp (r1.append r2)
        exact q _ W' _ le s' (Option.some.inj e ▸ r')
    · cases e

/-! ### comparisons -/
mutual
def toPy : D → PyData
  | .non => .none
  | .bl b => .bool b
  | .int i => .int i
  | .str x => .str x
  | .lst xs => .list (toPys xs)
  | .tup xs => .tuple (toPys xs)
  | _ => .none
def toPys : List D → List PyData
  | [] => []
  | x :: xs => toPy x :: toPys xs
end
mutual
theorem pure_py : ∀ (n : Nat) (d : D), pureD n d = true → (toPy d).canLay0 = true ∧ (toPy d).depth ≤ n
  | n, .non, _ => by simp [toPy, PyData.canLay0, PyData.depth]
  | n, .bl _, _ => by simp [toPy, PyData.canLay0, PyData.depth]
  | n, .int _, _ => by simp [toPy, PyData.canLay0, PyData.depth]
  | n, .str x, h => by simp [toPy, PyData.canLay0, PyData.depth]; simpa [pureD] using h
  | n + 1, .lst xs, h => by
    obtain ⟨h1, h2⟩ := pures_py n xs (by simpa [pureD] using h)
    simp only [toPy, PyData.canLay0, PyData.depth]
    exact ⟨h1, by omega⟩
  | n + 1, .tup xs, h => by
    obtain ⟨h1, h2⟩ := pures_py n xs (by simpa [pureD] using h)
    simp only [toPy, PyData.canLay0, PyData.depth]
    exact ⟨h1, by omega⟩
  | 0, .lst _, h => by simp [pureD] at h
  | 0, .tup _, h => by simp [pureD] at h
  | 0, .dct _ _, h => by simp [pureD] at h
  | _ + 1, .dct _ _, h => by simp [pureD] at h
  | 0, .obj _ _, h => by simp [pureD] at h
  | _ + 1, .obj _ _, h => by simp [pureD] at h
  | 0, .cls _, h => by simp [pureD] at h
  | _ + 1, .cls _, h => by simp [pureD] at h
  | 0, .ref _, h => by simp [pureD] at h
  | _ + 1, .ref _, h => by simp [pureD] at h
theorem pures_py : ∀ (n : Nat) (ds : List D), pureDs n ds = true → PyData.canLayAll0 (toPys ds) = true ∧ PyData.depthAll (toPys ds) ≤ n
  | n, [], _ => by simp [toPys, PyData.canLayAll0, PyData.depthAll]
  | n, x :: xs, h => by
    have h' : pureD n x = true ∧ pureDs n xs = true := by simpa [pureDs] using h
    obtain ⟨a1, a2⟩ := pure_py n x h'.1
    obtain ⟨b1, b2⟩ := pures_py n xs h'.2
    simp only [toPys, PyData.canLayAll0, PyData.depthAll, a1, b1]
    exact ⟨rfl, Nat.max_le.mpr ⟨a2, b2⟩⟩
end
theorem pure_shaped {n : Nat} (hn : n ≤ 64) {d : D} (h : pureD n d = true) : SeqAt.shaped (toPy d) = true := by
  obtain ⟨h1, h2⟩ := pure_py n d h
  unfold SeqAt.shaped
  rw [h1, Bool.true_and]
  exact decide_eq_true (by omega)
mutual
theorem eqv_eqD : ∀ (m n : Nat) (a b : D), pureD m a = true → pureD n b = true → PyData.eqv (toPy a) (toPy b) = eqD a b := by
  intro m n a b ha hb
  cases a with
  | lst xs => cases b with
    | lst ys =>
      cases m with
      | zero => simp [pureD] at ha
      | succ m =>
      cases n with
      | zero => simp [pureD] at hb
      | succ n =>
        have := eqvs_eqDs m n xs ys (by simpa [pureD] using ha) (by simpa [pureD] using hb)
        simpa [toPy, PyData.eqv, eqD] using this
    | dct _ _ => cases n <;> simp [pureD] at hb
    | obj _ _ => cases n <;> simp [pureD] at hb
    | cls _ => cases n <;> simp [pureD] at hb
    | ref _ => cases n <;> simp [pureD] at hb
    | _ => simp [toPy, PyData.eqv, eqD]
  | tup xs => cases b with
    | tup ys =>
      cases m with
      | zero => simp [pureD] at ha
      | succ m =>
      cases n with
      | zero => simp [pureD] at hb
      | succ n =>
        have := eqvs_eqDs m n xs ys (by simpa [pureD] using ha) (by simpa [pureD] using hb)
        simpa [toPy, PyData.eqv, eqD] using this
    | dct _ _ => cases n <;> simp [pureD] at hb
    | obj _ _ => cases n <;> simp [pureD] at hb
    | cls _ => cases n <;> simp [pureD] at hb
    | ref _ => cases n <;> simp [pureD] at hb
    | _ => simp [toPy, PyData.eqv, eqD]
  | dct _ _ => cases m <;> simp [pureD] at ha
  | obj _ _ => cases m <;> simp [pureD] at ha
  | cls _ => cases m <;> simp [pureD] at ha
  | ref _ => cases m <;> simp [pureD] at ha
  | _ => cases b with
    | dct _ _ => cases n <;> simp [pureD] at hb
    | obj _ _ => cases n <;> simp [pureD] at hb
    | cls _ => cases n <;> simp [pureD] at hb
    | ref _ => cases n <;> simp [pureD] at hb
    | _ => simp [toPy, PyData.eqv, eqD]
theorem eqvs_eqDs : ∀ (m n : Nat) (a b : List D), pureDs m a = true → pureDs n b = true → PyData.eqvAll (toPys a) (toPys b) = eqDs a b
  | m, n, [], [], _, _ => by simp [toPys, PyData.eqvAll, eqDs]
  | m, n, [], _ :: _, _, _ => by simp [toPys, PyData.eqvAll, eqDs]
  | m, n, _ :: _, [], _, _ => by simp [toPys, PyData.eqvAll, eqDs]
  | m, n, x :: xs, y :: ys, ha, hb => by
    have ha' : pureD m x = true ∧ pureDs m xs = true := by simpa [pureDs] using ha
    have hb' : pureD n y = true ∧ pureDs n ys = true := by simpa [pureDs] using hb
    have e1 := eqv_eqD m n x y ha'.1 hb'.1
    have e2 := eqvs_eqDs m n xs ys ha'.2 hb'.2
    simp only [toPys, PyData.eqvAll, eqDs, e1, e2]
end
mutual
theorem rep_dp {W : Wd} {H : Hp} (sub : Same W.F H) : ∀ (n : Nat) (d : D) (x : V), pureD n d = true → Rep T W d x → Dp T.K H x (toPy d)
  | _, .non, _, _, r => by cases r; exact .non
  | _, .bl _, _, _, r => by cases r; exact .bl _
  | _, .int _, _, _, r => by cases r; exact .int _
  | _, .str _, _, _, r => by cases r; exact .str _
  | n + 1, .lst ds, _, h, r => by
    obtain ⟨a, xs, rfl, hx, r⟩ := rep_lst r
    rw [toPy]
    exact .lst (sub.seq hx) (rep_dps sub n ds xs (by simpa [pureD] using h) r)
  | n + 1, .tup ds, _, h, r => by
    obtain ⟨a, xs, rfl, hx, r⟩ := rep_tup r
    rw [toPy]
    exact .tup (Same.tup sub hx) (rep_dps sub n ds xs (by simpa [pureD] using h) r)
  | 0, .lst _, _, h, _ => by simp [pureD] at h
  | 0, .tup _, _, h, _ => by simp [pureD] at h
  | 0, .dct _ _, _, h, _ => by simp [pureD] at h
  | _ + 1, .dct _ _, _, h, _ => by simp [pureD] at h
  | 0, .obj _ _, _, h, _ => by simp [pureD] at h
  | _ + 1, .obj _ _, _, h, _ => by simp [pureD] at h
  | 0, .cls _, _, h, _ => by simp [pureD] at h
  | _ + 1, .cls _, _, h, _ => by simp [pureD] at h
  | 0, .ref _, _, h, _ => by simp [pureD] at h
  | _ + 1, .ref _, _, h, _ => by simp [pureD] at h
theorem rep_dps {W : Wd} {H : Hp} (sub : Same W.F H) : ∀ (n : Nat) (ds : List D) (xs : List V), pureDs n ds = true → RepA T W ds xs → DpAll T.K H xs (toPys ds)
  | _, [], _, _, r => by cases r; exact .nil
  | n, d :: ds, _, h, r => by
    cases r with
    | cons r1 r2 =>
      have h' : pureD n d = true ∧ pureDs n ds = true := by simpa [pureDs] using h
      exact .cons (rep_dp sub n d _ h'.1 r1) (rep_dps sub n ds _ h'.2 r2)
end
def CO.op : CO → CmpOp
  | .lt => .Lt | .le => .LtE | .gt => .Gt | .ge => .GtE | .eq => .Eq | .ne => .NotEq | .is => .Is | .isnot => .IsNot | .isin => .In | .notin => .NotIn
theorem Rep.non_iff {W : Wd} {d : D} {x : V} (r : Rep T W d x) : decide (x = .non) = isNonD d := by
  cases r <;> simp [isNonD]
theorem op_cmp (hK : T.K = X.K) (hu : X.A.units + 64 < cLine) (o : CO) : OpR X (compareOp o.op) (rV2 T (fun st a b => (cmpD o st a b).map .bl)) := by
  intro pins s σ H x y v u Q I rx ry h
  obtain ⟨W, st, a, b, sim, ra, rb, d, e, q⟩ := h
  obtain ⟨k, e1, e2⟩ := Option.map_eq_some_iff.mp e
  subst e2
  have fin : ∀ {k' : Bool}, k = k' → Q (.bl k') H := fun e1 => by subst e1; exact q _ W H (.refl _) sim (.bl _)
  unfold cmpD at e1
  split at e1
  all_goals try (cases e1; done)
  · cases rep_int ra; cases rep_int rb
    exact op_lt pins s σ H _ _ v u Q I rx ry ⟨_, _, rfl, rfl, fin (Option.some.inj e1).symm⟩
  · cases rep_int ra; cases rep_int rb
    exact op_le pins s σ H _ _ v u Q I rx ry ⟨_, _, rfl, rfl, fin (Option.some.inj e1).symm⟩
  · cases rep_int ra; cases rep_int rb
    exact op_gt pins s σ H _ _ v u Q I rx ry ⟨_, _, rfl, rfl, fin (Option.some.inj e1).symm⟩
  · cases rep_int ra; cases rep_int rb
    exact op_ge pins s σ H _ _ v u Q I rx ry ⟨_, _, rfl, rfl, fin (Option.some.inj e1).symm⟩
  · cases rep_str ra; cases rep_str rb
    refine op_eq pins s σ H _ _ v u Q I rx ry ⟨rfl, fin ?_⟩
    rw [dec_str]
    exact (Option.some.inj e1).symm
  · cases rep_str ra; cases rep_str rb
    refine op_ne pins s σ H _ _ v u Q I rx ry ⟨rfl, fin ?_⟩
    rw [dec_str]
    exact (Option.some.inj e1).symm
  · split at e1
    · rename_i hp
      obtain ⟨p1, p2⟩ := Bool.and_eq_true_iff.mp hp
      refine op_eqD hu pins s σ H _ _ v u Q I rx ry ⟨toPy a, toPy b, hK ▸ rep_dp sim.sub 60 a x p1 ra, hK ▸ rep_dp sim.sub 60 b y p2 rb, pure_shaped (by decide) p1, pure_shaped (by decide) p2, fin ?_⟩
      rw [eqv_eqD 60 60 a b p1 p2]
      exact (Option.some.inj e1).symm
    · cases e1
  · split at e1
    · rename_i hp
      obtain ⟨p1, p2⟩ := Bool.and_eq_true_iff.mp hp
      refine op_neD hu pins s σ H _ _ v u Q I rx ry ⟨toPy a, toPy b, hK ▸ rep_dp sim.sub 60 a x p1 ra, hK ▸ rep_dp sim.sub 60 b y p2 rb, pure_shaped (by decide) p1, pure_shaped (by decide) p2, fin ?_⟩
      rw [eqv_eqD 60 60 a b p1 p2]
      exact (Option.some.inj e1).symm
    · cases e1
  · cases rep_non rb
    refine op_isN pins s σ H _ _ v u Q I rx ry ⟨rfl, fin ?_⟩
    rw [ra.non_iff]
    exact (Option.some.inj e1).symm
  · cases rep_non rb
    refine op_notN pins s σ H _ _ v u Q I rx ry ⟨rfl, fin ?_⟩
    rw [ra.non_iff]
    exact (Option.some.inj e1).symm
  · cases rep_bl ra; cases rep_bl rb
    refine op_is_bl pins s σ H _ _ v u Q I rx ry ⟨_, _, rfl, rfl, fin (Option.some.inj e1).symm⟩
  · cases rep_bl ra; cases rep_bl rb
    refine op_isnot_bl pins s σ H _ _ v u Q I rx ry ⟨_, _, rfl, rfl, fin (Option.some.inj e1).symm⟩
  · cases rep_str ra; cases rep_str rb
    exact op_in_str pins s σ H _ _ v u Q I rx ry ⟨_, _, rfl, rfl, fin (Option.some.inj e1).symm⟩
  · cases rep_str ra; cases rep_str rb
    exact op_notIn_str pins s σ H _ _ v u Q I rx ry ⟨_, _, rfl, rfl, fin (Option.some.inj e1).symm⟩
end
end Ip
set_option Elab.async false
set_option linter.all false
set_option maxRecDepth 100000
set_option maxHeartbeats 4000000
/-! repr and str of plain values. -/
namespace Ip
open PySem PySem.Spec PyProof.Rows L2

section
variable {X : Cx} {T : Tb} {W : Wd} {pins : List (Addr × Obj)} {σ : L2.St} {H : Hp} {s : Shared}
theorem reprDs_some {x : D} {xs : List D} {ts : List Str} (h : reprDs (x :: xs) = some ts) : ∃ t r, reprD x = some t ∧ reprDs xs = some r ∧ ts = t :: r := by
  rw [reprDs] at h
  split at h
  · rename_i t r e1 e2
    exact ⟨t, r, e1, e2, (Option.some.inj h).symm⟩
  · cases h
theorem reprD_lst {xs : List D} {t : Str} (h : reprD (.lst xs) = some t) : ∃ ts, reprDs xs = some ts ∧ (listText ts).length ≤ sizeLine ∧ t = listText ts := by
  rw [reprD] at h
  split at h
  · rename_i ts e
    split at h
    · rename_i hz
      exact ⟨ts, e, szOk.le hz, (Option.some.inj h).symm⟩
    · cases h
  · cases h
theorem reprD_tup {xs : List D} {t : Str} (h : reprD (.tup xs) = some t) : ∃ ts, reprDs xs = some ts ∧ (tupleText ts).length ≤ sizeLine ∧ t = tupleText ts := by
  rw [reprD] at h
  split at h
  · rename_i ts e
    split at h
    · rename_i hz
      exact ⟨ts, e, szOk.le hz, (Option.some.inj h).symm⟩
    · cases h
  · cases h
/-- an empty dict in the heap -/
theorem dct0_at (I : Inv X pins σ H s) {a : Addr} (h : H a = some (.dK [])) : ∃ o n, s.heap.get? a = some o ∧ o.cls = .type "dict" ∧ o.data = .dict #[] n ∧ (a == sysModules) = false := by
  obtain ⟨_, h2, vs, kv, o, es, ep, h3, h4, h5, h6, h7⟩ := dk_of I.hok h
  cases kv
  have he : es = #[] := by
    have z := h7.1.length
    simpa using z
  subst he
  exact ⟨o, ep, h3, h4.1, h5, h2⟩
mutual
/-- a value's data is known by it -/
theorem rep_inj (hK : T.K = X.K) (I : Inv X pins σ H s) (sub : Same W.F H) : ∀ (d d' : D) (x : V), reprD d ≠ none → reprD d' ≠ none → Rep T W d x → Rep T W d' x → d = d' := by
  intro d d' x h h' r r'
  cases r with
  | non => cases r'; rfl
  | bl _ => cases r'; rfl
  | int _ => cases r'; rfl
  | str _ => cases r'; rfl
  | ref _ => exact absurd (by simp [reprD]) h
  | cls _ => exact absurd (by simp [reprD]) h
  | obj _ _ _ _ _ => exact absurd (by simp [reprD]) h
  | lst hx rx => cases r' with
    | lst hy ry =>
      rename_i ds a xs es ys
      obtain ⟨t, e⟩ := Option.ne_none_iff_exists'.mp h
      obtain ⟨t', e'⟩ := Option.ne_none_iff_exists'.mp h'
      obtain ⟨ts, e1, _⟩ := reprD_lst e
      obtain ⟨ts', e1', _⟩ := reprD_lst e'
      have := I.list_inj (hK ▸ sub.seq hx) (hK ▸ sub.seq hy)
      subst this
      rw [reps_inj hK I sub ds es xs (by rw [e1]; exact fun z => nomatch z) (by rw [e1']; exact fun z => nomatch z) rx ry]
    | tup hy ry =>
      obtain ⟨_, _, ⟨o, _, g1, g2, _⟩, _⟩ := I.list (hK ▸ sub.seq hx)
      obtain ⟨_, _, ⟨o2, g3, g4, _⟩, _⟩ := I.tuple (hK ▸ Same.tup sub hy)
      rw [g1] at g3; cases g3
      rw [g2] at g4; simp at g4
    | ref _ => exact absurd (by simp [reprD]) h'
    | cls _ => exact absurd (by simp [reprD]) h'
    | obj _ _ _ _ _ => exact absurd (by simp [reprD]) h'
    | dct0 hy =>
      obtain ⟨_, _, ⟨o, _, g1, g2, _⟩, _⟩ := I.list (hK ▸ sub.seq hx)
      obtain ⟨o2, _, g3, g4, _⟩ := dct0_at I (sub _ _ hy)
      rw [g1] at g3; cases g3
      rw [g2] at g4; simp at g4
  | dct0 hx => cases r' with
    | dct0 hy => rfl
    | lst hy ry =>
      obtain ⟨_, _, ⟨o, _, g1, g2, _⟩, _⟩ := I.list (hK ▸ sub.seq hy)
      obtain ⟨o2, _, g3, g4, _⟩ := dct0_at I (sub _ _ hx)
      rw [g1] at g3; cases g3
      rw [g2] at g4; simp at g4
    | tup hy ry =>
      obtain ⟨_, _, ⟨o, g1, g2, _⟩, _⟩ := I.tuple (hK ▸ Same.tup sub hy)
      obtain ⟨o2, _, g3, g4, _⟩ := dct0_at I (sub _ _ hx)
      rw [g1] at g3; cases g3
      rw [g2] at g4; simp at g4
    | ref _ => exact absurd (by simp [reprD]) h'
    | cls _ => exact absurd (by simp [reprD]) h'
    | obj _ _ _ _ _ => exact absurd (by simp [reprD]) h'
  | tup hx rx => cases r' with
    | tup hy ry =>
      rename_i ds a xs es ys
      obtain ⟨t, e⟩ := Option.ne_none_iff_exists'.mp h
      obtain ⟨t', e'⟩ := Option.ne_none_iff_exists'.mp h'
      obtain ⟨ts, e1, _⟩ := reprD_tup e
      obtain ⟨ts', e1', _⟩ := reprD_tup e'
      have := I.tuple_inj (hK ▸ Same.tup sub hx) (hK ▸ Same.tup sub hy)
      subst this
      rw [reps_inj hK I sub ds es xs (by rw [e1]; exact fun z => nomatch z) (by rw [e1']; exact fun z => nomatch z) rx ry]
    | lst hy ry =>
      obtain ⟨_, _, ⟨o, _, g1, g2, _⟩, _⟩ := I.list (hK ▸ sub.seq hy)
      obtain ⟨_, _, ⟨o2, g3, g4, _⟩, _⟩ := I.tuple (hK ▸ Same.tup sub hx)
      rw [g1] at g3; cases g3
      rw [g2] at g4; simp at g4
    | ref _ => exact absurd (by simp [reprD]) h'
    | cls _ => exact absurd (by simp [reprD]) h'
    | obj _ _ _ _ _ => exact absurd (by simp [reprD]) h'
    | dct0 hy =>
      obtain ⟨_, _, ⟨o, g1, g2, _⟩, _⟩ := I.tuple (hK ▸ Same.tup sub hx)
      obtain ⟨o2, _, g3, g4, _⟩ := dct0_at I (sub _ _ hy)
      rw [g1] at g3; cases g3
      rw [g2] at g4; simp at g4
theorem reps_inj (hK : T.K = X.K) (I : Inv X pins σ H s) (sub : Same W.F H) : ∀ (d d' : List D) (x : List V), reprDs d ≠ none → reprDs d' ≠ none → RepA T W d x → RepA T W d' x → d = d' := by
  intro d d' x h h' r r'
  cases r with
  | nil => cases r'; rfl
  | cons r1 r2 => cases r' with
    | cons r1' r2' =>
      obtain ⟨t, e⟩ := Option.ne_none_iff_exists'.mp h
      obtain ⟨t', e'⟩ := Option.ne_none_iff_exists'.mp h'
      obtain ⟨_, _, a1, a2, _⟩ := reprDs_some e
      obtain ⟨_, _, b1, b2, _⟩ := reprDs_some e'
      rw [rep_inj hK I sub _ _ _ (by rw [a1]; exact fun z => nomatch z) (by rw [b1]; exact fun z => nomatch z) r1 r1',
        reps_inj hK I sub _ _ _ (by rw [a2]; exact fun z => nomatch z) (by rw [b2]; exact fun z => nomatch z) r2 r2']
end
/-- the objects below a value -/
def UnderV (T : Tb) (W : Wd) (n : Nat) (as : List Addr) : Prop := ∀ b ∈ as, ∃ d', reprD d' ≠ none ∧ Rep T W d' (.ref b) ∧ sizeOf d' ≤ n
theorem rak_more {prog : Program} {w : World} {as as' : List Addr} {h₀ : Heap} {d d' : Nat} (hsub : ∀ b ∈ as, b ∈ as') (hd : d ≤ d') : ∀ {l : List Value} {ts : List Str}, ReprAllK prog w as h₀ d l ts → ReprAllK prog w as' h₀ d' l ts
  | _, _, .nil => .nil
  | _, _, .cons h r => .cons ((h.more hsub).level_le hd) (rak_more hsub hd r)
theorem rak_get {prog : Program} {w : World} {as : List Addr} {h₀ : Heap} {d : Nat} : ∀ {l : List Value} {ts : List Str}, ReprAllK prog w as h₀ d l ts → ∀ (i : Nat) (x : Value), l[i]? = some x → ∃ t, ts[i]? = some t ∧ ReprK prog w as h₀ d x t
  | _, _, .nil, i, x, e => by simp at e
  | _, _, .cons h r, 0, x, e => by simp at e; subst e; exact ⟨_, by simp, h⟩
  | _, _, .cons h r, i + 1, x, e => by simpa using rak_get r i x (by simpa using e)
variable {pg : Program} {wd : World}
mutual
theorem repr_at (hK : T.K = X.K) (I : Inv X pins σ H s) (sub : Same W.F H) : ∀ (d : D) (x : V) (u : Value) (t : Str), reprD d = some t → Rep T W d x → RelV x u → ∃ as, UnderV T W (sizeOf d) as ∧ ReprK pg wd as s.heap (depthD d) u t
  | .non, _, _, _, h, r, ru => by
    cases r; cases ru
    rw [reprD] at h; cases h
    exact ⟨[], (fun _ z => nomatch z), ReprK.of_is .none _ _ _⟩
  | .bl b, _, _, _, h, r, ru => by
    cases r; cases ru
    rw [reprD] at h; cases h
    exact ⟨[], (fun _ z => nomatch z), ReprK.of_is (.bool b) _ _ _⟩
  | .int i, _, _, _, h, r, ru => by
    cases r; obtain ⟨tk, rfl⟩ := ru
    rw [reprD] at h
    split at h
    · rename_i hz
      cases h
      exact ⟨[], (fun _ z => nomatch z), big_nest (inv_digits hK I) (big_of hz)⟩
    · cases h
  | .str y, _, _, _, h, r, ru => by
    cases r; obtain ⟨tk, rfl⟩ := ru
    rw [reprD] at h
    split at h
    · rename_i hz
      cases h
      exact ⟨[], (fun _ z => nomatch z), ReprK.of_is (.str y tk (szOk.le hz)) _ _ _⟩
    · cases h
  | .lst ds, _, _, _, h, r, ru => by
    have hne : reprD (.lst ds) ≠ none := by rw [h]; exact fun z => nomatch z
    have r0 := r
    obtain ⟨a, xs, rfl, hx, rx⟩ := rep_lst r
    cases ru
    obtain ⟨ts, e, hz, rfl⟩ := reprD_lst h
    obtain ⟨its, rv, ⟨o, n, g1, g2, _, g3⟩, _⟩ := I.list (hK ▸ sub.seq hx)
    obtain ⟨as, hb, hr⟩ := reprs_at hK I sub ds xs its ts e rx rv
    have hna : a ∉ as := fun ha => by
      obtain ⟨d', e1, e2, e3⟩ := hb a ha
      have := rep_inj hK I sub _ _ _ hne e1 r0 e2
      subst this
      simp at e3
      omega
    refine ⟨a :: as, fun b hm => ?_, ?_⟩
    · rcases List.mem_cons.mp hm with rfl | hm
      · exact ⟨.lst ds, hne, r0, Nat.le_refl _⟩
      · obtain ⟨d', e1, e2, e3⟩ := hb b hm
        exact ⟨d', e1, e2, by simp; omega⟩
    · cases its with
      | nil =>
        cases rv
        cases rx
        rw [reprDs] at e; cases e
        exact ReprK.listEmpty g1 g2 g3
      | cons v l =>
        rw [depthD]
        exact ReprK.list g1 g2 g3 hna (by rw [List.size_toArray]; exact hr.length_eq) fun i y hy => rak_get hr i y (by simpa using hy)
  | .tup ds, _, _, _, h, r, ru => by
    have hne : reprD (.tup ds) ≠ none := by rw [h]; exact fun z => nomatch z
    have r0 := r
    obtain ⟨a, xs, rfl, hx, rx⟩ := rep_tup r
    cases ru
    obtain ⟨ts, e, hz, rfl⟩ := reprD_tup h
    obtain ⟨its, rv, ⟨o, g1, g2, n, g3⟩, _⟩ := I.tuple (hK ▸ Same.tup sub hx)
    obtain ⟨as, hb, hr⟩ := reprs_at hK I sub ds xs its ts e rx rv
    have hna : a ∉ as := fun ha => by
      obtain ⟨d', e1, e2, e3⟩ := hb a ha
      have := rep_inj hK I sub _ _ _ hne e1 r0 e2
      subst this
      simp at e3
      omega
    refine ⟨a :: as, fun b hm => ?_, ?_⟩
    · rcases List.mem_cons.mp hm with rfl | hm
      · exact ⟨.tup ds, hne, r0, Nat.le_refl _⟩
      · obtain ⟨d', e1, e2, e3⟩ := hb b hm
        exact ⟨d', e1, e2, by simp; omega⟩
    · rw [depthD]
      exact ReprK.tuple g1 g2 g3 hna (by simpa using hr)
  | .dct [] [], _, _, _, h, r, ru => by
    have r0 := r
    cases r with
    | dct0 hx =>
      cases ru
      rw [reprD] at h
      cases h
      obtain ⟨o, n, g1, g2, g3, g4⟩ := dct0_at I (sub _ _ hx)
      exact ⟨[_], (fun b hb => by rw [List.mem_singleton.mp hb]; exact ⟨_, by simp [reprD], r0, Nat.le_refl _⟩), ReprK.dict g1 g2 g3 g4 (by simp) .nil⟩
  | .dct (_ :: _) _, _, _, _, h, _, _ => by simp [reprD] at h
  | .dct [] (_ :: _), _, _, _, h, _, _ => by simp [reprD] at h
  | .obj _ _, _, _, _, h, _, _ => by simp [reprD] at h
  | .cls _, _, _, _, h, _, _ => by simp [reprD] at h
  | .ref _, _, _, _, h, _, _ => by simp [reprD] at h
theorem reprs_at (hK : T.K = X.K) (I : Inv X pins σ H s) (sub : Same W.F H) : ∀ (ds : List D) (xs : List V) (us : List Value) (ts : List Str), reprDs ds = some ts → RepA T W ds xs → Vals xs us → ∃ as, UnderV T W (sizeOf ds) as ∧ ReprAllK pg wd as s.heap (depthDs ds) us ts
  | [], _, _, _, h, r, ru => by
    cases r; cases ru
    rw [reprDs] at h; cases h
    exact ⟨[], (fun _ z => nomatch z), .nil⟩
  | d :: ds, _, _, _, h, r, ru => by
    obtain ⟨t, tr, e1, e2, rfl⟩ := reprDs_some h
    cases r with
    | cons r1 r2 => cases ru with
      | cons q1 q2 =>
        obtain ⟨as, b1, k1⟩ := repr_at hK I sub d _ _ t e1 r1 q1
        obtain ⟨bs, b2, k2⟩ := reprs_at hK I sub ds _ _ tr e2 r2 q2
        refine ⟨as ++ bs, fun b hm => ?_, ?_⟩
        · rcases List.mem_append.mp hm with hm | hm
          · obtain ⟨d', f1, f2, f3⟩ := b1 b hm
            exact ⟨d', f1, f2, by simp; omega⟩
          · obtain ⟨d', f1, f2, f3⟩ := b2 b hm
            exact ⟨d', f1, f2, by simp; omega⟩
        · rw [depthDs]
          exact .cons ((k1.more fun b hb => List.mem_append_left _ hb).level_le (Nat.le_max_left _ _)) (rak_more (fun b hb => List.mem_append_right _ hb) (Nat.le_max_right _ _) k2)
end
/-- how an object shows itself, whatever runs -/
structure ShowsD (pg : Program) (wd : World) (h₀ : Heap) (a : Addr) (t : Str) (Ty idr : String) : Prop where
  slotRepr : SlotG Ty "__repr__" idr
  slotStr : Slot Ty "__str__" "object.__str__"
  typeIs : ∀ s : Shared, (∀ b o, h₀.get? b = some o → s.heap.get? b = some o) → s.TypeIs (.ref a) Ty
  call : ∀ (A : Around) (E : Value → Shared → Prop) (s : Shared) (Q : Value → Shared → Prop), A.guards = some [] → A.units + 61 < cLine → (∀ b o, h₀.get? b = some o → s.heap.get? b = some o) →
    (∀ h' u tk, (∀ b o, s.heap.get? b = some o → h'.get? b = some o) → Q (.str t u) { s with heap := h', toks := tk }) → wpAny (model pg wd) A (call (.builtin idr) [.ref a]) Q E s
theorem shows_ref (hK : T.K = X.K) (I : Inv X pins σ H s) (sub : Same W.F H) {d : D} {a : Addr} {t : Str} (e : reprD d = some t) (hd : depthD d ≤ 60) (r : Rep T W d (.ref a)) : ∃ Ty idr, ShowsD pg wd s.heap a t Ty idr := by
  have hne : reprD d ≠ none := by rw [e]; exact fun z => nomatch z
  have r0 := r
  cases d with
  | lst ds =>
    obtain ⟨b, xs, eb, hx, rx⟩ := rep_lst r
    cases eb
    obtain ⟨ts, e1, hz, rfl⟩ := reprD_lst e
    obtain ⟨its, rv, ⟨o, n, g1, g2, _, g3⟩, _⟩ := I.list (hK ▸ sub.seq hx)
    obtain ⟨as, hb, hr⟩ := reprs_at (pg := pg) (wd := wd) hK I sub ds xs its ts e1 rx rv
    have hna : a ∉ as := fun ha => by
      obtain ⟨d', f1, f2, f3⟩ := hb a ha
      have := rep_inj hK I sub _ _ _ hne f1 r0 f2
      subst this
      simp at f3
      omega
    have hd' : depthDs ds + 1 ≤ 60 := by rw [depthD] at hd; exact hd
    refine ⟨"list", "list.__repr__", ⟨PySem.F.slot_list_repr.toG, PySem.F.slot_list_str, fun s' k => ⟨o, k _ _ g1, g2⟩, fun A E s' Q hg hu k q => ?_⟩⟩
    cases its with
    | nil =>
      cases rv
      cases rx
      rw [reprDs] at e1; cases e1
      exact call_list_repr_empty ⟨o, k _ _ g1, g2⟩ (k _ _ g1) g3 (q s'.heap _ _ fun _ _ z => z)
    | cons v l => exact call_list_reprK g1 g2 g3 hna (by rw [List.size_toArray]; exact hr.length_eq) (fun i y hy => rak_get hr i y (by simpa using hy)) (g := []) hg (fun b _ => Clear.nil b) (by omega) k q hz
  | tup ds =>
    obtain ⟨b, xs, eb, hx, rx⟩ := rep_tup r
    cases eb
    obtain ⟨ts, e1, hz, rfl⟩ := reprD_tup e
    obtain ⟨its, rv, ⟨o, g1, g2, n, g3⟩, _⟩ := I.tuple (hK ▸ Same.tup sub hx)
    obtain ⟨as, hb, hr⟩ := reprs_at (pg := pg) (wd := wd) hK I sub ds xs its ts e1 rx rv
    have hna : a ∉ as := fun ha => by
      obtain ⟨d', f1, f2, f3⟩ := hb a ha
      have := rep_inj hK I sub _ _ _ hne f1 r0 f2
      subst this
      simp at f3
      omega
    have hd' : depthDs ds + 1 ≤ 60 := by rw [depthD] at hd; exact hd
    refine ⟨"tuple", "tuple.__repr__", ⟨PySem.F.slot_tuple_repr, PySem.F.slot_tuple_str, fun s' k => ⟨o, k _ _ g1, g2⟩, fun A E s' Q hg hu k q => ?_⟩⟩
    exact call_tuple_reprK g1 g2 g3 hna (by simpa using hr) (g := []) hg (fun b _ => Clear.nil b) (by omega) k q hz
  | dct ks vs => cases r with
    | dct0 hx =>
      rw [reprD] at e
      cases e
      obtain ⟨o, n, g1, g2, g3, g4⟩ := dct0_at I (sub _ _ hx)
      refine ⟨"dict", "dict.__repr__", ⟨PySem.F.slot_dict_repr, PySem.F.slot_dict_str, fun s' k => ⟨o, k _ _ g1, g2⟩, fun A E s' Q hg hu k q => ?_⟩⟩
      exact call_dict_reprK (as := []) (d := 0) g1 g2 g3 g4 (by simp) .nil (g := []) hg (fun b _ => Clear.nil b) (by omega) k q (by decide)
  | non => cases r
  | bl _ => cases r
  | int _ => cases r
  | str _ => cases r
  | obj _ _ => exact absurd (by simp [reprD]) hne
  | cls _ => exact absurd (by simp [reprD]) hne
  | ref _ => exact absurd (by simp [reprD]) hne
end
end Ip
set_option Elab.async false
set_option linter.all false
set_option maxRecDepth 100000
set_option maxHeartbeats 4000000
/-! Built-in functions by values. -/
namespace Ip
open PySem PySem.Spec PyProof.Rows L2

theorem intsOf_map : ∀ {ds : List D} {ns : List Int}, intsOf ds = some ns → ds = ns.map D.int
  | [], _, h => by rw [intsOf] at h; cases h; rfl
  | .int i :: r, ns, h => by
    rw [intsOf] at h
    obtain ⟨m, e1, e2⟩ := Option.map_eq_some_iff.mp h
    subst e2
    rw [intsOf_map e1]; rfl
  | .non :: _, _, h => by simp [intsOf] at h
  | .bl _ :: _, _, h => by simp [intsOf] at h
  | .str _ :: _, _, h => by simp [intsOf] at h
  | .tup _ :: _, _, h => by simp [intsOf] at h
  | .lst _ :: _, _, h => by simp [intsOf] at h
  | .dct _ _ :: _, _, h => by simp [intsOf] at h
  | .obj _ _ :: _, _, h => by simp [intsOf] at h
  | .cls _ :: _, _, h => by simp [intsOf] at h
  | .ref _ :: _, _, h => by simp [intsOf] at h
theorem blsOf_map : ∀ {ds : List D} {ns : List Bool}, blsOf ds = some ns → ds = ns.map D.bl
  | [], _, h => by rw [blsOf] at h; cases h; rfl
  | .bl i :: r, ns, h => by
    rw [blsOf] at h
    obtain ⟨m, e1, e2⟩ := Option.map_eq_some_iff.mp h
    subst e2
    rw [blsOf_map e1]; rfl
  | .non :: _, _, h => by simp [blsOf] at h
  | .int _ :: _, _, h => by simp [blsOf] at h
  | .str _ :: _, _, h => by simp [blsOf] at h
  | .tup _ :: _, _, h => by simp [blsOf] at h
  | .lst _ :: _, _, h => by simp [blsOf] at h
  | .dct _ _ :: _, _, h => by simp [blsOf] at h
  | .obj _ _ :: _, _, h => by simp [blsOf] at h
  | .cls _ :: _, _, h => by simp [blsOf] at h
  | .ref _ :: _, _, h => by simp [blsOf] at h
section
variable {T : Tb} {W : Wd}
theorem rep_ints : ∀ {ns : List Int} {xs : List V}, RepA T W (ns.map D.int) xs → xs = ns.map V.int
  | [], _, .nil => rfl
  | n :: r, _, .cons h t => by rw [rep_int h, rep_ints t]; rfl
theorem rep_bls : ∀ {ns : List Bool} {xs : List V}, RepA T W (ns.map D.bl) xs → xs = ns.map V.bl
  | [], _, .nil => rfl
  | n :: r, _, .cons h t => by rw [rep_bl h, rep_bls t]; rfl
theorem repA1 {d : D} {xs : List V} (r : RepA T W [d] xs) : ∃ x, xs = [x] ∧ Rep T W d x := by
  cases r with | cons h t => cases t; exact ⟨_, rfl, h⟩
theorem repA2 {d e : D} {xs : List V} (r : RepA T W [d, e] xs) : ∃ x y, xs = [x, y] ∧ Rep T W d x ∧ Rep T W e y := by
  cases r with | cons h t => cases t with | cons h2 t2 => cases t2; exact ⟨_, _, rfl, h, h2⟩
end
/-- the value that a built-in's name means -/
def Blt.val : Blt → Value
  | .abs => .builtin "abs" | .int => .type "int" | .len => .builtin "len" | .max => .builtin "max" | .min => .builtin "min" | .str => .type "str" | .repr => .builtin "repr" | .sum => .builtin "sum"
  | .tuple => .type "tuple" | .all => .builtin "all" | .any => .builtin "any" | .gcd => .builtin "math.gcd" | .bool => .type "bool"
def rBl (T : Tb) (b : Blt) : List V → Hp → VK → Prop := fun xs H Q => ∃ W st ds, Sim T W st H ∧ RepA T W ds xs ∧ ∃ d, bltD b st ds = some d ∧ ∀ v W' H', W.le W' → Sim T W' st H' → Rep T W' d v → Q v H'

section
variable {X : Cx} {T : Tb}
theorem call_reprD (hK : T.K = X.K) (hg : X.A.guards = some []) (hu : X.A.units + 80 < cLine) {d : D} {t : Str} (e : reprD d = some t) (hd : depthD d ≤ 60) {W : Wd} {pins : List (Addr × Obj)} {σ : L2.St} {H : Hp} {s : Shared} {x : V} {u : Value} {Q : VK}
    (I : Inv X pins σ H s) (sub : Same W.F H) (r : Rep T W d x) (ru : RelV x u) (q : Q (.str t) H) : wpAny (model X.prog X.w) X.A (call (.builtin "repr") [u]) (EP X pins σ Q) X.xe s := by
  have fin : ∀ {h' : Heap} {tk tk2 : Tok}, (∀ b o, s.heap.get? b = some o → h'.get? b = some o) → EP X pins σ Q (.str t tk2) { s with heap := h', toks := tk } := fun {h' tk tk2} k =>
    ⟨.str t, H, I.kept (h' := h') (t' := tk) k, ⟨_, rfl⟩, q⟩
  have clr : ∀ {as : List Addr}, ∀ b ∈ as, Clear [] b := fun b _ => Clear.nil b
  cases d with
  | non => cases r; cases ru; rw [reprD] at e; cases e; exact PySem.P.repr_of_none (fin fun _ _ k => k)
  | bl b =>
    cases r; cases ru; rw [reprD] at e
    have e' := Option.some.inj e
    subst e'
    exact PySem.P.repr_of_bool (fin fun _ _ k => k)
  | int i =>
    cases r; obtain ⟨tk, rfl⟩ := ru; rw [reprD] at e
    split at e
    · rename_i hz; cases e; exact big_repr (inv_digits hK I) (big_of hz) (fin fun _ _ k => k)
    · cases e
  | str y =>
    cases r; obtain ⟨tk, rfl⟩ := ru; rw [reprD] at e
    split at e
    · rename_i hz; cases e; exact PySem.P.repr_of_str (fin fun _ _ k => k) (szOk.le hz)
    · cases e
  | lst ds =>
    have hne : reprD (.lst ds) ≠ none := by rw [e]; exact fun z => nomatch z
    have r0 := r
    obtain ⟨a, xs, rfl, hx, rx⟩ := rep_lst r
    cases ru
    obtain ⟨ts, e1, hz, rfl⟩ := reprD_lst e
    obtain ⟨its, rv, ⟨o, n, g1, g2, _, g3⟩, _⟩ := I.list (hK ▸ sub.seq hx)
    obtain ⟨as, hb, hr⟩ := reprs_at hK I sub ds xs its ts e1 rx rv
    have hna : a ∉ as := fun ha => by
      obtain ⟨d', f1, f2, f3⟩ := hb a ha
      have := rep_inj hK I sub _ _ _ hne f1 r0 f2
      subst this
      simp at f3
      omega
    have hd' : depthDs ds + 1 ≤ 60 := by rw [depthD] at hd; exact hd
    refine call_repr_slot (by omega) ⟨o, g1, g2⟩ PySem.F.slot_list_repr.toG ?_
    cases its with
    | nil =>
      cases rv
      cases rx
      rw [reprDs] at e1; cases e1
      exact call_list_repr_empty ⟨o, g1, g2⟩ g1 g3 ⟨_, _, rfl, fin fun _ _ k => k⟩
    | cons v l =>
      exact call_list_reprK g1 g2 g3 hna (by rw [List.size_toArray]; exact hr.length_eq) (fun i y hy => rak_get hr i y (by simpa using hy)) (A := X.A.in1) (g := []) hg clr (by show X.A.units + 1 + _ < cLine; omega) (fun _ _ k => k) (fun h' u tk k => ⟨_, _, rfl, fin k⟩) hz
  | tup ds =>
    have hne : reprD (.tup ds) ≠ none := by rw [e]; exact fun z => nomatch z
    have r0 := r
    obtain ⟨a, xs, rfl, hx, rx⟩ := rep_tup r
    cases ru
    obtain ⟨ts, e1, hz, rfl⟩ := reprD_tup e
    obtain ⟨its, rv, ⟨o, g1, g2, n, g3⟩, _⟩ := I.tuple (hK ▸ Same.tup sub hx)
    obtain ⟨as, hb, hr⟩ := reprs_at hK I sub ds xs its ts e1 rx rv
    have hna : a ∉ as := fun ha => by
      obtain ⟨d', f1, f2, f3⟩ := hb a ha
      have := rep_inj hK I sub _ _ _ hne f1 r0 f2
      subst this
      simp at f3
      omega
    have hd' : depthDs ds + 1 ≤ 60 := by rw [depthD] at hd; exact hd
    refine call_repr_slot (by omega) ⟨o, g1, g2⟩ PySem.F.slot_tuple_repr ?_
    exact call_tuple_reprK g1 g2 g3 hna (by simpa using hr) (A := X.A.in1) (g := []) hg clr (by show X.A.units + 1 + _ < cLine; omega) (fun _ _ k => k) (fun h' u tk k => ⟨_, _, rfl, fin k⟩) hz
  | dct ks vs => cases r with
    | dct0 hx =>
      cases ru
      rw [reprD] at e
      cases e
      obtain ⟨o, n, g1, g2, g3, g4⟩ := dct0_at I (sub _ _ hx)
      refine call_repr_slot (by omega) ⟨o, g1, g2⟩ PySem.F.slot_dict_repr ?_
      exact call_dict_reprK (as := []) (d := 0) g1 g2 g3 g4 (by simp) .nil (A := X.A.in1) (g := []) hg (fun b _ => clr (as := [b]) b (by simp)) (by show X.A.units + 1 + _ < cLine; omega) (fun _ _ k => k) (fun h' u tk k => ⟨_, _, rfl, fin k⟩) (by decide)
  | obj _ _ => simp [reprD] at e
  | cls _ => simp [reprD] at e
  | ref _ => simp [reprD] at e

/-- str(x), whatever runs -/
theorem str_any {pg : Program} {wd : World} {A : Around} {E : Value → Shared → Prop} {s' : Shared} {Q : Value → Shared → Prop} (hK : T.K = X.K) {W : Wd} {pins : List (Addr × Obj)} {σ : L2.St} {H : Hp} {s : Shared} {d : D} {x : V} {u : Value} {t : Str}
    (I : Inv X pins σ H s) (sub : Same W.F H) (e : strD d = some t) (hd : depthD d ≤ 60) (r : Rep T W d x) (ru : RelV x u) (hg : A.guards = some []) (hu : A.units + 70 < cLine) (k : ∀ b o, s.heap.get? b = some o → s'.heap.get? b = some o)
    (q : ∀ h' tk tk2, (∀ b o, s'.heap.get? b = some o → h'.get? b = some o) → Q (.str t tk2) { s' with heap := h', toks := tk }) : wpAny (model pg wd) A (call (.type "str") [u]) Q E s' := by
  have byRef : ∀ {a : Addr}, reprD d = some t → Rep T W d (.ref a) → wpAny (model pg wd) A (call (.type "str") [.ref a]) Q E s' := fun {a} e r => by
    refine callType_new PySem.F.called_str (by decide) (PySem.F.typeCall_str_1 _) (PySem.F.newCall_str_1 _) (fun obj => PySem.F.args_object_init_2 obj _) PySem.F.entry_str_new
      (meets_str_new (S := fun A' R s1 => A'.guards = some [] ∧ A'.units + 65 < cLine ∧ (∀ b o, s.heap.get? b = some o → s1.heap.get? b = some o) ∧ ∀ h' u tk, (∀ b o, s1.heap.get? b = some o → h'.get? b = some o) → R (.ok (.ret (.str t u))) { s1 with heap := h', toks := tk })
        fun pg' wd' A' R s1 h => ?_) ⟨hg, (by show A.units + 1 + 65 < cLine; omega), k, fun h' u tk hk => ⟨typeIs_str _ _ _, q h' tk u hk⟩⟩
    obtain ⟨h1, h2, h3, h4⟩ := h
    obtain ⟨Ty, idr, S⟩ := shows_ref (pg := pg') (wd := wd') hK I sub e hd r
    exact wpAny_strOf_slot rfl (by show A'.units + 1 + 1 < cLine; omega) (S.typeIs s1 h3) S.slotStr S.slotRepr (S.call A'.in1.in1 _ s1 _ h1 (by show A'.units + 1 + 1 + 61 < cLine; omega) h3 fun h' u tk hk => ⟨_, _, rfl, h4 h' u tk hk⟩)
  cases d with
  | non => cases r; cases ru; replace e : reprD .non = some t := e; rw [reprD] at e; cases e; exact PySem.P.str_of_none (q _ _ _ fun _ _ z => z)
  | bl b =>
    cases r; cases ru
    replace e : reprD (.bl b) = some t := e
    rw [reprD] at e
    have e' := Option.some.inj e
    subst e'
    exact PySem.P.str_of_bool (q _ _ _ fun _ _ z => z)
  | int i =>
    cases r; obtain ⟨tk, rfl⟩ := ru
    replace e : reprD (.int i) = some t := e
    rw [reprD] at e
    split at e
    · rename_i hz; cases e; exact big_str ((inv_digits hK I).keeps k) (big_of hz) (q _ _ _ fun _ _ z => z)
    · cases e
  | str y =>
    cases r; obtain ⟨tk, rfl⟩ := ru
    cases e
    exact PySem.P.str_of_str (q s'.heap s'.toks tk fun _ _ z => z)
  | lst ds => obtain ⟨a, xs, rfl, _, _⟩ := rep_lst r; cases ru; exact byRef e r
  | tup ds => obtain ⟨a, xs, rfl, _, _⟩ := rep_tup r; cases ru; exact byRef e r
  | dct ks vs => cases r with
    | dct0 hx => cases ru; exact byRef e (.dct0 hx)
  | obj _ _ => simp [strD, reprD] at e
  | cls _ => simp [strD, reprD] at e
  | ref _ => simp [strD, reprD] at e
/-- a tuple is itself -/
theorem tup_same (hK : T.K = X.K) {W : Wd} {st : Store} {pins : List (Addr × Obj)} {σ : L2.St} {H : Hp} {s : Shared} (I : Inv X pins σ H s) (sim : Sim T W st H) {d : D} {a : Addr} {ys : List D} {zs : List V} (r : Rep T W d (.ref a)) (e : seqOf st d = some ys) (hs : SqT T.K H a zs) (r2 : RepA T W ys zs) : Rep T W (.tup ys) (.ref a) := by
  have no : ∀ {xs : List V}, SqL T.K H a xs → False := fun {xs} h => by
    obtain ⟨_, _, ⟨o, _, g1, g2, _⟩, _⟩ := I.list (hK ▸ h)
    obtain ⟨_, _, ⟨o2, g3, g4, _⟩, _⟩ := I.tuple (hK ▸ hs)
    rw [g1] at g3; cases g3
    rw [g2] at g4; simp at g4
  unfold seqOf at e
  split at e
  · obtain ⟨b, xs, e1, h, _⟩ := rep_lst r
    cases e1
    exact (no (sim.sub.seq h)).elim
  · cases e
    exact r
  · split at e
    · obtain ⟨p, e1, hp⟩ := rep_ref r
      rename_i hn
      obtain ⟨xs, hx, _⟩ := sim.cell _ _ p hn hp
      cases e1
      exact (no (SqL.of hx)).elim
    · cases e
  · cases e
theorem call_blt (hK : T.K = X.K) (hc : X.calm = true) (hg : X.A.guards = some []) (hu : X.A.units + 80 < cLine) (b : Blt) : CallR X b.val (rBl T b) := by
  intro pins s σ H xs us Q I rx h
  obtain ⟨W, st, ds, sim, ra, d, e, q⟩ := h
  have fin : ∀ {d' : D} {v' : V}, d = d' → Rep T W d' v' → Q v' H := fun e1 r => by subst e1; exact q _ W H (.refl _) sim r
  unfold bltD at e
  split at e
  all_goals try (cases e; done)
  · obtain ⟨x, rfl, r⟩ := repA1 ra
    cases rep_int r
    exact call_abs pins s σ H _ us Q I rx ⟨_, rfl, fin (Option.some.inj e).symm (.int _)⟩
  · obtain ⟨x, rfl, r⟩ := repA1 ra
    cases rep_int r
    exact call_int1 pins s σ H _ us Q I rx (.inl ⟨_, rfl, fin (Option.some.inj e).symm (.int _)⟩)
  · obtain ⟨x, rfl, r⟩ := repA1 ra
    cases rep_bl r
    exact call_int1 pins s σ H _ us Q I rx (.inr ⟨_, rfl, fin (Option.some.inj e).symm (.int _)⟩)
  · obtain ⟨x, rfl, r⟩ := repA1 ra
    cases rep_int r
    exact call_bool1 pins s σ H _ us Q I rx (.inl ⟨_, rfl, fin (Option.some.inj e).symm (.bl _)⟩)
  · obtain ⟨x, rfl, r⟩ := repA1 ra
    cases rep_bl r
    exact call_bool1 pins s σ H _ us Q I rx (.inr ⟨_, rfl, fin (Option.some.inj e).symm (.bl _)⟩)
  · obtain ⟨x, rfl, r⟩ := repA1 ra
    obtain ⟨n, e1, e2⟩ := Option.map_eq_some_iff.mp e
    refine call_len pins s σ H _ us Q I rx ⟨_, n, rfl, ?_, fin e2.symm (.int _)⟩
    unfold lenD at e1
    split at e1
    · cases rep_str r
      split at e1
      · rename_i hz; exact ⟨szOk.le hz, (Option.some.inj e1).symm⟩
      · cases e1
    · obtain ⟨ys, e3, e4⟩ := Option.map_eq_some_iff.mp e1
      obtain ⟨a, zs, rfl, hs, r2⟩ := seqOf_rep sim r e3
      rcases hs with hs | hs
      · exact .inl ⟨zs, hK ▸ hs, by rw [← e4, r2.length]⟩
      · exact .inr ⟨zs, hK ▸ hs, by rw [← e4, r2.length]⟩
  · obtain ⟨x, y, rfl, r1, r2⟩ := repA2 ra
    cases rep_int r1; cases rep_int r2
    exact call_max2 hc pins s σ H _ us Q I rx ⟨_, _, rfl, fin (Option.some.inj e).symm (.int _)⟩
  · obtain ⟨x, y, rfl, r1, r2⟩ := repA2 ra
    cases rep_int r1; cases rep_int r2
    exact call_min2 hc pins s σ H _ us Q I rx ⟨_, _, rfl, fin (Option.some.inj e).symm (.int _)⟩
  · obtain ⟨x, y, rfl, r1, r2⟩ := repA2 ra
    cases rep_int r1; cases rep_int r2
    exact cr_gcd pins s σ H _ us Q I rx ⟨_, _, rfl, fin (Option.some.inj e).symm (.int _)⟩
  · obtain ⟨x, rfl, r⟩ := repA1 ra
    split at e
    · rename_i hd
      obtain ⟨t, e1, e2⟩ := Option.map_eq_some_iff.mp e
      obtain ⟨u, rfl, ru⟩ := vals1 rx
      exact str_any hK I sim.sub e1 hd r ru hg (by omega) (fun _ _ z => z) fun h' tk tk2 k => ⟨.str t, H, I.kept (h' := h') (t' := tk) k, ⟨_, rfl⟩, fin e2.symm (.str _)⟩
    · cases e
  · obtain ⟨x, rfl, r⟩ := repA1 ra
    split at e
    · rename_i hd
      obtain ⟨t, e1, e2⟩ := Option.map_eq_some_iff.mp e
      obtain ⟨u, rfl, ru⟩ := vals1 rx
      exact call_reprD hK hg hu e1 hd I sim.sub r ru (fin e2.symm (.str _))
    · cases e
  · obtain ⟨x, rfl, r⟩ := repA1 ra
    obtain ⟨a, zs, rfl, hs, r2⟩ := rep_lst r
    obtain ⟨ns, e1, e2⟩ := Option.map_eq_some_iff.mp e
    have e3 := intsOf_map e1
    subst e3
    have e4 := rep_ints r2
    subst e4
    exact cr_sum hc pins s σ H _ us Q I rx ⟨a, ns, rfl, hK ▸ sim.sub.seq hs, fin e2.symm (.int _)⟩
  · obtain ⟨x, rfl, r⟩ := repA1 ra
    obtain ⟨a, zs, rfl, hs, r2⟩ := rep_lst r
    obtain ⟨ns, e1, e2⟩ := Option.map_eq_some_iff.mp e
    have e3 := blsOf_map e1
    subst e3
    have e4 := rep_bls r2
    subst e4
    exact cr_all hc pins s σ H _ us Q I rx ⟨a, ns, rfl, hK ▸ sim.sub.seq hs, fin e2.symm (.bl _)⟩
  · obtain ⟨x, rfl, r⟩ := repA1 ra
    obtain ⟨a, zs, rfl, hs, r2⟩ := rep_lst r
    obtain ⟨ns, e1, e2⟩ := Option.map_eq_some_iff.mp e
    have e3 := blsOf_map e1
    subst e3
    have e4 := rep_bls r2
    subst e4
    exact cr_any hc pins s σ H _ us Q I rx ⟨a, ns, rfl, hK ▸ sim.sub.seq hs, fin e2.symm (.bl _)⟩
  · obtain ⟨x, rfl, r⟩ := repA1 ra
    obtain ⟨ys, e1, e2⟩ := Option.map_eq_some_iff.mp e
    obtain ⟨a, zs, e3, hs, r2⟩ := seqOf_rep sim r e1
    subst e3
    refine call_tuple_of pins s σ H _ us Q I rx ⟨a, zs, rfl, ?_⟩
    rcases hs with hs | hs
    · refine .inl ⟨hK ▸ hs, fun p hp => ?_⟩
      obtain ⟨W', le, s', r'⟩ := sim.newT hp r2
      exact q _ W' _ le s' (e2 ▸ r')
    · refine .inr ⟨hK ▸ hs, ?_⟩
      exact fin e2.symm (tup_same hK I sim r e1 hs r2)
end
end Ip
set_option Elab.async false
set_option linter.all false
set_option maxRecDepth 100000
set_option maxHeartbeats 4000000
/-! Terms against the text: the check, and what the machine does where the interpreter gives an outcome. -/
namespace Ip
open PySem PySem.Spec PyProof.Rows L2

/-! ### what of the text is fixed -/
/-- where a def stands: at the top, or in a class -/
inductive FK where | fn | meth (c : Nat) | prop (c : Nat) | init (c : Nat) | op (c : Nat) (o : BO)
  deriving DecidableEq
structure Cfg where
  N : List Str
  sc : Scope
  wr : Scope
  fn : Nat → Str
  gl : Nat → Str
  bk : Blt → Bool
  tk : Ty → Bool
  ik : Bool
  rk : Bool
  xn : Nat → Str := fun _ => ""
  hn : Nat → Str := fun _ => ""
  hf : Nat → Str := fun _ => ""
  nc : Nat := 0
  sl : Nat → List Str := fun _ => []
  cn : Nat → Str := fun _ => ""
  kd : Nat → FK := fun _ => .fn

def visB (sc : Scope) (x : Str) : Bool := match sc.names.lookup x with
  | some .local => true
  | some .cell => true
  | some .free => true
  | _ => false
theorem visB.vis {sc : Scope} {x : Str} (h : visB sc x = true) : Vis sc x := by
  unfold visB at h
  split at h
  · exact .inl (by assumption)
  · exact .inr (.inl (by assumption))
  · exact .inr (.inr (by assumption))
  · cases h
def locB (sc : Scope) (x : Str) : Bool := match sc.names.lookup x with
  | some .local => true
  | some .cell => true
  | _ => false
theorem locB.loc {sc : Scope} {x : Str} (h : locB sc x = true) : Loc sc x := by
  unfold locB at h
  split at h
  · exact .inl (by assumption)
  · exact .inr (by assumption)
  · cases h
def glB (sc : Scope) (x : Str) : Bool := decide (sc.names.lookup x = some .globalImplicit)
def nmOk (x : Str) : Bool := !(x == ("__debug__" : Str)) && !(x == ("__classdict__" : Str))
theorem nmOk.l {x : Str} (h : nmOk x = true) : (x == ("__debug__" : Str)) = false := by
  unfold nmOk at h; simp only [Bool.and_eq_true, Bool.not_eq_true'] at h; exact h.1
theorem nmOk.r {x : Str} (h : nmOk x = true) : (x == ("__classdict__" : Str)) = false := by
  unfold nmOk at h; simp only [Bool.and_eq_true, Bool.not_eq_true'] at h; exact h.2
def noStar : Expr → Bool
  | .Starred _ _ => false
  | _ => true
def noSlice : Expr → Bool
  | .Slice _ _ _ _ => false
  | _ => true
def stripB : Expr → Expr
  | .BoolOp _ [x] _ => x
  | e => e
def Blt.nm : Blt → Str
  | .abs => "abs" | .int => "int" | .len => "len" | .max => "max" | .min => "min" | .str => "str" | .repr => "repr" | .sum => "sum" | .tuple => "tuple" | .all => "all" | .any => "any" | .gcd => "gcd" | .bool => "bool"
def Ty.nm : Ty → Str
  | .int => "int" | .bool => "bool" | .str => "str" | .tuple => "tuple" | .list => "list" | .dict => "dict"
def Ty.id : Ty → String
  | .int => "int" | .bool => "bool" | .str => "str" | .tuple => "tuple" | .list => "list" | .dict => "dict"
def Mth.nm : Mth → Str
  | .append => "append" | .popAt => "pop" | .pop => "pop"
def conB : D → Const → Bool
  | .non, .none => true
  | .bl a, .bool b => a == b
  | .int i, .int j => i == j
  | .str x, .str y => decide (x = y)
  | _, _ => false
/-- a target: its names may be stored, and are (where told) among the block's own -/
def chkN (c : Cfg) (own : Option (List Nat)) (i : Nat) (x : Str) : Bool := decide (c.N[i]? = some x) && locB c.wr x && (match own with | none => true | some l => l.contains i)
def chkTs (c : Cfg) (own : Option (List Nat)) : List Nat → List Expr → Bool
  | [], [] => true
  | i :: is, .Name x _ :: es => chkN c own i x && chkTs c own is es
  | _, _ => false
def chkT (c : Cfg) (own : Option (List Nat)) : IT → Expr → Bool
  | .nm i, .Name x _ => chkN c own i x
  | .tp is, .Tuple es _ _ => chkTs c own is es
  | _, _ => false

/-- no call without arguments of a name (super()) -/
def notCall : Expr → Bool
  | .Call (.Name _ _) [] [] _ => false
  | _ => true
def notSet : Expr → Bool
  | .Set _ _ _ => false
  | _ => true
def plainT : Expr → Bool
  | .UnaryOp .Not _ _ => false
  | .BoolOp _ _ _ => false
  | .IfExp _ _ _ _ => false
  | .Compare _ _ _ _ => false
  | _ => true
def ownOf (N : List Str) (own : List Nat) : List (Str × Nat) := own.map fun i => (N.getD i "", i)
def Cfg.blk (c : Cfg) (scope : Scope) : Cfg := { c with sc := relS scope c.sc, wr := scope }
def isNo : IE → Bool
  | .no => true
  | _ => false
def isYes : IE → Bool
  | .con (.bl true) => true
  | _ => false
/-- a formatted text's parts: the values -/
def fmtParts : List (Option Str) → List Expr → Option (List Expr)
  | [], [] => some []
  | some x :: ps, .Constant (.str y) _ _ :: es => if x = y then fmtParts ps es else none
  | none :: ps, .FormattedValue e f none _ :: es => if f = -1 then (fmtParts ps es).map (e :: ·) else none
  | _, _ => none
def fmtShape : List Expr → Bool
  | [.FormattedValue _ f none _] => decide (f = -1)
  | _ :: _ :: _ => true
  | _ => false
def partsX : XO → Expr → Option (List Expr)
  | .fld _, .Attribute e _ _ => some [e]
  | .prop _, .Attribute e _ _ => some [e]
  | .mk _ _ _, .Call (.Name _ _) (e :: es) [] _ => some (e :: es)
  | .own2 _ _ _, .BinOp x _ y _ => some [x, y]
  | .ownC _ _ _, .Compare x [_] [y] _ => some [x, y]
  | .eqL _ _ _, .Compare x [_] [y] _ => some [x, y]
  | .ownU _ _ _, .UnaryOp _ x _ => some [x]
  | .ownB _ _ _, .Call (.Name _ _) [e] [] _ => some [e]
  | .isC _, .Call (.Name _ _) [e, .Name _ _] [] _ => some [e]
  | _, _ => none
def BO.dun : BO → Str
  | .add => "__add__" | .sub => "__sub__" | .mul => "__mul__" | .fdiv => "__floordiv__" | .mod => "__mod__" | .pow => "__pow__"
def UO.dun : UO → Str
  | .neg => "__neg__" | .inv => "__invert__"
def Blt.dun : Blt → Str
  | .len => "__len__" | .bool => "__bool__" | .str => "__str__" | _ => ""
def ownAt (c : Cfg) (a : Alt) (cl : Nat) (n : Str) : Bool := decide (c.fn a.i = n) && decide (c.kd a.i = .meth cl) && decide (cl < c.nc)
def condX (c : Cfg) : XO → Expr → Bool
  | .fld tab, .Attribute e f _ => notCall e && tab.all fun p => decide (p.1 < c.nc) && decide ((c.sl p.1)[p.2]? = some f)
  | .prop alts, .Attribute e f _ => notCall e && alts.all fun p => decide (c.fn p.2.i = f) && decide (c.kd p.2.i = .prop p.1)
  | .mk _ cl a, .Call (.Name x _) _ [] _ => decide (c.fn a.i = x) && decide (c.kd a.i = .init cl) && decide (cl < c.nc) && glB c.sc x && nmOk x
  | .own2 o cl a, .BinOp _ op _ _ => decide (o.op = op) && decide (c.kd a.i = .op cl o) && decide (cl < c.nc)
  | .ownC o cl a, .Compare _ [op] [y] _ => decide (o.op = op) && (o == .eq || o == .ne) && ownAt c a cl "__eq__" && !behindInMarks op y
  | .eqL o cl a, .Compare _ [op] [y] _ => decide (o.op = op) && (o == .eq || o == .ne) && ownAt c a cl "__eq__" && !behindInMarks op y
  | .ownU o cl a, .UnaryOp op _ _ => (match o, op with
    | .neg, .USub => true
    | .inv, .Invert => true
    | _, _ => false) && ownAt c a cl o.dun
  | .ownB b cl a, .Call (.Name x _) _ [] _ => (b == .len || b == .bool || b == .str) && c.bk b && decide (b.nm = x) && glB c.sc x && nmOk x && ownAt c a cl b.dun
  | .isC k, .Call (.Name x _) [e, .Name z _] [] _ => c.ik && decide (x = "isinstance") && glB c.sc x && decide (k < c.nc) && decide (c.cn k = z) && glB c.sc z && nmOk z
  | _, _ => false
mutual
def chkE (c : Cfg) : IE → Expr → Bool
  | .ext k es, x => match partsX k x with
    | some xs => condX c k x && chkEs c es xs
    | none => false
  | .fstr ps es, .JoinedStr vs _ => match fmtParts ps vs with
    | some xs => fmtShape vs && chkEs c es xs
    | none => false
  | .meth alts o es, .Call (.Attribute x n ap) ys [] cp => notCall x && (ap.endLine == cp.line) && decide (ys.length < 9) && chkE c o x && chkEs c es ys && alts.all fun p => ownAt c p.2 p.1 n
  | .var i, .Name x _ => decide (c.N[i]? = some x) && visB c.sc x && nmOk x
  | .con d, .Constant k _ _ => conB d k
  | .glob i _, .Name x _ => decide (c.gl i = x) && glB c.sc x && nmOk x
  | .bin o a b, .BinOp x op y _ => decide (o.op = op) && chkE c a x && chkE c b y
  | .un .neg a, .UnaryOp .USub x _ => chkE c a x
  | .cmp o a b, .Compare x [op] [y] _ => decide (o.op = op) && chkE c a x && chkE c b y && !behindInMarks op y
  | .chain o1 o2 a b d, .Compare x [p1, p2] [y, z] _ => decide (o1.op = p1) && decide (o2.op = p2) && chkE c a x && chkE c b y && chkE c d z && !lastMarks [p1, p2] [y, z]
  | .and a b, .BoolOp .And (x :: y :: r) p => chkE c a x && chkE c b (stripB (.BoolOp .And (y :: r) p))
  | .or a b, .BoolOp .Or (x :: y :: r) p => chkE c a x && chkE c b (stripB (.BoolOp .Or (y :: r) p))
  | .not a, .UnaryOp .Not x _ => chkE c a x
  | .ife t a b, .IfExp u x y _ => chkE c t u && chkE c a x && chkE c b y
  | .tup es, .Tuple xs _ _ => chkEs c es xs
  | .lst _ es, .List xs _ => chkEs c es xs
  | .dct0, .Dict [] [] _ => true
  | .sub a b, .Subscript x y _ => chkE c a x && chkE c b y && noSlice y
  | .slice a lo hi, .Subscript x (.Slice l h none _) _ => chkE c a x && (match l with
      | none => isNo lo
      | some u => chkE c lo u) && (match h with
      | none => isNo hi
      | some u => chkE c hi u)
  | .rev a, .Subscript x (.Slice none none (some (.UnaryOp .USub (.Constant (.int k) _ _) _)) _) _ => decide (k = 1) && chkE c a x
  | .call f _ _ es, .Call (.Name x _) (y :: ys) [] _ => decide (c.kd f = .fn) && decide (c.fn f = x) && glB c.sc x && nmOk x && chkEs c es (y :: ys)
  | .blt b es, .Call (.Name x _) (y :: ys) [] _ => c.bk b && decide (b.nm = x) && glB c.sc x && nmOk x && chkEs c es (y :: ys)
  | .isi t e, .Call (.Name x _) [y, .Name z _] [] _ => c.ik && c.tk t && decide (x = "isinstance") && glB c.sc x && decide (t.nm = z) && glB c.sc z && chkE c e y && noStar y
  | .mth m o es, .Call (.Attribute x n ap) (y :: ys) [] cp => decide (m ≠ .pop) && decide (m.nm = n) && chkE c o x && chkEs c es (y :: ys) && decide (ys.length < 9) && (ap.endLine == cp.line) && notCall x
  | .mth .pop o .nil, .Call (.Attribute x n ap) [] [] cp => decide (n = "pop") && chkE c o x && (ap.endLine == cp.line) && notCall x
  | .comp _ own it tg cond elt, .ListComp y [⟨t, i, ifs, asy⟩] scope _ =>
      decide (asy = 0) && chkI c it i && notSet i && blkC c.N c.sc scope (ownOf c.N own) && chkT (c.blk scope) (some own) tg t && chkE (c.blk scope) elt y &&
      (match ifs with
        | [] => isYes cond
        | [u] => chkE (c.blk scope) cond u
        | _ => false)
  | .fz e, x => chkE c e x && plainT x
  | _, _ => false
def chkEs (c : Cfg) : IEs → List Expr → Bool
  | .nil, [] => true
  | .cons e es, x :: xs => chkE c e x && noStar x && chkEs c es xs
  | _, _ => false
def chkI (c : Cfg) : IIt → Expr → Bool
  | .val e, x => chkE c e x
  | .range es, .Call (.Name x _) ys [] _ => c.rk && decide (x = "range") && glB c.sc x && chkEs c es ys && (decide (ys.length = 1) || decide (ys.length = 2))
  | _, _ => false
end
end Ip
set_option Elab.async false
set_option linter.all false
set_option maxRecDepth 100000
set_option maxHeartbeats 400000
/-! Defs: what a def keeps, where no repr is under way. -/
namespace Ip
open PySem PySem.Spec PyProof.Rows L2

/-- a def keeps its promise, called where no repr is under way -/
structure FnG (P : Program) (w : World) (K : PySem.W.Frag) (mg : Str → Option Value) (base : Heap) (k : Nat) (f : Addr) (fd : FuncData) (ps : List Str) (sp : Sp) : Prop where
  len : ∀ vs H Q E, sp vs H Q E → vs.length = ps.length
  run : ∀ (A : Around) (out : List Env) (s : Shared) (H : Hp) (ag : Args) (us : List Value) (vs : List V) (Q : VK) (E : XK), Room k A → A.guards = some [] → Env0 P w K mg base A out s H → BindsTo s fd ag (ps.zip us) → Vals vs us → sp vs H Q E →
    codeAny (model P w) A (.call (.ref f) ag) (CR (L2.CX P w) out P w H s Q E) s
theorem FnG.mono {P : Program} {w : World} {K : PySem.W.Frag} {mg : Str → Option Value} {base : Heap} {j k : Nat} {f : Addr} {fd : FuncData} {ps : List Str} {sp : Sp} (F : FnG P w K mg base j f fd ps sp) (h : j ≤ k) : FnG P w K mg base k f fd ps sp where
  len := F.len
  run := fun A out s H ag us vs Q E hr => F.run A out s H ag us vs Q E (hr.mono h)
/-- the callee runs, from the body X -/
theorem run_fnG {X : Cx} {k : Nat} {f : Addr} {fd : FuncData} {ps : List Str} {sp : Sp} {ds : List Value} {dvs : List V} {E : XK} {pins : List (Addr × Obj)} {σ : L2.St} {H : Hp} {s : Shared} {Q : VK} {us : List Value} {vs : List V}
    (F : FnG X.prog X.w X.K X.mg X.base k f fd ps sp) (hr : Room k X.A) (hg : X.A.guards = some []) (hb : Binds X.K fd ps ds) (hd : Vals dvs ds) (hx : PassesAt (L2.CX X.prog X.w) X σ E) (I : Inv X pins σ H s) (r : Vals vs us) (h : sp (vs ++ dvs) H Q E) :
    wpAny (model X.prog X.w) X.A (call (.ref f) us) (EP X pins σ Q) X.xe s := by
  have rr : Vals (vs ++ dvs) (us ++ ds) := r.append hd
  have ll : (us ++ ds).length = ps.length := rr.length ▸ F.len _ _ _ _ h
  refine wpAny_call (codeAny_mono (F.run X.A X.stack s H ⟨us, []⟩ _ _ Q E hr hg I.env0 (hb s us I.kIn ll) rr h) fun res st2 hq => ?_)
  rcases res with er | fl
  · exact hx pins H s er st2 I hq
  · cases fl <;> first | exact I.after hq | exact (hq : False).elim
/-- a def's promise by its body -/
theorem fn_ofG {P : Program} {w : World} {K : PySem.W.Frag} {mg : Str → Option Value} {base : Heap} {k : Nat} {f : Addr} {name qual : Str} {params : Arguments} {body : List Stmt} {scope : Scope} {dV kV doc pm cdv ct oc : Value} {an od : Option Addr}
    {osl : Array (Option Value)} {N ps : List Str} {sp : Sp} (lk : K.lookup f = some ⟨oc, od, .func (PySem.W.fnOf name qual params body scope dV kV doc pm an cdv ct), osl⟩) (hcd : PySem.W.codeIn K cdv qual = true) (S : FnScope N ps scope) (len : ∀ vs H Q E, sp vs H Q E → vs.length = ps.length)
    (hbody : ∀ (A : Around) (out : List Env) (s : Shared) (H : Hp) (vs : List V) (Q : VK) (E : XK), Room k (A.deeper (envOfC qual scope s.heap.objs.size f cdv)) → A.guards = some [] → sp vs H Q E →
      ∃ t, PSs (cxOf (L2.CX P w) P w K mg base N qual scope f cdv A out s H E) body t ∧ t { nx := fun _ H' => Q .non H', rt := Q } (start N vs) H) : FnG P w K mg base (k + 1) f (PySem.W.fnOf name qual params body scope dV kV doc pm an cdv ct) ps sp := by
  refine ⟨len, fun A out s H ag us vs Q E hr hg e0 hb r hsp => ?_⟩
  have hk0 : ∀ b o, base.get? b = some o → s.heap.get? b = some o := fun b o e => (e0.bs b o e).1
  have KX : K.In s.heap := e0.mod.kin.keeps hk0
  have kinds : ∀ y ∈ ps.zip us, scope.names.lookup y.1 = some .local ∨ (scope.names.lookup y.1 = some .cell ∧ ((cellsFrom (s.heap.objs.size + 1) scope.names []).lookup y.1).isSome = true) := by
    intro y hy
    have hm := (List.of_mem_zip (a := y.1) (b := y.2) hy).1
    exact (S.par y.1 hm).imp id fun q => ⟨q, PySem.W.cellsFrom_some _ _ _ (.inl q)⟩
  refine codeAny_call_function hr.depth (KX _ _ lk) rfl S.co S.gen rfl (PySem.W.codeRec_of KX hcd) (hb _ _ _ _ (wpAny_newFunctionEnv_cells S.kind kinds fun env he s1 x => ?_))
  subst he
  refine ⟨(e0.mod.nolimit.keeps hk0).keeps x.toInCall.keep, codeAny_func ?_⟩
  obtain ⟨t, ht, hq⟩ := hbody A out s H vs Q E (hr.deeper _) hg hsp
  have I0 := inv_start (CX := L2.CX P w) (P := P) (w := w) (K := K) (mg := mg) (base := base) (qual := qual) (f := f) (cd := cdv) (A := A) (outer := out) (E := E) S hr.hd e0 (len _ _ _ _ hsp) r x
  refine wpAny_mono (ht.run [] s1 (start N vs) H _ I0 hq) (fun fl st2 hs => ?_) fun _ _ hs => hs
  cases fl
  · obtain ⟨σ', H', J, q⟩ := hs
    exact ⟨V.non, H', J.os, J.bare, J.base, J.hok, rfl, q⟩
  · exact (let ⟨_, _, _, q⟩ := hs; q : False).elim
  · exact (let ⟨_, _, _, q⟩ := hs; q : False).elim
  · obtain ⟨v, σ', H', J, rv, q⟩ := hs
    exact ⟨v, H', J.os, J.bare, J.base, J.hok, rv, q⟩
/-- the promise of a def by what the interpreter makes of it -/
def spOf (T : Tb) (sm : Fn) : Sp := fun vs H Q E => ∃ W st ds, Sim T W st H ∧ RepA T W ds vs ∧ Pst T (fun cls dd _ H => E cls dd H) [] W (Rep T) (sm ds st) Q
/-- a property of a class, its getter at g -/
def PropAt (K : PySem.W.Frag) (C : Addr) (f : Str) (g : Addr) : Prop := ∃ p, PySem.W.findIn K (.ref C) f = some (some (.ref p)) ∧ PySem.W.specialIn K (.ref p) "__get__" = some (some (.builtin "property.__get__")) ∧ PySem.W.takesIn K (.ref p) = some true ∧ ∃ rest, PySem.W.recIn K p "property" = some (.ref g :: rest)
/-- where a def stands -/
def AtK (K : PySem.W.Frag) (ca : Nat → Addr) (mg : Str → Option Value) (nm : Str) (f : Addr) : FK → Prop
  | .fn => mg nm = some (.ref f) ∧ PySem.W.keepIn K (.ref f) = true
  | .meth c => Meth K (ca c) nm f
  | .prop c => PropAt K (ca c) nm f
  | .init c => Mk K (ca c) f ∧ mg nm = some (.ref (ca c))
  | .op c o => Meth K (ca c) (PySem.dunder o.op.info.2) f ∧ PySem.W.selfFirst K (ca c) = true ∧ PySem.W.findIn K (.ref (ca c)) (PySem.dunderR o.op.info.2) = some none
/-- a call's facts -/
structure CallOk (T : Tb) (kd : FK) (nm : Str) (X : Cx) (dv : List D) (sm : Fn) : Prop where
  ex : ∃ (k : Nat) (f : Addr) (fd : FuncData) (ps : List Str) (ds : List Value) (dvs : List V), FnG X.prog X.w X.K X.mg X.base k f fd ps (spOf T sm) ∧ AtK X.K T.ca X.mg nm f kd ∧ Binds X.K fd ps ds ∧ Vals dvs ds ∧ (∀ W, RepA T W dv dvs) ∧ Room (k + 2) X.A

/-! ### argument lists -/
theorem star_cons {e : Expr} {es : List Expr} {env : Env} (h : noStar e = true) : starEach (e :: es) env = (false, eval e env) :: starEach es env := by
  cases e <;> first | rfl | cases h
theorem plain_args : ∀ {es : List Expr} {env : Env} {pos : Pos} {c : Cfg} {irs : IEs}, chkEs c irs es = true → (backTo pos (starEach es env)).any (·.1) = false
  | [], _, _, _, _, _ => rfl
  | e :: es, env, pos, c, irs, h => by
    cases irs with
    | nil => simp [chkEs] at h
    | cons i is =>
      simp only [chkEs, Bool.and_eq_true] at h
      rw [star_cons h.1.2]
      show (false || (backTo pos (starEach es env)).any (·.1)) = false
      rw [plain_args h.2, Bool.or_false]
end Ip
set_option Elab.async false
set_option linter.all false
set_option maxRecDepth 100000
set_option maxHeartbeats 400000
/-! Terms, one by one: the parts' readings give the whole's. -/
namespace Ip
open PySem PySem.Spec PyProof.Rows L2

theorem PE.imp {X : Cx} {e : Expr} {t t' : TE} (h : PE X e t) (k : ∀ σ H Q, t' σ H Q → t σ H Q) : PE X e t' := ⟨fun pins s σ H Q I q => h.run pins s σ H Q I (k σ H Q q)⟩
theorem PT.imp {X : Cx} {e : Expr} {t t' : TT} (h : PT X e t) (k : ∀ σ H Q, t' σ H Q → t σ H Q) : PT X e t' := ⟨fun pins s σ H Q I q => h.run pins s σ H Q I (k σ H Q q)⟩
theorem PW.imp {X : Cx} {e : Expr} {t t' : TT} (h : PW X e t) (k : ∀ σ H Q, t' σ H Q → t σ H Q) : PW X e t' := ⟨fun wh pins s σ H Q I q => h.run wh pins s σ H Q I (k σ H Q q)⟩
theorem PA.imp {X : Cx} {e : List Expr} {t t' : TA} (h : PA X e t) (k : ∀ σ H Q, t' σ H Q → t σ H Q) : PA X e t' := ⟨fun pos pins s σ H Q I q => h.run pos pins s σ H Q I (k σ H Q q)⟩
theorem PI.imp {X : Cx} {tg e : Expr} {t t' : TI} (h : PI X tg e t) (k : ∀ σ H Q, t' σ H Q → t σ H Q) : PI X tg e t' := ⟨fun pins s σ H Q I q => h.run pins s σ H Q I (k σ H Q q)⟩
theorem PI.or {X : Cx} {tg e : Expr} {t t' : TI} (h : PI X tg e t) (h' : PI X tg e t') : PI X tg e (fun σ H R => t σ H R ∨ t' σ H R) := ⟨fun pins s σ H Q I q => q.elim (h.run pins s σ H Q I) (h'.run pins s σ H Q I)⟩

/-- what holds of a running body -/
structure Cond (T : Tb) (XW : WX) (P : Nat → List D → Fn → Prop) (G : Nat → D → Prop) (c : Cfg) (X : Cx) : Prop where
  hK : T.K = X.K
  sc : X.env.scope = c.sc
  N : X.N = c.N
  nd : X.N.Nodup
  calm : X.calm = true
  gd : X.A.guards = some []
  room : Room 0 X.A
  tk : Takes X XW
  wr : ∀ x, locB c.wr x = true → Loc X.env.scope x ∧ (X.fn x = true ∨ X.env.scope.names.lookup x = some .local)
  bl : ∀ b : Blt, c.bk b = true → if b = .gcd then X.mg b.nm = some b.val else X.mg b.nm = none
  isi : c.ik = true → X.mg "isinstance" = none
  ty : ∀ t : Ty, c.tk t = true → X.mg t.nm = none
  rg : c.rk = true → X.mg "range" = none
  fn : ∀ i dv sm, P i dv sm → CallOk T (c.kd i) (c.fn i) X dv sm
  cl : c.nc ≤ T.nc ∧ (∀ k, k < c.nc → T.sl k = c.sl k) ∧ ∀ k, k < c.nc → X.mg (c.cn k) = some (.ref (T.ca k))
  gl : ∀ i d, G i d → ∃ u v, X.mg (c.gl i) = some u ∧ RelV v u ∧ ∀ W, Rep T W d v

section
variable {T : Tb} {XW : WX} {P : Nat → List D → Fn → Prop} {G : Nat → D → Prop} {c : Cfg} {X : Cx} {e x y z : Expr} {a b d : IE} {pos : Pos}
theorem Cond.hu (C : Cond T XW P G c X) : X.A.units + 80 < cLine := by have := C.room.un; omega
theorem Cond.hu64 (C : Cond T XW P G c X) : X.A.units + 64 < cLine := by have := C.room.un; omega
theorem Cond.gl' (C : Cond T XW P G c X) {n : Str} (h : glB c.sc n = true) : Gl X n := by
  show X.env.scope.names.lookup n = _
  rw [C.sc]; exact of_decide_eq_true h
theorem Cond.vis (C : Cond T XW P G c X) {n : Str} (h : visB c.sc n = true) : Vis X.env.scope n := by rw [C.sc]; exact visB.vis h
/-! ### truth -/
theorem tru_rep (hK : T.K = X.K) {W : Wd} {st : Store} {H : Hp} {d : D} {v : V} {k : Bool} (sim : Sim T W st H) (r : Rep T W d v) (e : truD st d = some k) : TruV X.K v H k := by
  unfold truD at e
  split at e
  all_goals try (cases e; done)
  · cases r; exact (Option.some.inj e).symm
  · cases r; exact (Option.some.inj e).symm
  · cases r; exact (Option.some.inj e).symm
  · cases r
    split at e
    · rename_i hz; exact ⟨szOk.le hz, (Option.some.inj e).symm⟩
    · cases e
  · obtain ⟨p, xs, rfl, h, r2⟩ := rep_lst r
    exact .inl ⟨xs, hK ▸ sim.sub.seq h, by rw [r2.isEmpty]; exact (Option.some.inj e).symm⟩
  · obtain ⟨p, xs, rfl, h, r2⟩ := rep_tup r
    exact .inr (.inl ⟨xs, hK ▸ Same.tup sim.sub h, by rw [r2.isEmpty]; exact (Option.some.inj e).symm⟩)
  · split at e
    · obtain ⟨p, rfl, hp⟩ := rep_ref r
      rename_i hn
      obtain ⟨xs, hx, r2, _⟩ := sim.cell _ _ p hn hp
      exact .inl ⟨xs, SqL.of hx, by rw [r2.isEmpty]; exact (Option.some.inj e).symm⟩
    · cases e
theorem ofO_ok {α β : Type} {W : Wd} {R : Wd → α → β → Prop} {o : Option α} {st : Store} {σ : L2.St} {Q : β → Hp → Prop} (h : Pst T XW σ W R (ofO o st) Q) : ∃ r, o = some r ∧ Pst T XW σ W R (.ok r st) Q := by
  cases o with
  | none => exact h.elim
  | some r => exact ⟨r, rfl, h⟩
theorem isTrue_of_plain (h : plainT e = true) (env : PySem.Env) (whole : PySem.Sem Value) : isTrue e env whole = (do let v ← whole; standAt e.pos; holding [v] (truthy v)) := by
  cases e with
  | UnaryOp op x p => cases op <;> first | rfl | cases h
  | BoolOp _ _ _ => cases h
  | IfExp _ _ _ _ => cases h
  | Compare _ _ _ _ => cases h
  | _ => rfl
theorem t_plain (C : Cond T XW P G c X) (he : PE X e (tI T XW a)) (hp : plainT e = true) : PT X e (tIt T XW a) := by
  refine PT.imp (pt_truth he (isTrue_of_plain hp X.env)) ?_
  rintro σ H Q ⟨W, st, σd, sim, rs, h⟩
  refine ⟨W, st, σd, sim, rs, (h.bind (Rep T)).imp ?_⟩
  rintro v H1 ⟨W1, d1, st1, le1, sim1, r1, h1⟩
  obtain ⟨k, e1, h2⟩ := ofO_ok h1
  exact ⟨k, tru_rep C.hK sim1 r1 e1, h2 k W1 H1 (.refl _) sim1 rfl⟩

/-! ### the rules -/
theorem c_var (C : Cond T XW P G c X) {i : Nat} {n : Str} (h1 : c.N[i]? = some n) (h2 : visB c.sc n = true) (h3 : nmOk n = true) : PE X (.Name n pos) (tI T XW (.var i)) := by
  refine PE.imp (pe_var (i := i) (by rw [C.N]; exact h1) (C.vis h2) (nmOk.l h3) (nmOk.r h3)) ?_
  rintro σ H Q ⟨W, st, σd, sim, rs, h⟩
  simp only [ev] at h
  split at h
  · rename_i d hd
    obtain ⟨v, e1, r⟩ := rs.get i d hd
    exact ⟨v, e1, h v W H (.refl _) sim r⟩
  · exact h.elim
theorem c_con {d : D} {v : V} (hv : ∀ W, Rep T W d v) (he : PE X e (tC v)) : PE X e (tI T XW (.con d)) := by
  refine PE.imp he ?_
  rintro σ H Q ⟨W, st, σd, sim, rs, h⟩
  simp only [ev] at h
  exact h v W H (.refl _) sim (hv W)
theorem c_glob (C : Cond T XW P G c X) {i : Nat} {d : D} {n : Str} (hg : G i d) (h1 : c.gl i = n) (h2 : glB c.sc n = true) (h3 : nmOk n = true) : PE X (.Name n pos) (tI T XW (.glob i d)) := by
  obtain ⟨u, v, m, r, hv⟩ := C.gl i d hg
  subst h1
  refine PE.imp (pe_glob (C.gl' h2) m r (nmOk.l h3)) ?_
  rintro σ H Q ⟨W, st, σd, sim, rs, h⟩
  simp only [ev] at h
  exact h v W H (.refl _) sim (hv W)
/-- a two-place operation -/
theorem two {g : Store → D → D → Option D} {t : IE} (ha : PE X x (tI T XW a)) (hb : PE X y (tI T XW b)) {e : Expr} (he : PE X e (tOp (rV2 T g) (tI T XW a) (tI T XW b)))
    (hev : ∀ σ st, ev t σ st = (ev a σ st).bind fun x st => (ev b σ st).bind fun y st => ofO (g st x y) st) : PE X e (tI T XW t) := by
  refine PE.imp he ?_
  rintro σ H Q ⟨W, st, σd, sim, rs, h⟩
  rw [hev] at h
  refine ⟨W, st, σd, sim, rs, (h.bind (Rep T)).imp ?_⟩
  rintro v H1 ⟨W1, d1, st1, le1, sim1, r1, h1⟩
  refine ⟨W1, st1, σd, sim1, rs.mono le1, (h1.bind (Rep T)).imp ?_⟩
  rintro u H2 ⟨W2, d2, st2, le2, sim2, r2, h2⟩
  obtain ⟨d, e, h3⟩ := ofO_ok h2
  exact ⟨W2, st2, d1, d2, sim2, r1.mono le2, r2, d, e, h3⟩
theorem c_bin (C : Cond T XW P G c X) {o : BO} (ha : PE X x (tI T XW a)) (hb : PE X y (tI T XW b)) : PE X (.BinOp x o.op y pos) (tI T XW (.bin o a b)) :=
  two (g := binD o) ha hb (pe_op (op_bin C.hK o) ha hb) fun σ st => by simp only [ev]
theorem c_neg (ha : PE X x (tI T XW a)) : PE X (.UnaryOp .USub x pos) (tI T XW (.un .neg a)) := by
  refine PE.imp (pe_un un_neg ha) ?_
  rintro σ H Q ⟨W, st, σd, sim, rs, h⟩
  simp only [ev] at h
  refine ⟨W, st, σd, sim, rs, (h.bind (Rep T)).imp ?_⟩
  rintro v H1 ⟨W1, d1, st1, le1, sim1, r1, h1⟩
  obtain ⟨d, e, h3⟩ := ofO_ok h1
  cases d1 <;> simp only [unD] at e <;> first | (cases e; done) | skip
  cases e
  cases rep_int r1
  exact ⟨_, rfl, h3 _ W1 H1 (.refl _) sim1 (.int _)⟩
theorem c_cmp (C : Cond T XW P G c X) {o : CO} (ha : PE X x (tI T XW a)) (hb : PE X y (tI T XW b)) (hm : behindInMarks o.op y = false) : PE X (.Compare x [o.op] [y] pos) (tI T XW (.cmp o a b)) :=
  two (g := fun st x y => (cmpD o st x y).map .bl) ha hb (pe_cmpR (op_cmp C.hK C.hu64 o) ha hb hm) fun σ st => by simp only [ev]
theorem t_cmp (C : Cond T XW P G c X) {o : CO} (ha : PE X x (tI T XW a)) (hb : PE X y (tI T XW b)) (hm : behindInMarks o.op y = false) : PT X (.Compare x [o.op] [y] pos) (tIt T XW (.cmp o a b)) := by
  refine PT.imp (pt_cmpR (op_cmp C.hK C.hu64 o) ha hb hm) ?_
  rintro σ H Q ⟨W, st, σd, sim, rs, h⟩
  simp only [evt, ev] at h
  have e0 : ∀ {α β γ : Type} (o : Out α) (f : α → Store → Out β) (g : β → Store → Out γ), (o.bind f).bind g = o.bind fun a st => (f a st).bind g := fun o f g => by cases o <;> rfl
  rw [e0] at h
  refine ⟨W, st, σd, sim, rs, (h.bind (Rep T)).imp ?_⟩
  rintro v H1 ⟨W1, d1, st1, le1, sim1, r1, h1⟩
  rw [e0] at h1
  refine ⟨W1, st1, σd, sim1, rs.mono le1, (h1.bind (Rep T)).imp ?_⟩
  rintro u H2 ⟨W2, d2, st2, le2, sim2, r2, h2⟩
  cases hk : cmpD o st2 d1 d2 with
  | none => rw [hk] at h2; exact h2.elim
  | some k =>
    rw [hk] at h2
    refine ⟨W2, st2, d1, d2, sim2, r1.mono le2, r2, .bl k, (by show (cmpD o st2 d1 d2).map _ = _; rw [hk]; rfl), fun v W' H' le' sim' r' => ?_⟩
    cases rep_bl r'
    exact ⟨k, rfl, h2 k W' H' le' sim' rfl⟩
theorem bind_assoc {α β γ : Type} (o : Out α) (f : α → Store → Out β) (g : β → Store → Out γ) : (o.bind f).bind g = o.bind fun a st => (f a st).bind g := by cases o <;> rfl
/-- as a test, then the ways -/
theorem Pst.bindT {σ : L2.St} {W : Wd} {γ δ : Type} {S : Wd → γ → δ → Prop} {Q : δ → Hp → Prop} {σd : EnvD} {st : Store} {f : D → Bool → Store → Out γ}
    (h : Pst T XW σ W S ((ev a σd st).bind fun x st => (ofO (truD st x) st).bind fun k st => f x k st) Q) :
    Pst T XW σ W (Rep T) (ev a σd st) (fun v H => ∃ W1 d1 st1 k, W.le W1 ∧ Sim T W1 st1 H ∧ Rep T W1 d1 v ∧ truD st1 d1 = some k ∧ Pst T XW σ W1 S (f d1 k st1) Q) := by
  refine (h.bind (Rep T)).imp ?_
  rintro v H1 ⟨W1, d1, st1, le1, sim1, r1, h1⟩
  cases hk : truD st1 d1 with
  | none => rw [hk] at h1; exact h1.elim
  | some k => rw [hk] at h1; exact ⟨W1, d1, st1, k, le1, sim1, r1, hk, h1⟩
theorem c_and (C : Cond T XW P G c X) {r : List Expr} (ha : PE X x (tI T XW a)) (hb : PE X (.BoolOp .And (y :: r) pos) (tI T XW b)) : PE X (.BoolOp .And (x :: y :: r) pos) (tI T XW (.and a b)) := by
  refine PE.imp (pe_andT ha hb) ?_
  rintro σ H Q ⟨W, st, σd, sim, rs, h⟩
  simp only [ev] at h
  refine ⟨W, st, σd, sim, rs, h.bindT.imp ?_⟩
  rintro v H1 ⟨W1, d1, st1, k, le1, sim1, r1, hk, h1⟩
  refine ⟨k, tru_rep C.hK sim1 r1 hk, ?_⟩
  split at h1
  · rename_i e; rw [if_pos e]; exact ⟨W1, st1, σd, sim1, rs.mono le1, h1⟩
  · rename_i e; rw [if_neg e]; exact h1 v W1 H1 (.refl _) sim1 r1
theorem c_or (C : Cond T XW P G c X) {r : List Expr} (ha : PE X x (tI T XW a)) (hb : PE X (.BoolOp .Or (y :: r) pos) (tI T XW b)) : PE X (.BoolOp .Or (x :: y :: r) pos) (tI T XW (.or a b)) := by
  refine PE.imp (pe_orT ha hb) ?_
  rintro σ H Q ⟨W, st, σd, sim, rs, h⟩
  simp only [ev] at h
  refine ⟨W, st, σd, sim, rs, h.bindT.imp ?_⟩
  rintro v H1 ⟨W1, d1, st1, k, le1, sim1, r1, hk, h1⟩
  refine ⟨k, tru_rep C.hK sim1 r1 hk, ?_⟩
  split at h1
  · rename_i e; rw [if_pos e]; exact h1 v W1 H1 (.refl _) sim1 r1
  · rename_i e; rw [if_neg e]; exact ⟨W1, st1, σd, sim1, rs.mono le1, h1⟩
theorem c_not (C : Cond T XW P G c X) (ha : PE X x (tI T XW a)) : PE X (.UnaryOp .Not x pos) (tI T XW (.not a)) := by
  refine PE.imp (pe_notT ha) ?_
  rintro σ H Q ⟨W, st, σd, sim, rs, h⟩
  simp only [ev] at h
  refine ⟨W, st, σd, sim, rs, h.bindT.imp ?_⟩
  rintro v H1 ⟨W1, d1, st1, k, le1, sim1, r1, hk, h1⟩
  exact ⟨k, tru_rep C.hK sim1 r1 hk, h1 _ W1 H1 (.refl _) sim1 (.bl _)⟩
/-- a test, by its term's truth -/
theorem evt_bind {γ δ : Type} {S : Wd → γ → δ → Prop} {Q : δ → Hp → Prop} {σ : L2.St} {W : Wd} {σd : EnvD} {st : Store} {f : Bool → Store → Out γ}
    (h : Pst T XW σ W S ((ev a σd st).bind fun x st => (ofO (truD st x) st).bind fun k st => f k st) Q) :
    Pst T XW σ W (fun _ (a b : Bool) => a = b) (evt a σd st) (fun k H => ∃ W1 st1, W.le W1 ∧ Sim T W1 st1 H ∧ Pst T XW σ W1 S (f k st1) Q) := by
  have h' : Pst T XW σ W S ((evt a σd st).bind f) Q := by unfold evt; rw [bind_assoc]; exact h
  refine (h'.bind (fun _ (a b : Bool) => a = b)).imp ?_
  rintro k H1 ⟨W1, k', st1, le1, sim1, rfl, h1⟩
  exact ⟨W1, st1, le1, sim1, h1⟩
theorem c_ife (hc : PT X e (tIt T XW d)) (ha : PE X x (tI T XW a)) (hb : PE X y (tI T XW b)) : PE X (.IfExp e x y pos) (tI T XW (.ife d a b)) := by
  refine PE.imp (pe_ifExp hc ha hb) ?_
  rintro σ H Q ⟨W, st, σd, sim, rs, h⟩
  simp only [ev] at h
  refine ⟨W, st, σd, sim, rs, (evt_bind h).imp ?_⟩
  rintro k H1 ⟨W1, st1, le1, sim1, h1⟩
  split at h1
  · rename_i e; rw [if_pos e]; exact ⟨W1, st1, σd, sim1, rs.mono le1, h1⟩
  · rename_i e; rw [if_neg e]; exact ⟨W1, st1, σd, sim1, rs.mono le1, h1⟩
theorem t_not (ha : PT X x (tIt T XW a)) : PT X (.UnaryOp .Not x pos) (tIt T XW (.not a)) := by
  refine PT.imp (pt_not ha) ?_
  rintro σ H Q ⟨W, st, σd, sim, rs, h⟩
  simp only [evt, ev, bind_assoc] at h
  refine ⟨W, st, σd, sim, rs, (evt_bind h).imp ?_⟩
  rintro k H1 ⟨W1, st1, le1, sim1, h1⟩
  exact h1 _ W1 H1 (.refl _) sim1 rfl
theorem t_and {r : List Expr} (ha : PT X x (tIt T XW a)) (hb : PW X (.BoolOp .And (y :: r) pos) (tIt T XW b)) : PW X (.BoolOp .And (x :: y :: r) pos) (tIt T XW (.and a b)) := by
  refine PW.imp (pw_and ha hb) ?_
  rintro σ H Q ⟨W, st, σd, sim, rs, h⟩
  have h' : Pst T XW σ W (fun _ (a b : Bool) => a = b) ((evt a σd st).bind fun k st => if k = true then evt b σd st else .ok false st) Q := by
    have e : (evt (.and a b) σd st) = ((evt a σd st).bind fun k st => if k = true then evt b σd st else .ok false st) := by
      simp only [evt, ev, bind_assoc]
      congr 1
      funext x st1
      cases hk : truD st1 x with
      | none => rfl
      | some k =>
        cases k with
        | false => show ofO (truD st1 x) st1 = .ok false st1; rw [hk]; rfl
        | true => rfl
    rw [← e]; exact h
  refine ⟨W, st, σd, sim, rs, (h'.bind (fun _ (a b : Bool) => a = b)).imp ?_⟩
  rintro k H1 ⟨W1, k', st1, le1, sim1, rfl, h1⟩
  split at h1
  · rename_i e; rw [if_pos e]; exact ⟨W1, st1, σd, sim1, rs.mono le1, h1⟩
  · rename_i e; rw [if_neg e]; exact h1 _ W1 H1 (.refl _) sim1 rfl
theorem t_or {r : List Expr} (ha : PT X x (tIt T XW a)) (hb : PW X (.BoolOp .Or (y :: r) pos) (tIt T XW b)) : PW X (.BoolOp .Or (x :: y :: r) pos) (tIt T XW (.or a b)) := by
  refine PW.imp (pw_or ha hb) ?_
  rintro σ H Q ⟨W, st, σd, sim, rs, h⟩
  have h' : Pst T XW σ W (fun _ (a b : Bool) => a = b) ((evt a σd st).bind fun k st => if k = true then .ok true st else evt b σd st) Q := by
    have e : (evt (.or a b) σd st) = ((evt a σd st).bind fun k st => if k = true then .ok true st else evt b σd st) := by
      simp only [evt, ev, bind_assoc]
      congr 1
      funext x st1
      cases hk : truD st1 x with
      | none => rfl
      | some k =>
        cases k with
        | true => show ofO (truD st1 x) st1 = .ok true st1; rw [hk]; rfl
        | false => rfl
    rw [← e]; exact h
  refine ⟨W, st, σd, sim, rs, (h'.bind (fun _ (a b : Bool) => a = b)).imp ?_⟩
  rintro k H1 ⟨W1, k', st1, le1, sim1, rfl, h1⟩
  split at h1
  · rename_i e; rw [if_pos e]; exact h1 _ W1 H1 (.refl _) sim1 rfl
  · rename_i e; rw [if_neg e]; exact ⟨W1, st1, σd, sim1, rs.mono le1, h1⟩
end
end Ip
set_option Elab.async false
set_option linter.all false
set_option maxRecDepth 100000
set_option maxHeartbeats 400000
/-! Terms, one by one: chains, displays, subscripts, calls, comprehensions. -/
namespace Ip
open PySem PySem.Spec PyProof.Rows L2

section
variable {T : Tb} {XW : WX} {P : Nat → List D → Fn → Prop} {G : Nat → D → Prop} {c : Cfg} {X : Cx} {e x y z : Expr} {a b d : IE} {pos : Pos}
/-! ### chains -/
theorem chain_read (C : Cond T XW P G c X) {o1 o2 : CO} {σ : L2.St} {H : Hp} {Q : VK} (h : tI T XW (.chain o1 o2 a b d) σ H Q) :
    tChain (rV2 T (fun st a b => (cmpD o1 st a b).map .bl)) (rV2 T (fun st a b => (cmpD o2 st a b).map .bl)) (tI T XW a) (tI T XW b) (tI T XW d) σ H Q := by
  obtain ⟨W, st, σd, sim, rs, h⟩ := h
  simp only [ev] at h
  refine ⟨W, st, σd, sim, rs, (h.bind (Rep T)).imp ?_⟩
  rintro v H1 ⟨W1, d1, st1, le1, sim1, r1, h1⟩
  refine ⟨W1, st1, σd, sim1, rs.mono le1, (h1.bind (Rep T)).imp ?_⟩
  rintro u H2 ⟨W2, d2, st2, le2, sim2, r2, h2⟩
  cases hk : cmpD o1 st2 d1 d2 with
  | none => rw [hk] at h2; exact h2.elim
  | some k =>
    rw [hk] at h2
    refine ⟨W2, st2, d1, d2, sim2, r1.mono le2, r2, .bl k, (by show (cmpD o1 st2 d1 d2).map _ = _; rw [hk]; rfl), fun v' W3 H3 le3 sim3 r3 => ?_⟩
    cases rep_bl r3
    refine ⟨k, rfl, ?_⟩
    have h3 := Pst.mono le3 h2
    change Pst T XW σ W3 (Rep T) (if k = true then _ else _) Q at h3
    split at h3
    · rename_i e
      rw [if_pos e]
      refine ⟨W3, st2, σd, sim3, ((rs.mono le1).mono le2).mono le3, (h3.bind (Rep T)).imp ?_⟩
      rintro w H4 ⟨W4, d4, st4, le4, sim4, r4, h4⟩
      obtain ⟨dd, e, h5⟩ := ofO_ok h4
      exact ⟨W4, st4, d2, d4, sim4, (r2.mono le3).mono le4, r4, dd, e, h5⟩
    · rename_i e
      rw [if_neg e]
      exact h3 _ W3 H3 (.refl _) sim3 (.bl _)
theorem c_chain (C : Cond T XW P G c X) {o1 o2 : CO} (ha : PE X x (tI T XW a)) (hb : PE X y (tI T XW b)) (hd : PE X z (tI T XW d)) (hm : lastMarks [o1.op, o2.op] [y, z] = false) : PE X (.Compare x [o1.op, o2.op] [y, z] pos) (tI T XW (.chain o1 o2 a b d)) :=
  PE.imp (pe_chain (op_cmp C.hK C.hu64 o1) (op_cmp C.hK C.hu64 o2) ha hb hd hm) fun σ H Q h => chain_read C h
/-- from a value's reading to a test's, where the value is a bool -/
theorem t_of_bl {t : IE} {σ : L2.St} {H : Hp} {Q : Bool → Hp → Prop} (h : tIt T XW t σ H Q) (hb : ∀ σd st d st', ev t σd st = .ok d st' → ∃ k, d = .bl k) : tI T XW t σ H (fun x H' => ∃ k, x = .bl k ∧ Q k H') := by
  obtain ⟨W, st, σd, sim, rs, h⟩ := h
  refine ⟨W, st, σd, sim, rs, ?_⟩
  unfold evt at h
  cases e : ev t σd st with
  | stuck => rw [e] at h; exact h
  | raise x st' => rw [e] at h; exact h
  | ok d st' =>
    obtain ⟨k, rfl⟩ := hb σd st d st' e
    rw [e] at h
    intro v W' H' le s r
    cases rep_bl r
    exact ⟨k, rfl, h k W' H' le s rfl⟩
theorem bind_ok {α β : Type} {o : Out α} {f : α → Store → Out β} {b : β} {st : Store} (h : o.bind f = .ok b st) : ∃ a st', o = .ok a st' ∧ f a st' = .ok b st := by
  cases o with
  | ok a st' => exact ⟨a, st', rfl, h⟩
  | raise x s => cases h
  | stuck => cases h
theorem ofO_bl {o : Option Bool} {st st' : Store} {d : D} (h : ofO (o.map D.bl) st = .ok d st') : ∃ k, d = .bl k := by
  cases o with
  | none => cases h
  | some k => cases h; exact ⟨k, rfl⟩
theorem t_chain (C : Cond T XW P G c X) {o1 o2 : CO} (ha : PE X x (tI T XW a)) (hb : PE X y (tI T XW b)) (hd : PE X z (tI T XW d)) (hm : lastMarks [o1.op, o2.op] [y, z] = false) : PT X (.Compare x [o1.op, o2.op] [y, z] pos) (tIt T XW (.chain o1 o2 a b d)) := by
  refine PT.imp (pt_chain (op_cmp C.hK C.hu64 o1) (op_cmp C.hK C.hu64 o2) ha hb hd hm) fun σ H Q h => ?_
  refine chain_read C (t_of_bl h fun σd st dd st' e => ?_)
  simp only [ev] at e
  obtain ⟨_, _, _, e⟩ := bind_ok e
  obtain ⟨_, _, _, e⟩ := bind_ok e
  obtain ⟨k, _, _, e⟩ := bind_ok e
  split at e
  · obtain ⟨_, _, _, e⟩ := bind_ok e
    exact ofO_bl e
  · cases e; exact ⟨_, rfl⟩

/-! ### argument lists, displays -/
theorem a_nil : PA X [] (tIs T XW .nil) := by
  refine PA.imp pa_nil ?_
  rintro σ H Q ⟨W, st, σd, sim, rs, h⟩
  simp only [evs] at h
  exact h [] W H (.refl _) sim .nil
theorem a_cons {es : List Expr} {is : IEs} (ha : PE X x (tI T XW a)) (hr : PA X es (tIs T XW is)) (hs : noStar x = true) : PA X (x :: es) (tIs T XW (.cons a is)) := by
  refine PA.imp (pa_cons ha hr (star_cons hs)) ?_
  rintro σ H Q ⟨W, st, σd, sim, rs, h⟩
  simp only [evs] at h
  refine ⟨W, st, σd, sim, rs, (h.bind (Rep T)).imp ?_⟩
  rintro v H1 ⟨W1, d1, st1, le1, sim1, r1, h1⟩
  refine ⟨W1, st1, σd, sim1, rs.mono le1, (h1.bind (RepA T)).imp ?_⟩
  rintro us H2 ⟨W2, d2, st2, le2, sim2, r2, h2⟩
  exact h2 _ W2 H2 (.refl _) sim2 (.cons (r1.mono le2) r2)
theorem c_tup {es : List Expr} {is : IEs} {x1} (ha : PA X es (tIs T XW is)) : PE X (.Tuple es x1 pos) (tI T XW (.tup is)) := by
  refine PE.imp (pe_tup ha) ?_
  rintro σ H Q ⟨W, st, σd, sim, rs, h⟩
  simp only [ev] at h
  refine ⟨W, st, σd, sim, rs, (h.bind (RepA T)).imp ?_⟩
  rintro vs H1 ⟨W1, ds, st1, le1, sim1, r1, h1⟩
  split at h1
  · rename_i hz
    refine ⟨by rw [← r1.length]; exact szOk.le hz, fun p hp => ?_⟩
    obtain ⟨W', le, s', r'⟩ := sim1.newT hp r1
    exact h1 _ W' _ le s' r'
  · exact h1.elim
theorem c_lst {es : List Expr} {is : IEs} {t : Bool} (ha : PA X es (tIs T XW is)) : PE X (.List es pos) (tI T XW (.lst t is)) := by
  refine PE.imp (pe_lst ha) ?_
  rintro σ H Q ⟨W, st, σd, sim, rs, h⟩
  simp only [ev] at h
  refine ⟨W, st, σd, sim, rs, (h.bind (RepA T)).imp ?_⟩
  rintro vs H1 ⟨W1, ds, st1, le1, sim1, r1, h1⟩
  split at h1
  · rename_i hz
    refine ⟨by rw [← r1.length]; exact szOk.le hz, fun p hp => ?_⟩
    unfold newLst at h1
    split at h1
    · obtain ⟨le, s'⟩ := sim1.newCell hp r1
      exact h1 _ _ _ le s' (.ref (p := (p, p)) (by show (W1.φ ++ [(p, p)])[st1.length]? = _; rw [← sim1.len]; simp))
    · obtain ⟨W', le, s', r'⟩ := sim1.newL hp r1
      exact h1 _ W' _ le s' r'
  · exact h1.elim

/-! ### subscripts -/
theorem plainIx_of {b : Expr} (h : noSlice b = true) : PlainIx b := by
  intro o i
  cases b <;> first | rfl | cases h
theorem atI_rep {W : Wd} {ds : List D} {xs : List V} {i : Int} {d : D} (r : RepA T W ds xs) (e : atI ds i = some d) : ∃ v, atI xs i = some v ∧ Rep T W d v := by
  unfold atI at e ⊢
  rw [r.length] at e
  obtain ⟨j, e1, e2⟩ := Option.bind_eq_some_iff.mp e
  obtain ⟨v, e3, r2⟩ := r.get e2
  exact ⟨v, by rw [e1]; exact e3, r2⟩
theorem ix_sub (hK : T.K = X.K) : IxR X (rV2 T subD) := by
  intro value slice pins s σ H x y v u Q I rx ry h hs
  obtain ⟨W, st, a, b, sim, ra, rb, d, e, q⟩ := h
  unfold subD at e
  split at e
  · rename_i i
    cases rep_int rb
    split at e
    · rename_i z
      cases rep_str ra
      split at e
      · rename_i hz
        obtain ⟨k, e1, e2⟩ := Option.map_eq_some_iff.mp e
        subst e2
        exact ix_str value slice pins s σ H _ _ v u Q I rx ry ⟨z, i, k, rfl, rfl, szOk.le hz, e1, q _ W H (.refl _) sim (.str _)⟩ hs
      · cases e
    · split at e
      · rename_i ds e1
        obtain ⟨p, xs, rfl, hx, r2⟩ := seqOf_rep sim ra e1
        obtain ⟨w, e2, r3⟩ := atI_rep r2 e
        rcases hx with hx | hx
        · exact ix_list value slice pins s σ H _ _ v u Q I rx ry ⟨p, xs, i, w, rfl, rfl, hK ▸ hx, e2, q w W H (.refl _) sim r3⟩ hs
        · exact ix_tup value slice pins s σ H _ _ v u Q I rx ry ⟨p, xs, i, w, rfl, rfl, hK ▸ hx, e2, q w W H (.refl _) sim r3⟩ hs
      · cases e
  · cases e
theorem c_sub (C : Cond T XW P G c X) (ha : PE X x (tI T XW a)) (hb : PE X y (tI T XW b)) (hs : noSlice y = true) : PE X (.Subscript x y pos) (tI T XW (.sub a b)) :=
  two (g := subD) ha hb (pe_ix (ix_sub C.hK) ha hb (plainIx_of hs)) fun σ st => by simp only [ev]
/-- a slice's bound -/
def tIo (T : Tb) (XW : WX) (a : IE) : TO := fun σ H Q => ∃ W st σd, Sim T W st H ∧ RepS T W σ σd ∧ Pst T XW σ W (fun _ (a b : Option Int) => a = b) (evo a σd st) Q
theorem PO.imp {e : Option Expr} {t t' : TO} (h : PO X e t) (k : ∀ σ H Q, t' σ H Q → t σ H Q) : PO X e t' := ⟨fun pins s σ H Q I q => h.run pins s σ H Q I (k σ H Q q)⟩
theorem o_none : PO X none (tIo T XW .no) := by
  refine PO.imp po_none ?_
  rintro σ H Q ⟨W, st, σd, sim, rs, h⟩
  simp only [evo] at h
  exact h none W H (.refl _) sim rfl
theorem o_some (ha : PE X x (tI T XW a)) (hn : a ≠ .no) : PO X (some x) (tIo T XW a) := by
  refine PO.imp (po_some ha) ?_
  rintro σ H Q ⟨W, st, σd, sim, rs, h⟩
  have h' : Pst T XW σ W (fun _ (a b : Option Int) => a = b) ((ev a σd st).bind fun x st => match x with
    | .int i => .ok (some i) st
    | _ => .stuck) Q := by
    cases a <;> first | (simp only [evo] at h; exact h) | exact absurd rfl hn
  refine ⟨W, st, σd, sim, rs, (h'.bind (Rep T)).imp ?_⟩
  rintro v H1 ⟨W1, d1, st1, le1, sim1, r1, h1⟩
  cases d1 <;> first | exact h1.elim | skip
  cases rep_int r1
  exact ⟨_, rfl, h1 _ W1 H1 (.refl _) sim1 rfl⟩
def rSl (T : Tb) : V → Option Int → Option Int → Hp → VK → Prop := fun x lo hi H Q => ∃ W st a, Sim T W st H ∧ Rep T W a x ∧ ∃ d, sliceD st a lo hi = some d ∧ ∀ v W' H', W.le W' → Sim T W' st H' → Rep T W' d v → Q v H'
theorem cutD_whole {α : Type} {xs : List α} {lo hi : Option Int} (h : HT.sIx xs.length 0 lo = 0 ∧ HT.sIx xs.length xs.length hi = xs.length) : cutD xs lo hi = xs := by
  unfold cutD
  rw [h.1, h.2]
  simp
theorem sl_all (hK : T.K = X.K) : SlR X (rSl T) := by
  intro pins s σ H x v vl vu lo hi sl Q I rx hs pl pu h
  obtain ⟨W, st, a, sim, ra, d, e, q⟩ := h
  unfold sliceD at e
  split at e
  · cases rep_str ra
    split at e
    · rename_i hz
      cases e
      exact sl_str pins s σ H _ v vl vu lo hi sl Q I rx hs pl pu ⟨_, rfl, szOk.le hz, q _ W H (.refl _) sim (.str _)⟩
    · cases e
  · obtain ⟨p, xs, rfl, hx, r2⟩ := rep_lst ra
    cases e
    refine sl_list pins s σ H _ v vl vu lo hi sl Q I rx hs pl pu ⟨p, xs, rfl, hK ▸ sim.sub.seq hx, fun p hp => ?_⟩
    obtain ⟨W', le, s', r'⟩ := sim.newL hp (r2.cut lo hi)
    exact q _ W' _ le s' r'
  · obtain ⟨p, xs, rfl, hx, r2⟩ := rep_tup ra
    cases e
    refine sl_tupA pins s σ H _ v vl vu lo hi sl Q I rx hs pl pu ⟨p, xs, rfl, hK ▸ Same.tup sim.sub hx, fun hw => ?_, fun _ p hp => ?_⟩
    · rw [← r2.length] at hw
      exact q _ W H (.refl _) sim (by rw [cutD_whole hw]; exact ra)
    · obtain ⟨W', le, s', r'⟩ := sim.newT hp (r2.cut lo hi)
      exact q _ W' _ le s' r'
  · split at e
    · obtain ⟨p, rfl, hp⟩ := rep_ref ra
      rename_i hn
      obtain ⟨xs, hx, r2, _⟩ := sim.cell _ _ p hn hp
      cases e
      refine sl_list pins s σ H _ v vl vu lo hi sl Q I rx hs pl pu ⟨p.1, xs, rfl, SqL.of hx, fun p hp => ?_⟩
      obtain ⟨W', le, s', r'⟩ := sim.newL hp (r2.cut lo hi)
      exact q _ W' _ le s' r'
    · cases e
  · cases e
theorem c_slice (C : Cond T XW P G c X) {lo hi : IE} {l h : Option Expr} {p2 : Pos} (ha : PE X x (tI T XW a)) (hl : PO X l (tIo T XW lo)) (hh : PO X h (tIo T XW hi)) : PE X (.Subscript x (.Slice l h none p2) pos) (tI T XW (.slice a lo hi)) := by
  refine PE.imp (pe_slice (sl_all C.hK) ha hl hh) ?_
  rintro σ H Q ⟨W, st, σd, sim, rs, h⟩
  simp only [ev] at h
  refine ⟨W, st, σd, sim, rs, (h.bind (Rep T)).imp ?_⟩
  rintro v H1 ⟨W1, d1, st1, le1, sim1, r1, h1⟩
  refine ⟨W1, st1, σd, sim1, rs.mono le1, (h1.bind (fun _ (a b : Option Int) => a = b)).imp ?_⟩
  rintro i H2 ⟨W2, i', st2, le2, sim2, rfl, h2⟩
  refine ⟨W2, st2, σd, sim2, (rs.mono le1).mono le2, (h2.bind (fun _ (a b : Option Int) => a = b)).imp ?_⟩
  rintro j H3 ⟨W3, j', st3, le3, sim3, rfl, h3⟩
  obtain ⟨dd, e, h4⟩ := ofO_ok h3
  exact ⟨W3, st3, d1, sim3, (r1.mono le2).mono le3, dd, e, h4⟩
theorem c_rev (C : Cond T XW P G c X) {k : Nat} {p1 p2 p3 : Pos} (ha : PE X x (tI T XW a)) : PE X (.Subscript x (.Slice none none (some (.UnaryOp .USub (.Constant (.int 1) k p1) p2)) p3) pos) (tI T XW (.rev a)) := by
  refine PE.imp (pe_revL ha) ?_
  rintro σ H Q ⟨W, st, σd, sim, rs, h⟩
  simp only [ev] at h
  refine ⟨W, st, σd, sim, rs, (h.bind (Rep T)).imp ?_⟩
  rintro v H1 ⟨W1, d1, st1, le1, sim1, r1, h1⟩
  split at h1
  · obtain ⟨p, xs, rfl, hx, r2⟩ := rep_lst r1
    refine ⟨p, xs, rfl, C.hK ▸ sim1.sub.seq hx, fun p hp => ?_⟩
    obtain ⟨W', le, s', r'⟩ := sim1.newL hp r2.reverse
    exact h1 _ W' _ le s' r'
  · split at h1
    · obtain ⟨p, rfl, hp⟩ := rep_ref r1
      rename_i hn
      obtain ⟨xs, hx, r2, _⟩ := sim1.cell _ _ p hn hp
      refine ⟨p.1, xs, rfl, SqL.of hx, fun p hp => ?_⟩
      obtain ⟨W', le, s', r'⟩ := sim1.newL hp r2.reverse
      exact h1 _ W' _ le s' r'
    · exact h1.elim
  · exact h1.elim

/-! ### calls -/
theorem c_call (C : Cond T XW P G c X) {i : Nat} {dv : List D} {sm : Fn} {n : Str} {p : Pos} {es : List Expr} {is : IEs} (hp : P i dv sm) (h0 : c.kd i = .fn) (h1 : c.fn i = n) (h2 : glB c.sc n = true) (h3 : nmOk n = true) (ha : PA X (x :: es) (tIs T XW is)) (hc : chkEs c is (x :: es) = true) :
    PE X (.Call (.Name n p) (x :: es) [] pos) (tI T XW (.call i dv sm is)) := by
  obtain ⟨k, f, fd, ps, ds, dvs, F, hat, hb, hd, hdv, hr2⟩ := (C.fn i dv sm hp).ex
  rw [h0] at hat
  obtain ⟨hm, hkp⟩ := hat
  have hr : Room k X.A := hr2.mono (by omega)
  subst h1
  refine ⟨fun pins s σ H Q I h => ?_⟩
  obtain ⟨W, st, σd, sim, rs, h⟩ := h
  simp only [ev] at h
  have hst : noStar x = true := by cases is with
    | nil => simp [chkEs] at hc
    | cons _ _ => simp only [chkEs, Bool.and_eq_true] at hc; exact hc.1.2
  have hpl : (backTo pos (starEach es X.env)).any (·.1) = false := by cases is with
    | nil => simp [chkEs] at hc
    | cons _ _ => simp only [chkEs, Bool.and_eq_true] at hc; exact plain_args hc.2
  refine wpAny_Call_Name_kw (ld_glob I (C.gl' h2) hm ?_ (nmOk.l h3))
  refine PySem.W.callWith_K (h₀ := X.base) I.ok.mod.kin hkp (thn (ha.run pos pins s σ H _ I ⟨W, st, σd, sim, rs, h.bind (RepA T)⟩) fun us s1 ⟨vs, H1, I1, r, q⟩ => ⟨I1.kIn, ?_⟩) (star_cons hst) hpl
  obtain ⟨W1, xs, st1, le1, sim1, r1, h1⟩ := q
  refine run_fnG (E := WE XW σ) F hr C.gd hb hd (passAt C.tk σ) I1 r ⟨W1, st1, xs ++ dv, sim1, r1.append (hdv W1), ?_⟩
  cases e : sm (xs ++ dv) st1 with
  | ok a st => rw [e] at h1; exact h1
  | raise a st => rw [e] at h1; exact h1
  | stuck => rw [e] at h1; exact h1
theorem c_blt (C : Cond T XW P G c X) {b : Blt} {n : Str} {p : Pos} {es : List Expr} {is : IEs} (h0 : c.bk b = true) (h1 : b.nm = n) (h2 : glB c.sc n = true) (h3 : nmOk n = true) (ha : PA X (x :: es) (tIs T XW is)) (hc : chkEs c is (x :: es) = true) :
    PE X (.Call (.Name n p) (x :: es) [] pos) (tI T XW (.blt b is)) := by
  subst h1
  have hst : noStar x = true := by cases is with
    | nil => simp [chkEs] at hc
    | cons _ _ => simp only [chkEs, Bool.and_eq_true] at hc; exact hc.1.2
  have hpl : (backTo pos (starEach es X.env)).any (·.1) = false := by cases is with
    | nil => simp [chkEs] at hc
    | cons _ _ => simp only [chkEs, Bool.and_eq_true] at hc; exact plain_args hc.2
  have rd : ∀ σ H Q, tI T XW (.blt b is) σ H Q → tCB (rBl T b) (tIs T XW is) σ H Q := by
    rintro σ H Q ⟨W, st, σd, sim, rs, h⟩
    simp only [ev] at h
    refine ⟨W, st, σd, sim, rs, (h.bind (RepA T)).imp ?_⟩
    rintro vs H1 ⟨W1, ds, st1, le1, sim1, r1, h1⟩
    obtain ⟨dd, e, h2⟩ := ofO_ok h1
    exact ⟨W1, st1, ds, sim1, r1, dd, e, h2⟩
  have cb := call_blt C.hK C.calm C.gd C.hu b
  have m := C.bl b h0
  cases b
  case gcd => exact PE.imp (pe_callBfun (id := "math.gcd") cb (C.gl' h2) m ha (nmOk.l h3) (star_cons hst) hpl) rd
  case int => exact PE.imp (pe_callTy (T := "int") cb (C.gl' h2) m (by decide +kernel) ha (by decide) (nmOk.l h3) (star_cons hst) hpl) rd
  case str => exact PE.imp (pe_callTy (T := "str") cb (C.gl' h2) m (by decide +kernel) ha (by decide) (nmOk.l h3) (star_cons hst) hpl) rd
  case tuple => exact PE.imp (pe_callTy (T := "tuple") cb (C.gl' h2) m (by decide +kernel) ha (by decide) (nmOk.l h3) (star_cons hst) hpl) rd
  case bool => exact PE.imp (pe_callTy (T := "bool") cb (C.gl' h2) m (by decide +kernel) ha (by decide) (nmOk.l h3) (star_cons hst) hpl) rd
  all_goals exact PE.imp (pe_callB cb (C.gl' h2) m (by decide +kernel) ha (by decide) (nmOk.l h3) (star_cons hst) hpl) rd
theorem c_fz (ha : PE X x (tI T XW a)) : PE X x (tI T XW (.fz a)) := by
  refine PE.imp ha ?_
  rintro σ H Q ⟨W, st, σd, sim, rs, h⟩
  simp only [ev] at h
  refine ⟨W, st, σd, sim, rs, (h.bind (Rep T)).imp ?_⟩
  rintro v H1 ⟨W1, d1, st1, le1, sim1, r1, h1⟩
  split at h1
  · rename_i d2 st2 e
    unfold freeze at e
    split at e
    · split at e
      · rename_i hn
        cases e
        obtain ⟨p, rfl, hp⟩ := rep_ref r1
        obtain ⟨W2, le2, sim2, r2⟩ := sim1.freeze hn hp
        exact h1 _ W2 H1 le2 sim2 r2
      · cases e
    · cases e
      exact h1 _ W1 H1 (.refl _) sim1 r1
  · exact h1.elim
end
end Ip
set_option Elab.async false
set_option linter.all false
set_option maxRecDepth 100000
set_option maxHeartbeats 400000
/-! Targets, isinstance, methods, what is walked, comprehensions. -/
namespace Ip
open PySem PySem.Spec PyProof.Rows L2

section
variable {T : Tb} {XW : WX} {P : Nat → List D → Fn → Prop} {G : Nat → D → Prop} {c : Cfg} {X : Cx} {e x y z : Expr} {a b d : IE} {pos : Pos}
theorem t_ife (hc : PT X e (tIt T XW d)) (ha : PT X x (tIt T XW a)) (hb : PT X y (tIt T XW b)) : PT X (.IfExp e x y pos) (tIt T XW (.ife d a b)) := by
  refine ⟨fun pins s σ H Q I h => ?_⟩
  obtain ⟨W, st, σd, sim, rs, h⟩ := h
  simp only [evt, ev, bind_assoc] at h
  refine isTrue_IfExp (thn (hc.run pins s σ H _ I ⟨W, st, σd, sim, rs, evt_bind (f := fun k st => (if k = true then ev a σd st else ev b σd st).bind fun x st => ofO (truD st x) st) h⟩) fun k s1 ⟨H1, I1, W1, st1, le1, sim1, h1⟩ => ?_)
  cases k with
  | true => exact ha.run pins s1 σ H1 Q I1 ⟨W1, st1, σd, sim1, rs.mono le1, h1⟩
  | false => exact hb.run pins s1 σ H1 Q I1 ⟨W1, st1, σd, sim1, rs.mono le1, h1⟩
theorem c_dct0 : PE X (.Dict [] [] pos) (tI T XW .dct0) := by
  refine PE.imp pe_dnewK ?_
  rintro σ H Q ⟨W, st, σd, sim, rs, h⟩
  simp only [ev] at h
  intro p hp
  obtain ⟨le, s'⟩ := sim.new (o := .dK []) hp
  exact h _ _ _ le s' (.dct0 (by show upd W.F p _ p = _; rw [upd_same]))

/-! ### targets -/
def gT (T : Tb) (t : IT) : TG := fun v σ H Q => ∃ W st σd d σd', Sim T W st H ∧ RepS T W σ σd ∧ Rep T W d v ∧ asgT st t d σd = some σd' ∧
  ∀ σ', RepS T W σ' σd' → σ'.length = σ.length → (∀ j, j ∉ t.vars → σ'[j]? = σ[j]?) → Q σ' H
theorem PG.imp {tg : Expr} {t t' : TG} (h : PG X tg t) (k : ∀ v σ H Q, t' v σ H Q → t v σ H Q) : PG X tg t' := ⟨fun pins s σ H v u Q I r q => h.run pins s σ H v u Q I r (k v σ H Q q)⟩
def gAll : List Nat → TGs
  | [] => gNil
  | i :: is => gCons (gName i) (gAll is)
theorem chkTs_cons {own : Option (List Nat)} {is : List Nat} {e : Expr} {es : List Expr} (h : chkTs c own is (e :: es) = true) : ∃ i r n p, is = i :: r ∧ e = .Name n p ∧ chkN c own i n = true ∧ chkTs c own r es = true := by
  cases is with
  | nil => simp [chkTs] at h
  | cons i r =>
    cases e <;> first | (simp only [chkTs] at h; cases h; done) | skip
    simp only [chkTs, Bool.and_eq_true] at h
    exact ⟨_, _, _, _, rfl, rfl, h.1, h.2⟩
theorem chkTs_nil {own : Option (List Nat)} {is : List Nat} (h : chkTs c own is [] = true) : is = [] := by
  cases is with
  | nil => rfl
  | cons _ _ => simp [chkTs] at h
theorem names_len {own : Option (List Nat)} {env : Env} : ∀ {es : List Expr} {is : List Nat}, chkTs c own is es = true → es.length = is.length ∧ (assignEach es env).length = is.length ∧ (assignEach es env).findIdx? (·.1) = none := by
  intro es
  induction es with
  | nil => intro is h; rw [chkTs_nil h]; exact ⟨rfl, rfl, rfl⟩
  | cons e es ih =>
    intro is h
    obtain ⟨i, r, n, p, rfl, rfl, _, h⟩ := chkTs_cons h
    obtain ⟨h1, h2, h3⟩ := ih h
    refine ⟨by rw [List.length_cons, List.length_cons, h1], ?_, ?_⟩
    · show (_ :: assignEach es env).length = _
      rw [List.length_cons, List.length_cons, h2]
    · show List.findIdx? (·.1) ((false, _) :: assignEach es env) = none
      rw [List.findIdx?_cons, h3]
      rfl
theorem chkN.at (C : Cond T XW P G c X) {own : Option (List Nat)} {i : Nat} {n : Str} (h : chkN c own i n = true) : X.N[i]? = some n ∧ Loc X.env.scope n ∧ (X.fn n = true ∨ X.env.scope.names.lookup n = some .local) := by
  simp only [chkN, Bool.and_eq_true, decide_eq_true_eq] at h
  obtain ⟨h1, h2⟩ := C.wr n h.1.2
  exact ⟨by rw [C.N]; exact h.1.1, h1, h2⟩
theorem names_pg (C : Cond T XW P G c X) {own : Option (List Nat)} : ∀ {es : List Expr} {is : List Nat}, chkTs c own is es = true → PGs X es (gAll is) := by
  intro es
  induction es with
  | nil => intro is h; rw [chkTs_nil h]; exact pgs_nil
  | cons e es ih =>
    intro is h
    obtain ⟨i, r, n, p, rfl, rfl, h0, h⟩ := chkTs_cons h
    obtain ⟨h1, h2, h3⟩ := chkN.at C h0
    exact pgs_cons (pg_name C.nd h1 h2 h3) (ih h)
theorem gAll_of {W : Wd} {H : Hp} : ∀ {is : List Nat} {ds : List D} {vs : List V} {σ : L2.St} {σd σd' : EnvD} {Q : L2.St → Hp → Prop}, RepS T W σ σd → RepA T W ds vs → setAll is ds σd = some σd' →
    (∀ σ', RepS T W σ' σd' → σ'.length = σ.length → (∀ j, j ∉ is → σ'[j]? = σ[j]?) → Q σ' H) → gAll is vs σ H Q
  | [], [], _, σ, σd, σd', Q, rs, .nil, e, q => by
    cases e
    exact ⟨rfl, q σ rs rfl fun _ _ => rfl⟩
  | i :: is, d :: ds, _, σ, σd, σd', Q, rs, .cons r ra, e, q => by
    refine ⟨_, _, rfl, ?_⟩
    rw [setAll] at e
    refine gAll_of (rs.set i r) ra e fun σ' rs' hl hj => q σ' rs' (by rw [hl, List.length_set]) fun j hn => ?_
    simp only [List.mem_cons, not_or] at hn
    rw [hj j hn.2, List.getElem?_set_ne (fun z => hn.1 z.symm)]
  | [], _ :: _, _, _, _, _, _, _, _, e, _ => by simp [setAll] at e
  | _ :: _, [], _, _, _, _, _, _, _, e, _ => by simp [setAll] at e
theorem setAll_len : ∀ {is : List Nat} {ds : List D} {σ σ' : EnvD}, setAll is ds σ = some σ' → ds.length = is.length
  | [], [], _, _, _ => rfl
  | _ :: is, _ :: ds, _, _, e => by rw [setAll] at e; rw [List.length_cons, List.length_cons, setAll_len e]
  | [], _ :: _, _, _, e => by simp [setAll] at e
  | _ :: _, [], _, _, e => by simp [setAll] at e
theorem c_tgt (C : Cond T XW P G c X) {own : Option (List Nat)} {t : IT} {tg : Expr} (h : chkT c own t tg = true) : PG X tg (gT T t) := by
  cases t with
  | nm i =>
    cases tg <;> first | (simp [chkT] at h; done) | skip
    rw [chkT] at h
    obtain ⟨h1, h2, h3⟩ := chkN.at C h
    refine PG.imp (pg_name C.nd h1 h2 h3) ?_
    rintro v σ H Q ⟨W, st, σd, d, σd', sim, rs, r, e, q⟩
    cases e
    exact q _ (rs.set i r) (by rw [List.length_set]) fun j hn => by
      rw [List.getElem?_set_ne (fun z => hn (by rw [IT.vars, List.mem_singleton]; exact z.symm))]
  | tp is =>
    cases tg <;> first | (simp [chkT] at h; done) | skip
    rw [chkT] at h
    obtain ⟨h1, h2, h3⟩ := names_len (env := X.env) h
    refine PG.imp (pg_tup C.calm (names_pg C h) h2 h3) ?_
    rintro v σ H Q ⟨W, st, σd, d, σd', sim, rs, r, e, q⟩
    unfold asgT at e
    simp only at e
    split at e
    · obtain ⟨p, xs, rfl, hx, r2⟩ := rep_tup r
      exact ⟨p, xs, rfl, C.hK ▸ Same.tup sim.sub hx, by rw [← r2.length, setAll_len e], gAll_of rs r2 e q⟩
    · cases e

/-! ### isinstance -/
theorem kit_all (t : Ty) : ∀ {s : String} {b : Bool}, (s = "NoneType" ∧ b = false) ∨ (s = "bool" ∧ b = decide (t = .int ∨ t = .bool)) ∨ (s = "int" ∧ b = decide (t = .int)) ∨ (s = "str" ∧ b = decide (t = .str)) ∨ (s = "tuple" ∧ b = decide (t = .tuple)) ∨ (s = "list" ∧ b = decide (t = .list)) ∨ (s = "dict" ∧ b = decide (t = .dict)) →
    kitB s t.id = some b := by
  rintro s b (⟨rfl, rfl⟩ | ⟨rfl, rfl⟩ | ⟨rfl, rfl⟩ | ⟨rfl, rfl⟩ | ⟨rfl, rfl⟩ | ⟨rfl, rfl⟩ | ⟨rfl, rfl⟩) <;> cases t <;> decide +kernel
theorem boot_ty (t : Ty) : bootBuiltins t.nm = some (.type t.id) := by cases t <;> decide +kernel
/-! ### methods of lists -/
theorem type_ap : typeOf (.builtin "list.append") = pure (.type "method_descriptor") := by show builtinType _ = _; rw [builtinType_eq_fast]; kernel_rfl
theorem type_pop : typeOf (.builtin "list.pop") = pure (.type "method_descriptor") := by show builtinType _ = _; rw [builtinType_eq_fast]; kernel_rfl
theorem isLst_cell {st : Store} {d : D} (h : isLst st d = true) : ∃ n xs, d = .ref n ∧ st[n]? = some (.lst xs) := by
  unfold isLst at h
  split at h
  · split at h
    · exact ⟨_, _, rfl, by assumption⟩
    · cases h
  · cases h
theorem base_of (h : notCall x = true) (n : Str) (env : Env) (whole : PySem.Sem Value) : attributeBase x n env whole = whole := by
  unfold attributeBase
  split
  · cases h
  · rfl
theorem few_args : ∀ {es : List Expr} {env : Env} {pos : Pos} {c : Cfg} {irs : IEs}, chkEs c irs es = true → (backTo pos (starEach es env)).all (fun x => !x.1) = true
  | [], _, _, _, _, _ => rfl
  | e :: es, env, pos, c, irs, h => by
    cases irs with
    | nil => simp [chkEs] at h
    | cons i is =>
      simp only [chkEs, Bool.and_eq_true] at h
      rw [star_cons h.1.2]
      show (true && (backTo pos (starEach es env)).all (fun x => !x.1)) = true
      rw [few_args h.2, Bool.and_true]
theorem c_mth (C : Cond T XW P G c X) {m : Mth} {n : Str} {es : List Expr} {is : IEs} {ap : Pos} (h0 : m ≠ .pop) (h1 : m.nm = n) (ho : PE X x (tI T XW a)) (ha : PA X (y :: es) (tIs T XW is)) (hc : chkEs c is (y :: es) = true) (h9 : es.length < 9) (hl : (ap.endLine == pos.line) = true) (hn : notCall x = true) :
    PE X (.Call (.Attribute x n ap) (y :: es) [] pos) (tI T XW (.mth m a is)) := by
  have hst : noStar y = true := by cases is with
    | nil => simp [chkEs] at hc
    | cons _ _ => simp only [chkEs, Bool.and_eq_true] at hc; exact hc.1.2
  have hpl : (backTo pos (starEach es X.env)).any (·.1) = false := by cases is with
    | nil => simp [chkEs] at hc
    | cons _ _ => simp only [chkEs, Bool.and_eq_true] at hc; exact plain_args hc.2
  have hfew : ((backTo pos (starEach (y :: es) X.env)).all (fun x => !x.1) && (backToKw pos (keywordEach [] X.env)).all (fun x => x.1.isSome)
      && decide ((y :: es).length + ([] : List Keyword).length + (if ([] : List Keyword).isEmpty then 0 else 1) < 30)) = true := by
    rw [few_args hc]
    have : decide ((y :: es).length + ([] : List Keyword).length + (if ([] : List Keyword).isEmpty then 0 else 1) < 30) = true := by
      rw [decide_eq_true_eq, List.length_cons]
      simp
      omega
    rw [this]
    rfl
  subst h1
  have rd : ∀ {r : V → List V → Hp → VK → Prop}, (∀ (W : Wd) (st : Store) (p : Nat) (zs : List D) (q : Addr × Addr) (H : Hp) (ds : List D) (vs : List V) (dd : D) (st' : Store) (Q : VK), Sim T W st H → st[p]? = some (.lst zs) → W.φ[p]? = some q → RepA T W ds vs → mthD m st (.ref p) ds = some (dd, st') →
      (∀ b W' H', W.le W' → Sim T W' st' H' → Rep T W' dd b → Q b H') → r (.ref q.1) vs H Q) → ∀ σ H Q, tI T XW (.mth m a is) σ H Q → tBM X.K "list" r (tI T XW a) (tIs T XW is) σ H Q := by
    intro r hr σ H Q ⟨W, st, σd, sim, rs, h⟩
    simp only [ev] at h
    refine ⟨W, st, σd, sim, rs, (h.bind (Rep T)).imp ?_⟩
    rintro v H1 ⟨W1, d1, st1, le1, sim1, r1, h1⟩
    split at h1
    · rename_i hL
      obtain ⟨p, zs, rfl, hp⟩ := isLst_cell hL
      obtain ⟨q, rfl, hq⟩ := rep_ref r1
      obtain ⟨xs, hx, _, _⟩ := sim1.cell _ _ q hp hq
      refine ⟨.inl ⟨rfl, xs, SqL.of hx⟩, W1, st1, σd, sim1, rs.mono le1, (h1.bind (RepA T)).imp ?_⟩
      rintro vs H2 ⟨W2, ds, st2, le2, sim2, r2, h2⟩
      have hq2 := le2.1.at hq
      cases e : mthD m st2 (.ref p) ds with
      | none => rw [e] at h2; exact h2.elim
      | some q' =>
        obtain ⟨dd, st'⟩ := q'
        rw [e] at h2
        have hp2 : ∃ zs2, st2[p]? = some (.lst zs2) := by
          unfold mthD at e
          split at e
          all_goals try (cases e; done)
          all_goals
            rename_i e0
            cases e0
            split at e
            · exact ⟨_, by assumption⟩
            · cases e
        obtain ⟨zs2, hp2⟩ := hp2
        exact hr W2 st2 p zs2 q H2 ds vs dd st' Q sim2 hp2 hq2 r2 e h2
    · exact h1.elim
  cases m
  case append =>
    refine PE.imp (pe_bm PySem.F.plainAttrs_list PySem.F.slot_list_append type_ap (mt_append (X := X)) ho ha (base_of hn _ _ _) hfew hl (star_cons hst) hpl) (rd ?_)
    intro W st p zs q H ds vs dd st' Q sim hp hq ra e k
    cases ds with
    | nil => simp [mthD] at e
    | cons y0 r0 =>
      cases r0 with
      | cons _ _ => simp [mthD] at e
      | nil =>
        simp only [mthD, hp] at e
        split at e
        · rename_i hz
          cases e
          obtain ⟨v, rfl, r⟩ := repA1 ra
          obtain ⟨xs, hx, rz, _⟩ := sim.cell _ _ q hp hq
          refine ⟨q.1, xs, v, rfl, rfl, hx, ?_, ?_⟩
          · rw [← rz.length, sizeLine_eq]; omega
          · exact k _ W _ (.refl _) (sim.write hp hq (rz.append (.cons r .nil))) .non
        · cases e
  case pop => exact absurd rfl h0
  case popAt =>
    refine PE.imp (pe_bm PySem.F.plainAttrs_list PySem.F.slot_list_pop type_pop (mt_popAt (X := X)) ho ha (base_of hn _ _ _) hfew hl (star_cons hst) hpl) (rd ?_)
    intro W st p zs q H ds vs dd st' Q sim hp hq ra e k
    have hall : ∀ {i : Int}, ds = [.int i] → rPopAt (.ref q.1) vs H Q := fun {i} e0 => by
      subst e0
      simp only [mthD, hp] at e
      split at e
      case isFalse => cases e
      rename_i hz
      have hz := szOk.le hz
      rw [sizeLine_eq] at hz
      split at e
      · rename_i j hj
        obtain ⟨y0, hy, e2⟩ := Option.map_eq_some_iff.mp e
        cases e2
        obtain ⟨v, rfl, r⟩ := repA1 ra
        cases rep_int r
        obtain ⟨xs, hx, rz, _⟩ := sim.cell _ _ q hp hq
        obtain ⟨hj1, hj2, hj3, hj4⟩ := ixN_seq hj
        obtain ⟨w, hw, rw⟩ := rz.get hy
        refine ⟨q.1, xs, i, j, w, rfl, rfl, hx, ?_, ?_, by rw [← rz.length]; exact hj1, hw, ?_⟩
        · omega
        · omega
        · exact k _ W _ (.refl _) (sim.write hp hq (rz.erase j)) rw
      · cases e
    cases ds with
    | nil => simp [mthD] at e
    | cons y0 r0 =>
      cases r0 with
      | cons _ _ => simp [mthD] at e
      | nil => cases y0 <;> first | exact hall rfl | (simp [mthD] at e; done)
theorem c_pop (C : Cond T XW P G c X) {ap : Pos} (ho : PE X x (tI T XW a)) (hl : (ap.endLine == pos.line) = true) (hn : notCall x = true) :
    PE X (.Call (.Attribute x "pop" ap) [] [] pos) (tI T XW (.mth .pop a .nil)) := by
  refine PE.imp (pe_bm0 PySem.F.plainAttrs_list PySem.F.slot_list_pop type_pop (mt_pop (X := X)) ho (base_of hn _ _ _) hl) ?_
  rintro σ H Q ⟨W, st, σd, sim, rs, h⟩
  simp only [ev] at h
  refine ⟨W, st, σd, sim, rs, (h.bind (Rep T)).imp ?_⟩
  rintro v H1 ⟨W1, d1, st1, le1, sim1, r1, h1⟩
  split at h1
  · rename_i hL
    obtain ⟨p, zs, rfl, hp⟩ := isLst_cell hL
    obtain ⟨q, rfl, hq⟩ := rep_ref r1
    obtain ⟨xs, hx, rz, _⟩ := sim1.cell _ _ q hp hq
    refine ⟨.inl ⟨rfl, xs, SqL.of hx⟩, ?_⟩
    simp only [evs, Out.bind, mthD, hp] at h1
    cases e : zs[zs.length - 1]? with
    | none => rw [e] at h1; exact h1.elim
    | some y0 =>
      rw [e] at h1
      obtain ⟨w, hw, rw⟩ := rz.get e
      refine ⟨q.1, xs, w, rfl, rfl, hx, by rw [← rz.length]; exact hw, ?_⟩
      exact h1 _ W1 _ (.refl _) (sim1.write hp hq (by rw [List.dropLast_eq_take, List.dropLast_eq_take, rz.length]; exact rz.take _)) rw
  · exact h1.elim

/-! ### what is walked -/
inductive RepIt (T : Tb) (W : Wd) : ItD → It → Prop
  | seqL {ds : List D} {a : Addr} {vs : List V} : SqL T.K W.F a vs → RepA T W ds vs → RepIt T W (.seq ds) (Itl T.K a)
  | seqT {ds : List D} {a : Addr} {vs : List V} : SqT T.K W.F a vs → RepA T W ds vs → RepIt T W (.seq ds) (Itt T.K a)
  | rng (lo : Int) (n : Nat) : RepIt T W (.seq ((List.range n).map fun (k : Nat) => D.int (lo + (k : Int)))) (Itr lo n)
  | cell {n : Nat} {p : Addr × Addr} : W.φ[n]? = some p → RepIt T W (.cell n) (Itl T.K p.1)
theorem RepIt.sub {W W' : Wd} (le : W.Sub W') {it : ItD} {J : It} : RepIt T W it J → RepIt T W' it J
  | .seqL h r => .seqL (le.1.seq h) (r.sub le)
  | .seqT h r => .seqT (Same.tup le.1 h) (r.sub le)
  | .rng lo n => .rng lo n
  | .cell h => .cell (le.at h)
theorem it_next {W : Wd} {st : Store} {H : Hp} {it : ItD} {J : It} {i : Nat} (sim : Sim T W st H) (r : RepIt T W it J) : (nextD it i st = some none → J.stop i H) ∧
    ∀ x, nextD it i st = some (some x) → J.go i H ∧ ∀ v H', J.yld i H v H' → ∃ W', W.le W' ∧ Sim T W' st H' ∧ Rep T W' x v := by
  cases r with
  | @seqL ds p vs h r =>
    have h' := sim.sub.seq h
    refine ⟨fun e => ⟨vs, h', ?_⟩, fun x e => ?_⟩
    · simp only [nextD, Option.some.injEq] at e
      rw [← r.length]; exact List.getElem?_eq_none_iff.mp e
    · simp only [nextD, Option.some.injEq] at e
      obtain ⟨v, hv, rv⟩ := r.get e
      refine ⟨⟨vs, v, h', hv⟩, ?_⟩
      rintro u H' ⟨rfl, k⟩
      have := k vs h'
      rw [hv] at this
      cases this
      exact ⟨W, .refl _, sim, rv⟩
  | @seqT ds p vs h r =>
    have h' := Same.tup sim.sub h
    refine ⟨fun e => ⟨vs, h', ?_⟩, fun x e => ?_⟩
    · simp only [nextD, Option.some.injEq] at e
      rw [← r.length]; exact List.getElem?_eq_none_iff.mp e
    · simp only [nextD, Option.some.injEq] at e
      obtain ⟨v, hv, rv⟩ := r.get e
      refine ⟨⟨vs, v, h', hv⟩, ?_⟩
      rintro u H' ⟨rfl, k⟩
      have := k vs h'
      rw [hv] at this
      cases this
      exact ⟨W, .refl _, sim, rv⟩
  | rng lo n =>
    refine ⟨fun e => ?_, fun x e => ?_⟩
    · simp only [nextD, Option.some.injEq] at e
      have := List.getElem?_eq_none_iff.mp e
      show n ≤ i
      simpa using this
    · simp only [nextD, Option.some.injEq] at e
      obtain ⟨hlt, e⟩ := List.getElem?_eq_some_iff.mp e
      simp only [List.length_map, List.length_range] at hlt
      simp only [List.getElem_map, List.getElem_range] at e
      refine ⟨hlt, ?_⟩
      rintro u H' ⟨rfl, rfl⟩
      exact ⟨W, .refl _, sim, by rw [← e]; exact .int _⟩
  | @cell n p hp =>
    refine ⟨fun e => ?_, fun x e => ?_⟩
    · simp only [nextD] at e
      split at e
      · rename_i xs hn
        obtain ⟨vs, hx, r, _⟩ := sim.cell _ _ p hn hp
        simp only [Option.some.injEq] at e
        exact ⟨vs, SqL.of hx, by rw [← r.length]; exact List.getElem?_eq_none_iff.mp e⟩
      · cases e
    · simp only [nextD] at e
      split at e
      · rename_i xs hn
        obtain ⟨vs, hx, r, _⟩ := sim.cell _ _ p hn hp
        simp only [Option.some.injEq] at e
        obtain ⟨v, hv, rv⟩ := r.get e
        refine ⟨⟨vs, v, SqL.of hx, hv⟩, ?_⟩
        rintro u H' ⟨rfl, k⟩
        have := k vs (SqL.of hx)
        rw [hv] at this
        cases this
        exact ⟨W, .refl _, sim, rv⟩
      · cases e
def tIi (T : Tb) (XW : WX) (it : IIt) : TI := fun σ H R => ∃ W st σd, Sim T W st H ∧ RepS T W σ σd ∧ Pst T XW σ W (fun W (i : ItD) (J : It) => RepIt T W i J) (evi it σd st) R
theorem c_iv (C : Cond T XW P G c X) {tg : Expr} (ha : PE X x (tI T XW a)) : PI X tg x (tIi T XW (.val a)) := by
  refine PI.imp (PI.or (pi_list ha) (pi_tup ha)) ?_
  rintro σ H R ⟨W, st, σd, sim, rs, h⟩
  simp only [evi] at h
  have hb := h.bind (Rep T)
  have both : (∃ d st', ev a σd st = .ok d st' ∧ ∃ xs, d = .tup xs) ∨ ¬ (∃ d st', ev a σd st = .ok d st' ∧ ∃ xs, d = .tup xs) := Classical.em _
  rcases both with ⟨d, st', e, xs, rfl⟩ | hno
  · right
    refine ⟨W, st, σd, sim, rs, ?_⟩
    rw [e] at h ⊢
    intro v W1 H1 le1 sim1 r1
    obtain ⟨p, vs, rfl, hx, r2⟩ := rep_tup r1
    exact ⟨p, rfl, ⟨vs, C.hK ▸ Same.tup sim1.sub hx⟩, h _ W1 H1 le1 sim1 (C.hK ▸ .seqT hx r2)⟩
  · left
    refine ⟨W, st, σd, sim, rs, ?_⟩
    cases e : ev a σd st with
    | stuck => rw [e] at h; exact h.elim
    | raise u st' => rw [e] at h; exact h
    | ok d st' =>
      rw [e] at h
      intro v W1 H1 le1 sim1 r1
      have h1 : Pst T XW σ W1 (fun W (i : ItD) (J : It) => RepIt T W i J) (ofO (itemsD st' d) st') R := Pst.mono le1 h
      obtain ⟨it, e1, h2⟩ := ofO_ok h1
      unfold itemsD at e1
      split at e1
      · obtain ⟨p, vs, rfl, hx, r2⟩ := rep_lst r1
        cases e1
        exact ⟨p, rfl, ⟨vs, C.hK ▸ sim1.sub.seq hx⟩, h2 _ W1 H1 (.refl _) sim1 (C.hK ▸ .seqL hx r2)⟩
      · exact absurd ⟨_, _, e, _, rfl⟩ hno
      · split at e1
        · obtain ⟨p, rfl, hp⟩ := rep_ref r1
          rename_i hn
          obtain ⟨vs, hx, r2, _⟩ := sim1.cell _ _ p hn hp
          cases e1
          exact ⟨p.1, rfl, ⟨vs, SqL.of hx⟩, h2 _ W1 H1 (.refl _) sim1 (C.hK ▸ .cell hp)⟩
        · cases e1
      · cases e1
theorem rangeD_cases {xs : List D} {ys : List D} (h : rangeD xs = some ys) : (∃ j : Int, xs = [.int j] ∧ -(2 ^ 62) ≤ j ∧ j < 2 ^ 62 ∧ ys = (List.range j.toNat).map fun (k : Nat) => D.int (0 + (k : Int))) ∨
    ∃ i j : Int, xs = [.int i, .int j] ∧ (-(2 ^ 62) ≤ i ∧ i < 2 ^ 62 ∧ -(2 ^ 62) ≤ j ∧ j < 2 ^ 62) ∧ ys = (List.range (j - i).toNat).map fun (k : Nat) => D.int (i + (k : Int)) := by
  unfold rangeD at h
  split at h
  · split at h
    · rename_i j hj
      exact .inl ⟨j, rfl, hj.1, hj.2, (Option.some.inj h).symm⟩
    · cases h
  · split at h
    · rename_i i j hj
      exact .inr ⟨i, j, rfl, hj, (Option.some.inj h).symm⟩
    · cases h
  · cases h
theorem c_range (C : Cond T XW P G c X) {tg : Expr} {es : List Expr} {is : IEs} {p : Pos} (h0 : c.rk = true) (hg : glB c.sc "range" = true) (ha : PA X es (tIs T XW is)) (hc : chkEs c is es = true) (hl : es.length = 1 ∨ es.length = 2) : PI X tg (.Call (.Name "range" p) es [] pos) (tIi T XW (.range is)) := by
  have rd : ∀ (n : Nat), n = es.length → ∀ σ H R, tIi T XW (.range is) σ H R → (∀ σd st ds st', evs is σd st = .ok ds st' → ds.length = es.length) → (n = 1 → iRng1 (tIs T XW is) σ H R) ∧ (n = 2 → iRng2 (tIs T XW is) σ H R) := by
    rintro n rfl σ H R ⟨W, st, σd, sim, rs, h⟩ hlen
    simp only [evi] at h
    have key : ∀ {vs : List V} {H1 : Hp} {W1 : Wd} {ds : List D} {st1 : Store}, evs is σd st = .ok ds st1 → Sim T W1 st1 H1 → RepA T W1 ds vs → Pst T XW σ W1 (fun W (i : ItD) (J : It) => RepIt T W i J) (ofO ((rangeD ds).map .seq) st1) R →
        (∃ j : Int, vs = [.int j] ∧ ds.length = 1 ∧ -(2 ^ 62) ≤ j ∧ j < 2 ^ 62 ∧ R (Itr 0 j.toNat) H1) ∨ ∃ i j : Int, vs = [.int i, .int j] ∧ ds.length = 2 ∧ (-(2 ^ 62) ≤ i ∧ i < 2 ^ 62 ∧ -(2 ^ 62) ≤ j ∧ j < 2 ^ 62) ∧ R (Itr i (j - i).toNat) H1 := by
      intro vs H1 W1 ds st1 _ sim1 ra hp
      obtain ⟨it, e0, h2⟩ := ofO_ok hp
      obtain ⟨ys, e1, rfl⟩ := Option.map_eq_some_iff.mp e0
      rcases rangeD_cases e1 with ⟨j, rfl, a1, a2, rfl⟩ | ⟨i, j, rfl, a1, rfl⟩
      · obtain ⟨v, rfl, r⟩ := repA1 ra
        cases rep_int r
        exact .inl ⟨j, rfl, rfl, a1, a2, h2 _ W1 H1 (.refl _) sim1 (.rng 0 _)⟩
      · cases ra with
        | cons r ra => cases ra with
          | cons r' ra =>
            cases ra
            cases rep_int r
            cases rep_int r'
            exact .inr ⟨i, j, rfl, rfl, a1, h2 _ W1 H1 (.refl _) sim1 (.rng i _)⟩
    cases e : evs is σd st with
    | stuck => rw [e] at h; exact h.elim
    | raise u st' => rw [e] at h; exact ⟨fun _ => ⟨W, st, σd, sim, rs, by rw [e]; exact h⟩, fun _ => ⟨W, st, σd, sim, rs, by rw [e]; exact h⟩⟩
    | ok ds st1 =>
      have hn := hlen σd st ds st1 e
      rw [e] at h
      refine ⟨fun h1 => ⟨W, st, σd, sim, rs, ?_⟩, fun h2 => ⟨W, st, σd, sim, rs, ?_⟩⟩
      · rw [e]
        intro vs W1 H1 le1 sim1 ra
        rcases key e sim1 ra (Pst.mono le1 h) with ⟨j, q1, _, q2, q3, q4⟩ | ⟨i, j, q1, q2, _⟩
        · exact ⟨j, q1, q2, q3, q4⟩
        · omega
      · rw [e]
        intro vs W1 H1 le1 sim1 ra
        rcases key e sim1 ra (Pst.mono le1 h) with ⟨j, q1, q2, _⟩ | ⟨i, j, q1, _, q2, q3⟩
        · omega
        · exact ⟨i, j, q1, q2, q3⟩
  have hlen : ∀ (es : List Expr) (is : IEs), chkEs c is es = true → ∀ σd st ds st', evs is σd st = .ok ds st' → ds.length = es.length := by
    intro es
    induction es with
    | nil =>
      intro is h σd st ds st' e
      cases is with
      | nil => rw [evs] at e; cases e; rfl
      | cons _ _ => simp [chkEs] at h
    | cons x0 es ih =>
      intro is h σd st ds st' e
      cases is with
      | nil => simp [chkEs] at h
      | cons i is =>
        simp only [chkEs, Bool.and_eq_true] at h
        simp only [evs] at e
        obtain ⟨d1, st1, _, e⟩ := bind_ok e
        obtain ⟨ds2, st2, e2, e⟩ := bind_ok e
        cases e
        rw [List.length_cons, List.length_cons, ih is h.2 _ _ _ _ e2]
  rcases es with _ | ⟨e1, _ | ⟨e2, _ | ⟨e3, es⟩⟩⟩
  · simp at hl
  · have hs1 : noStar e1 = true := by cases is with
      | nil => simp [chkEs] at hc
      | cons _ _ => simp only [chkEs, Bool.and_eq_true] at hc; exact hc.1.2
    exact PI.imp (pi_range1 (C.gl' hg) (C.rg h0) ha (star_cons hs1)) fun σ H R h => (rd 1 rfl σ H R h (hlen _ is hc)).1 rfl
  · have hs : noStar e1 = true ∧ noStar e2 = true := by
      cases is with
      | nil => simp [chkEs] at hc
      | cons _ is =>
        simp only [chkEs, Bool.and_eq_true] at hc
        refine ⟨hc.1.2, ?_⟩
        cases is with
        | nil => simp [chkEs] at hc
        | cons _ _ => simp only [chkEs, Bool.and_eq_true] at hc; exact hc.2.1.2
    exact PI.imp (pi_range2 (C.gl' hg) (C.rg h0) ha (by rw [star_cons hs.1, star_cons hs.2]; rfl) (star_cons hs.2)) fun σ H R h => (rd 2 rfl σ H R h (hlen _ is hc)).2 rfl
  · simp at hl
end
end Ip
set_option Elab.async false
set_option linter.all false
set_option maxRecDepth 100000
set_option maxHeartbeats 400000
/-! Comprehensions; every term. -/
namespace Ip
open PySem PySem.Spec PyProof.Rows L2

abbrev XW0 : WX := fun _ _ _ _ => False
theorem wipe_get {σ : L2.St} {j : Nat} : ∀ {vs : List Nat}, (wipe σ vs)[j]? = if j ∈ vs then (if j < σ.length then some none else none) else σ[j]?
  | [] => by simp [wipe]
  | v :: vs => by
    rw [wipe, List.getElem?_set, wipe_length, wipe_get (vs := vs)]
    by_cases hv : v = j
    · subst hv; simp
    · have hv' : ¬ j = v := fun z => hv z.symm
      simp [hv, hv']
theorem wipe_same {σ σ2 : L2.St} {vs : List Nat} (hl : σ2.length = (wipe σ vs).length) (hj : ∀ j, j ∉ vs → σ2[j]? = (wipe σ vs)[j]?) : wipe σ2 vs = wipe σ vs := by
  rw [wipe_length] at hl
  apply List.ext_getElem?
  intro j
  rw [wipe_get, wipe_get]
  by_cases h : j ∈ vs
  · rw [if_pos h, if_pos h, hl]
  · rw [if_neg h, if_neg h, hj j h, wipe_get, if_neg h]
theorem own_ix (N : List Str) (own : List Nat) : (ownOf N own).map (·.2) = own := by
  unfold ownOf
  rw [List.map_map]
  exact List.map_id' own
theorem vars_own {c : Cfg} {own : List Nat} {tg : IT} {e : Expr} (h : chkT c (some own) tg e = true) : ∀ j ∈ tg.vars, j ∈ own := by
  have key : ∀ {es : List Expr} {is : List Nat}, chkTs c (some own) is es = true → ∀ j ∈ is, j ∈ own := by
    intro es
    induction es with
    | nil => intro is h; rw [chkTs_nil h]; intro j hj; cases hj
    | cons e es ih =>
      intro is h j hj
      obtain ⟨i, r, n, p, rfl, rfl, h1, h2⟩ := chkTs_cons h
      simp only [chkN, Bool.and_eq_true] at h1
      rcases List.mem_cons.mp hj with rfl | hj
      · exact List.contains_iff_mem.mp h1.2
      · exact ih h2 j hj
  cases tg with
  | nm i =>
    cases e <;> first | (simp [chkT] at h; done) | skip
    simp only [chkT, chkN, Bool.and_eq_true] at h
    intro j hj
    rw [IT.vars, List.mem_singleton] at hj
    subst hj
    exact List.contains_iff_mem.mp h.2
  | tp is =>
    cases e <;> first | (simp [chkT] at h; done) | skip
    simp only [chkT] at h
    exact key h
section
variable {T : Tb} {XW : WX} {P : Nat → List D → Fn → Prop} {G : Nat → D → Prop} {c : Cfg} {X : Cx}
theorem Cond.blk (C : Cond T XW P G c X) (scope : Scope) (s : Shared) (H : Hp) (C0 : Addr) (cl : List (Str × Addr)) (fp : List Addr) : Cond T XW0 P G (c.blk scope) (X.blk s H scope (compEnvC scope cl C0 X.env) fp) where
  hK := C.hK
  sc := by
    show relS scope X.env.scope = relS scope c.sc
    rw [C.sc]
  N := C.N
  nd := C.nd
  calm := C.calm
  gd := C.gd
  room := C.room
  tk := takes_none5
  wr := fun x h => by
    have hk : ∀ k : NameKind, k ≠ .free → scope.names.lookup x = some k → (relS scope X.env.scope).names.lookup x = some k := fun k hk e => lookup_relS_keep hk e
    rcases locB.loc h with z | z
    · exact ⟨.inl (hk _ (by simp) z), .inr (hk _ (by simp) z)⟩
    · exact ⟨.inr (hk _ (by simp) z), .inl (by have z' : scope.names.lookup x = some NameKind.cell := z; show (scope.names.lookup x == some NameKind.cell) = true; rw [z']; rfl)⟩
  bl := C.bl
  isi := C.isi
  ty := C.ty
  rg := C.rg
  fn := fun i dv sm hp => let ⟨q⟩ := C.fn i dv sm hp; ⟨q⟩
  cl := C.cl
  gl := C.gl
theorem noRaise_ok {α : Type} {o : Out α} {r : α} {st : Store} (h : noRaise o = .ok r st) : o = .ok r st := by
  cases o <;> first | exact h | cases h
theorem noRaise_bind {α β γ δ : Type} {σ : L2.St} {W : Wd} {R : Wd → β → δ → Prop} {o : Out α} {f : α → Store → Out γ} {g : γ → Store → Out β} {Q : δ → Hp → Prop} (h : Pst T XW σ W R (((noRaise o).bind f).bind g) Q) : ∃ a st, o = .ok a st := by
  cases o with
  | ok a st => exact ⟨a, st, rfl⟩
  | raise x st => exact h.elim
  | stuck => exact h.elim
/-- a turn's element -/
def turnD (tg : IT) (cond elt : IE) (σ : EnvD) (x : D) (st : Store) : Out (Option D) := match asgT st tg x σ with
  | none => .stuck
  | some σ' => noRaise ((ev cond σ' st).bind fun c st => (ofO (truD st c) st).bind fun k st => if k = true then (ev elt σ' st).bind fun y st => .ok (some y) st else .ok none st)
theorem turnD_cases {tg : IT} {cond elt : IE} {σ : EnvD} {x : D} {st st' : Store} {r : Option D} (h : turnD tg cond elt σ x st = .ok r st') : ∃ σ' stc k, asgT st tg x σ = some σ' ∧ evt cond σ' st = .ok k stc ∧
    ((k = true ∧ ∃ y, ev elt σ' stc = .ok y st' ∧ r = some y) ∨ (k = false ∧ st' = stc ∧ r = none)) := by
  unfold turnD at h
  split at h
  · cases h
  · rename_i σ' e
    have h := noRaise_ok h
    obtain ⟨cv, st1, e1, h⟩ := bind_ok h
    obtain ⟨k, st2, e2, h⟩ := bind_ok h
    have et : evt cond σ' st = .ok k st2 := by
      unfold evt
      rw [e1]
      exact e2
    refine ⟨σ', st2, k, e, et, ?_⟩
    split at h
    · rename_i hk
      obtain ⟨y, st3, e3, h⟩ := bind_ok h
      cases h
      exact .inl ⟨hk, y, e3, rfl⟩
    · rename_i hk
      cases h
      exact .inr ⟨by simpa using hk, rfl, rfl⟩
theorem lc_read {t : Bool} {own : List Nat} {it : IIt} {tg : IT} {cond elt : IE} {cc : Cfg} {tge : Expr} (ht : chkT cc (some own) tg tge = true) :
    ∀ (σ : L2.St) (H : Hp) (Q : VK), tI T XW (.comp t own it tg cond elt) σ H Q → tLc (tIi T XW it) (gT T tg) (tIt T XW0 cond) (tI T XW0 elt) own σ H Q := by
  rintro σ H Q ⟨W, st, σd, sim, rs, h⟩
  have h' : Pst T XW σ W (Rep T) ((evi it σd st).bind fun its st => (compRun (turnD tg cond elt (wipeD σd own)) its fuelD 0 [] st).bind fun ys st => newLst t ys st) Q := by
    simp only [ev] at h
    exact h
  refine ⟨W, st, σd, sim, rs, (h'.bind (fun W (i : ItD) (J : It) => RepIt T W i J)).imp ?_⟩
  rintro J H1 ⟨Wa, itd, st1, le1, sim1, rit, h1⟩
  intro D hD
  refine ⟨fun i m H => ∃ W1 st1 acc accv, Sim T W1 st1 H ∧ W1.h = (D, .lst accv) :: Wa.h ∧ Wa.Sub W1 ∧ RepA T W1 acc accv ∧ Pst T XW σ Wa (Rep T) ((compRun (turnD tg cond elt (wipeD σd own)) itd m i acc st1).bind fun ys st => newLst t ys st) Q,
    ⟨fuelD, ⟨Wa.F, Wa.φ, (D, .lst []) :: Wa.h⟩, st1, [], [], sim1.hold hD, rfl, ⟨Same.refl _, [], by simp⟩, .nil, h1⟩, ?_⟩
  rintro i m H2 ⟨W2, st2, acc, accv, sim2, hh2, sub2, racc, h2⟩
  cases m with
  | zero => exact h2.elim
  | succ f =>
    rw [compRun] at h2
    obtain ⟨n1, n2⟩ := it_next (i := i) sim2 (rit.sub sub2)
    cases hn : nextD itd i st2 with
    | none => rw [hn] at h2; exact h2.elim
    | some r =>
      cases r with
      | none =>
        rw [hn] at h2
        left
        refine ⟨n1 hn, ?_⟩
        have h3 : Pst T XW σ Wa (Rep T) (newLst t acc st2) Q := h2
        unfold newLst at h3
        split at h3
        · obtain ⟨W', s', hh, sim', r'⟩ := sim2.settleCell hh2 racc
          exact h3 _ W' H2 ⟨sub2.trans s', hh⟩ sim' r'
        · obtain ⟨W', s', hh, sim', r'⟩ := sim2.settle hh2 racc
          exact h3 _ W' H2 ⟨sub2.trans s', hh⟩ sim' r'
      | some x =>
        rw [hn] at h2
        right
        obtain ⟨go, yl⟩ := n2 x hn
        refine ⟨go, _, fun H' q => q, fun v H3 hy => ?_⟩
        obtain ⟨W3, le3, sim3, rx⟩ := yl v H3 hy
        have h2' : Pst T XW σ Wa (Rep T) (((turnD tg cond elt (wipeD σd own) x st2).bind fun r st1 => match r with
          | some y => if acc.length < 1000000 then compRun (turnD tg cond elt (wipeD σd own)) itd f (i + 1) (acc ++ [y]) st1 else .stuck
          | none => compRun (turnD tg cond elt (wipeD σd own)) itd f (i + 1) acc st1).bind fun ys st => newLst t ys st) Q := h2
        have hok : ∃ r st3, turnD tg cond elt (wipeD σd own) x st2 = .ok r st3 := by
          cases e : turnD tg cond elt (wipeD σd own) x st2 with
          | ok r st3 => exact ⟨r, st3, rfl⟩
          | raise u st3 =>
            exfalso
            unfold turnD at e
            split at e
            · cases e
            · revert e
              generalize (Out.bind _ _ : Out (Option Ip.D)) = o
              intro e
              cases o <;> cases e
          | stuck => rw [e] at h2'; exact h2'.elim
        obtain ⟨r, st3, e⟩ := hok
        rw [e] at h2'
        obtain ⟨σ', stc, k, ea, et, hk⟩ := turnD_cases e
        have sub3 : Wa.Sub W3 := sub2.trans le3.1
        have rs3 : RepS T W3 (wipe σ own) (wipeD σd own) := ((rs.mono le1).sub sub3).wipe own
        refine ⟨W3, st2, wipeD σd own, x, σ', sim3, rs3, rx, ea, fun σ2 rs2 hl hj => ⟨wipe_same hl fun j hn => hj j fun z => hn (vars_own ht j z), ?_⟩⟩
        refine ⟨W3, st2, σ', sim3, rs2, ?_⟩
        rw [et]
        rintro k' W4 H4 le4 sim4 rfl
        rcases hk with ⟨rfl, y0, ee, rfl⟩ | ⟨rfl, rfl, rfl⟩
        · rw [if_pos rfl]
          refine ⟨W4, stc, σ', sim4, rs2.mono le4, ?_⟩
          rw [ee]
          intro yv W5 H5 le5 sim5 ry
          have hh5 : W5.h = (D, .lst accv) :: Wa.h := by rw [le5.2, le4.2, le3.2, hh2]
          obtain ⟨hD5, _⟩ := sim5.held (D, .lst accv) (by rw [hh5]; exact List.mem_cons_self)
          have hlt : acc.length < 1000000 := by
            refine Classical.byContradiction fun hn => ?_
            have z : Pst T XW σ Wa (Rep T) ((if acc.length < 1000000 then compRun (turnD tg cond elt (wipeD σd own)) itd f (i + 1) (acc ++ [y0]) st3 else .stuck : Out (List Ip.D)).bind fun ys st => newLst t ys st) Q := h2'
            rw [if_neg hn] at z
            exact z.elim
          have h6 : Pst T XW σ Wa (Rep T) ((if acc.length < 1000000 then compRun (turnD tg cond elt (wipeD σd own)) itd f (i + 1) (acc ++ [y0]) st3 else .stuck : Out (List Ip.D)).bind fun ys st => newLst t ys st) Q := h2'
          rw [if_pos hlt] at h6
          refine ⟨accv, hD5, by rw [← racc.length, sizeLine_eq]; omega, f, Nat.lt_succ_self f, ⟨W5.F, W5.φ, (D, .lst (accv ++ [yv])) :: Wa.h⟩, st3, acc ++ [y0], accv ++ [yv], sim5.rehold hh5, rfl, ?_, ?_, h6⟩
          · exact (sub3.trans (le4.1.trans le5.1)).trans ⟨Same.refl _, [], by simp⟩
          · exact RepA.sub (W := W5) (W' := ⟨W5.F, W5.φ, (D, .lst (accv ++ [yv])) :: Wa.h⟩) ⟨Same.refl _, [], by simp⟩ (((racc.sub le3.1).sub le4.1).sub le5.1 |>.append (.cons ry .nil))
        · rw [if_neg (by simp)]
          exact ⟨f, Nat.lt_succ_self f, W4, _, acc, accv, sim4, by rw [le4.2, le3.2, hh2], sub3.trans le4.1, (racc.sub le3.1).sub le4.1, h2'⟩
theorem c_comp (C : Cond T XW P G c X) {t : Bool} {own : List Nat} {it : IIt} {tg : IT} {cond elt : IE} {tge i y : Expr} {ifs : List Expr} {scope : Scope} {pos : Pos} (hi : PI X tge i (tIi T XW it)) (hns : notSet i = true)
    (hb : blkC c.N c.sc scope (ownOf c.N own) = true) (ht : chkT (c.blk scope) (some own) tg tge = true)
    (hcond : ∀ (s : Shared) (H : Hp) (C0 : Addr) (cl : List (Str × Addr)) (fp : List Addr), PTs (X.blk s H scope (compEnvC scope cl C0 X.env) fp) ifs (tIt T XW0 cond))
    (helt : ∀ (s : Shared) (H : Hp) (C0 : Addr) (cl : List (Str × Addr)) (fp : List Addr), PE (X.blk s H scope (compEnvC scope cl C0 X.env) fp) y (tI T XW0 elt)) :
    PE X (.ListComp y [⟨tge, i, ifs, 0⟩] scope pos) (tI T XW (.comp t own it tg cond elt)) := by
  have hbk : BlkOk X.N X.env.scope scope (ownOf c.N own) := by rw [C.N, C.sc]; exact blkOk_by hb
  have hfs : ∀ x, foldedSetIterable i X.env x = pure x := by
    intro x
    cases i <;> first | rfl | cases hns
  refine PE.imp (pe_lc C.calm C.nd hi hbk (fun s H C0 cl fp => c_tgt (C.blk scope s H C0 cl fp) ht) hcond helt hfs) ?_
  rw [own_ix]
  exact lc_read ht
end
end Ip
set_option Elab.async false
set_option linter.all false
set_option maxRecDepth 100000
set_option maxHeartbeats 1000000
/-! Objects in terms: variables, properties, methods, making, own operators. -/
namespace Ip
open PySem PySem.Spec PyProof.Rows L2 SlX
section
variable {X : Cx} {k : Nat} {f C : Addr} {fd : FuncData} {ps : List Str} {sp : Sp} {ds : List Value} {dvs : List V} {E : XK} {pins : List (Addr × Obj)} {σ : L2.St} {H : Hp} {s : Shared} {Q : VK} {us : List Value} {vs : List V}
theorem run_codeG {A : Around} (F : FnG X.prog X.w X.K X.mg X.base k f fd ps sp) (hr : Room k A) (hg : A.guards = some []) (e0 : Env0 X.prog X.w X.K X.mg X.base A X.stack s H) (hb : Binds X.K fd ps ds) (hd : Vals dvs ds) (hx : PassesAt (L2.CX X.prog X.w) X σ E) (I : Inv X pins σ H s) (r : Vals vs us) (h : sp (vs ++ dvs) H Q E) :
    codeAny (model X.prog X.w) A (.call (.ref f) ⟨us, []⟩) (fun r s' => match r with | .ok (.ret v) => EP X pins σ Q v s' | .ok _ => False | .error e => X.xe e s') s := by
  have rr : Vals (vs ++ dvs) (us ++ ds) := r.append hd
  have ll : (us ++ ds).length = ps.length := rr.length ▸ F.len _ _ _ _ h
  refine codeAny_mono (F.run A X.stack s H ⟨us, []⟩ _ _ Q E hr hg e0 (hb s us I.kIn ll) rr h) fun r s' hq => ?_
  cases r with
  | error e => exact hx pins H s e s' I hq
  | ok fl =>
    cases fl with
    | ret u => exact I.after hq
    | next => exact False.elim hq
    | brk => exact False.elim hq
    | cont => exact False.elim hq
/-- a new instance by its __init__ -/
theorem run_makeG (M : Mk X.K C f) (F : FnG X.prog X.w X.K X.mg X.base k f fd ps sp) (hr : Room (k + 1) X.A) (hg : X.A.guards = some []) (hb : Binds X.K fd ps ds) (hd : Vals dvs ds) (hx : ∀ H s e s' (I : Inv X pins σ H s), L2.CX X.prog X.w X.stack H s E e s' → X.xe e s') (I : Inv X pins σ H s) (r : Vals vs us)
    (h : ∀ x dx, H x = none → H dx = none → dx ≠ x → sp (.ref x :: (vs ++ dvs)) (upd (upd H dx (.own x)) x (.ins C dx [])) (fun v H2 => v = .non ∧ Q (.ref x) H2) E) :
    wpAny (model X.prog X.w) X.A (call (.ref C) us) (EP X pins σ Q) X.xe s := by
  have hq := h (s.heap.objs.size + 1) s.heap.objs.size (I.hok.fresh (Nat.le_succ _)) (I.hok.fresh (Nat.le_refl _)) (Nat.ne_of_lt (Nat.lt_succ_self _))
  have I2 := Inv.made (C := C) I
  have r2 : Vals (V.ref (s.heap.objs.size + 1) :: (vs ++ dvs)) (Value.ref (s.heap.objs.size + 1) :: (us ++ ds)) := .cons rfl (r.append hd)
  have hl : (Value.ref (s.heap.objs.size + 1) :: us ++ ds).length = ps.length := by
    have e := r2.length
    rw [F.len _ _ _ _ hq] at e
    exact e.symm
  refine wpAny_call (make_map (f := f) I.kIn M.makes M.init (beq_iff_eq.mp M.fn) (codeAny_mono (F.run _ X.stack _ _ ⟨Value.ref (s.heap.objs.size + 1) :: us, []⟩ (Value.ref (s.heap.objs.size + 1) :: (us ++ ds)) _ _ E (hr.make C us []) hg
    (I2.env0.make C us []) (hb _ (Value.ref (s.heap.objs.size + 1) :: us) I2.kIn hl) r2 hq) fun r s' hq' => ?_))
  cases r with
  | error e => exact hx _ _ e s' I2 hq'
  | ok fl =>
    cases fl with
    | ret u =>
      obtain ⟨v, H', I3, rv, ev, q3⟩ := I2.after hq'
      subst ev
      exact ⟨rv, ⟨V.ref (s.heap.objs.size + 1), H', I3, rfl, q3⟩⟩
    | next => exact False.elim hq'
    | brk => exact False.elim hq'
    | cont => exact False.elim hq'
end
section
variable {T : Tb} {XW : WX} {P : Nat → List D → Fn → Prop} {G : Nat → D → Prop} {c : Cfg} {X : Cx} {e x y z : Expr} {a b d : IE} {pos : Pos}
/-- the parts, each by itself -/
def AllPE (T : Tb) (XW : WX) (X : Cx) : IEs → List Expr → Prop
  | .nil, [] => True
  | .cons a es, x :: xs => PE X x (tI T XW a) ∧ AllPE T XW X es xs
  | _, _ => False
theorem AllPE.one {is : IEs} (h : AllPE T XW X is [x]) : ∃ a, is = .cons a .nil ∧ PE X x (tI T XW a) := by
  cases is with
  | nil => exact h.elim
  | cons a r =>
    cases r with
    | nil => exact ⟨a, rfl, h.1⟩
    | cons _ _ => exact h.2.elim
theorem AllPE.two {is : IEs} (h : AllPE T XW X is [x, y]) : ∃ a b, is = .cons a (.cons b .nil) ∧ PE X x (tI T XW a) ∧ PE X y (tI T XW b) := by
  cases is with
  | nil => exact h.elim
  | cons a r =>
    obtain ⟨b, rfl, h2⟩ := AllPE.one h.2
    exact ⟨a, b, rfl, h.1, h2⟩
theorem ev_ext1 {k : XO} {σ : EnvD} {st : Store} : ev (.ext k (.cons a .nil)) σ st = (ev a σ st).bind fun x st => extD k [x] st := by
  simp only [ev, evs, bind_assoc]
  rfl
theorem ev_ext2 {k : XO} {σ : EnvD} {st : Store} : ev (.ext k (.cons a (.cons b .nil))) σ st = (ev a σ st).bind fun x st => (ev b σ st).bind fun y st => extD k [x, y] st := by
  simp only [ev, evs, bind_assoc]
  rfl
/-! ### a variable of an object -/
theorem lookup_mem {α β : Type} [BEq α] [LawfulBEq α] : ∀ {l : List (α × β)} {k : α} {v : β}, l.lookup k = some v → (k, v) ∈ l
  | [], _, _, h => by cases h
  | (k', v') :: l, k, v, h => by
    rw [List.lookup_cons] at h
    split at h
    · rename_i e
      cases h
      rw [beq_iff_eq.mp e]
      exact List.mem_cons_self
    · exact List.mem_cons_of_mem _ (lookup_mem h)
theorem c_fld (C : Cond T XW P G c X) {tab : List (Nat × Nat)} {f : Str} (ha : PE X x (tI T XW a)) (hn : notCall x = true) (ht : tab.all (fun p => decide (p.1 < c.nc) && decide ((c.sl p.1)[p.2]? = some f)) = true) : PE X (.Attribute x f pos) (tI T XW (.ext (.fld tab) (.cons a .nil))) := by
  refine PE.imp (pe_sl ha (base_of hn _ _ _)) ?_
  rintro σ H Q ⟨W, st, σd, sim, rs, h⟩
  rw [ev_ext1] at h
  refine ⟨W, st, σd, sim, rs, (h.bind (Rep T)).imp ?_⟩
  rintro v H1 ⟨W1, d1, st1, le1, sim1, r1, h1⟩
  obtain ⟨dd, e, h2⟩ := ofO_ok (o := fldD tab st1 d1) h1
  have slot : ∀ {k i : Nat}, tab.lookup k = some i → k < T.nc → ∃ p, SCls X.K (T.ca k) ∧ Slot1 X.K (T.ca k) f p i := fun {k i} hl hk => by
    have hm := List.all_eq_true.mp ht _ (lookup_mem hl)
    simp only [Bool.and_eq_true, decide_eq_true_eq] at hm
    have ok := T.cok k hk
    rw [C.hK] at ok
    obtain ⟨p, hp⟩ := ok.slot i f (by rw [C.cl.2.1 k hm.1]; exact hm.2)
    exact ⟨p, ok.cls, hp⟩
  unfold fldD at e
  split at e
  · obtain ⟨i, hl, hf⟩ := Option.bind_eq_some_iff.mp e
    obtain ⟨b, dx, vs, xs, rfl, hc, q1, q2, q3, q4⟩ := rep_obj r1
    obtain ⟨w, g1, g2⟩ := q4.get hf
    obtain ⟨p, k1, k2⟩ := slot hl hc
    exact ⟨b, _, dx, p, vs, i, w, rfl, obj_slt sim1 q1 q2, k1, k2, q3 i w g1, h2 w W1 H1 (.refl _) sim1 g2⟩
  · split at e
    · rename_i hnn
      obtain ⟨i, hl, hf⟩ := Option.bind_eq_some_iff.mp e
      obtain ⟨p, rfl, hp⟩ := rep_ref r1
      obtain ⟨vs, hs, _, hc, hfs⟩ := sim1.cell _ _ _ hnn hp
      obtain ⟨o, ho, ho2⟩ := Option.bind_eq_some_iff.mp hf
      have ho3 : o = some dd := ho2
      subst ho3
      obtain ⟨w, g1, g2⟩ := hfs i dd ho
      obtain ⟨p', k1, k2⟩ := slot hl hc
      exact ⟨p.1, _, p.2, p', vs, i, w, rfl, hs, k1, k2, g1, h2 w W1 H1 (.refl _) sim1 g2⟩
    · cases e
  · cases e
/-! ### a property -/
theorem c_prop (C : Cond T XW P G c X) {alts : List (Nat × Alt)} {f : Str} (hP : ∀ p ∈ alts, P p.2.i p.2.dv p.2.sm) (ha : PE X x (tI T XW a)) (hn : notCall x = true) (ht : alts.all (fun p => decide (c.fn p.2.i = f) && decide (c.kd p.2.i = .prop p.1)) = true) :
    PE X (.Attribute x f pos) (tI T XW (.ext (.prop alts) (.cons a .nil))) := by
  refine ⟨fun pins s σ H Q I h => ?_⟩
  obtain ⟨W, st, σd, sim, rs, h⟩ := h
  rw [ev_ext1] at h
  refine attr_of (base_of hn _ _ _) (thn (ha.run pins s σ H _ I ⟨W, st, σd, sim, rs, h.bind (Rep T)⟩) fun u s1 ⟨v, H1, I1, rv, W1, d1, st1, le1, sim1, r1, h1⟩ => ?_)
  simp only [extD] at h1
  split at h1
  · rename_i al hal
    obtain ⟨cl, hcl, hlk⟩ := Option.bind_eq_some_iff.mp hal
    obtain ⟨hc, b, dx, vs, rfl, hs⟩ := cls_slt sim1 r1 hcl
    have hmem := lookup_mem hlk
    have hq := List.all_eq_true.mp ht _ hmem
    simp only [Bool.and_eq_true, decide_eq_true_eq] at hq
    obtain ⟨k, g, fd, ps, ds, dvs, F, hat, hb, hd, hdv, hr⟩ := (C.fn _ _ _ (hP _ hmem)).ex
    rw [hq.2, hq.1] at hat
    obtain ⟨p, at_, get, tk, rest, hrec⟩ := hat
    obtain rfl : u = Value.ref b := rv
    obtain ⟨sl, od, _, J, _⟩ := slt_inst I1 hs
    have ok := T.cok cl hc
    rw [C.hK] at ok
    have I2 : Inv X pins σ H1 { s1 with toks := s1.toks + 1 } := I1.tok (s1.toks + 1)
    refine PySem.W.get_bind I1.kIn J (PySem.W.plainGet_of (ok.cls.get f)).1 (PySem.W.findObj_data ok.cls.ic at_ get tk) (PySem.W.plainGet_of (ok.cls.get f)).2 (wpAny_call (PySem.W.prop_get (s := { s1 with toks := s1.toks + 1 }) I1.kIn hrec ?_))
    have spec : spOf T al.sm ([.ref b] ++ dvs) H1 Q (fun _ _ _ => False) := ⟨W1, st1, d1 :: al.dv, sim1, .cons r1 (hdv W1), by
      cases es : al.sm (d1 :: al.dv) st1 with
      | raise _ _ => rw [es] at h1; exact h1.elim
      | stuck => rw [es] at h1; exact h1.elim
      | ok dd st2 => rw [es] at h1; exact h1⟩
    have rr : Vals ([V.ref b] ++ dvs) ([Value.ref b] ++ ds) := Vals.append (.cons rfl .nil) hd
    have ll : ([Value.ref b] ++ ds).length = ps.length := rr.length ▸ F.len _ _ _ _ spec
    refine codeAny_mono (F.run X.A.in1 X.stack { s1 with toks := s1.toks + 1 } H1 ⟨[.ref b], []⟩ _ _ Q (fun _ _ _ => False) (hr.mono (by omega : k + 1 ≤ k + 2)).in1 C.gd I2.env0.in1 (hb _ [.ref b] I2.kIn ll) rr spec) fun r s' hq2 => ?_
    cases r with
    | error e =>
      obtain ⟨_, _, _, _, _, _, _, _, _, _, _, _, z⟩ := hq2
      exact z.elim
    | ok fl =>
      cases fl with
      | ret u =>
        obtain ⟨v, H', I3, rv, q⟩ := I2.after hq2
        exact wpAny_of_eq (PySem.W.handedOut_of (handed_of rv)) ⟨v, H', I3, rv, q⟩
      | next => exact False.elim hq2
      | brk => exact False.elim hq2
      | cont => exact False.elim hq2
  · exact h1.elim
/-! ### making an object -/
theorem c_mk (C : Cond T XW P G c X) {m cl : Nat} {al : Alt} {n : Str} {p : Pos} {es : List Expr} {is : IEs} (hp : P al.i al.dv al.sm) (h0 : c.kd al.i = .init cl) (h1 : c.fn al.i = n) (hcl : cl < c.nc) (h2 : glB c.sc n = true) (h3 : nmOk n = true) (ha : PA X (x :: es) (tIs T XW is)) (hc : chkEs c is (x :: es) = true) :
    PE X (.Call (.Name n p) (x :: es) [] pos) (tI T XW (.ext (.mk m cl al) is)) := by
  obtain ⟨k, f, fd, ps, ds, dvs, F, hat, hb, hd, hdv, hr2⟩ := (C.fn _ _ _ hp).ex
  rw [h0] at hat
  obtain ⟨M, hm⟩ := hat
  subst h1
  refine ⟨fun pins s σ H Q I h => ?_⟩
  obtain ⟨W, st, σd, sim, rs, h⟩ := h
  simp only [ev] at h
  have hst : noStar x = true := by cases is with
    | nil => simp [chkEs] at hc
    | cons _ _ => simp only [chkEs, Bool.and_eq_true] at hc; exact hc.1.2
  have hpl : (backTo pos (starEach es X.env)).any (·.1) = false := by cases is with
    | nil => simp [chkEs] at hc
    | cons _ _ => simp only [chkEs, Bool.and_eq_true] at hc; exact plain_args hc.2
  refine wpAny_Call_Name_kw (ld_glob I (C.gl' h2) hm ?_ (nmOk.l h3))
  refine PySem.W.callWith_K (h₀ := X.base) I.ok.mod.kin M.kp (thn (ha.run pos pins s σ H _ I ⟨W, st, σd, sim, rs, h.bind (RepA T)⟩) fun us s1 ⟨vs, H1, I1, r, q⟩ => ⟨I1.kIn, ?_⟩) (star_cons hst) hpl
  obtain ⟨W1, xs, st1, le1, sim1, r1, h1⟩ := q
  refine run_makeG (E := WE XW σ) M F (hr2.mono (by omega)) C.gd hb hd (fun H s e s' I hq => passAt C.tk σ pins H s e s' I hq) I1 r fun q dx hq hdx hne => ?_
  obtain ⟨le2, sim2⟩ := sim1.newIns (n := m) (Nat.lt_of_lt_of_le hcl C.cl.1) hq hdx hne
  have hφ : (W1.φ ++ [(q, dx)])[st1.length]? = some (q, dx) := by rw [← sim1.len]; simp
  refine ⟨_, _, .ref st1.length :: (xs ++ al.dv), sim2, .cons (.ref (p := (q, dx)) hφ) ((r1.mono le2).append (hdv _)), ?_⟩
  simp only [extD] at h1
  cases e : al.sm (.ref st1.length :: (xs ++ al.dv)) (st1 ++ [.ins cl (List.replicate m none)]) with
  | ok dd st2 =>
    rw [e] at h1
    intro v W3 H3 le3 sim3 r3
    simp only [Out.bind] at h1
    cases dd <;> first | exact h1.elim | skip
    refine ⟨(by cases r3; rfl), ?_⟩
    simp only at h1
    split at h1
    · rename_i d st3 e2
      unfold doneD at e2
      split at e2
      · rename_i hn
        split at e2
        · rename_i e3
          cases e2
          obtain ⟨W4, le4, sim4, r4⟩ := sim3.done hn (le3.1.at hφ) e3
          exact h1 _ W4 H3 (le2.trans (le3.trans le4)) sim4 r4
        · cases e2
      · cases e2
    · exact h1.elim
  | raise ex st2 =>
    rw [e] at h1
    intro cls dd W3 H3 le3 sim3 rx
    exact h1 cls dd W3 H3 (le2.trans le3) sim3 rx
  | stuck => rw [e] at h1; exact h1.elim
/-! ### a method -/
theorem meth_run {o : Expr} {m : Str} {es : List Expr} {apos pos : Pos} {pg : Program} {w : World} {A : Around} {E : Value → Shared → Prop} {Q : Value → Shared → Prop} {s : Shared} {env : Env} (hbase : attributeBase o m env (eval o env) = eval o env)
    (hfew : ((backTo pos (starEach es env)).all (fun x => !x.1) && (backToKw pos (keywordEach [] env)).all (fun x => x.1.isSome)
      && decide (es.length + ([] : List Keyword).length + (if ([] : List Keyword).isEmpty then 0 else 1) < 30)) = true)
    (hline : (apos.endLine == pos.line) = true)
    (h : wpAny (model pg w) A (eval o env) (fun ov s₁ => wpAny (model pg w) A (getMethod ov m (do return (← importBound o env).getD true)) (fun fx s₂ => wpAny (model pg w) A (callWith pos fx.1 fx.2 (backTo pos (starEach es env)) (backToKw pos (keywordEach [] env))) Q E s₂) E s₁) E s) :
    wpAny (model pg w) A (eval (.Call (.Attribute o m apos) es [] pos) env) Q E s := by
  rw [arm_eval_Call, hbase]
  refine wpAny_bind (wpAny_mono h (fun ov s₁ h₁ => ?_) fun _ _ e => e)
  refine wpAny_bind (wpAny_standAt ?_)
  have hform : methodCallForm (es.length + ([] : List Keyword).length) (backTo pos (starEach es env)) (backToKw pos (keywordEach [] env)) = true := hfew
  have hpos : methodCallPos true o env apos pos = pure pos := by unfold methodCallPos; simp [hline]
  unfold methodCall
  rw [hform]
  refine wpAny_bind (wpAny_holding (wpAny_mono h₁ (fun fx s₂ h₂ => ?_) fun _ _ e => e))
  exact wpAny_bind (wpAny_of_eq hpos h₂)
theorem c_meth (C : Cond T XW P G c X) {alts : List (Nat × Alt)} {n : Str} {ap : Pos} {es : List Expr} {is : IEs} (hP : ∀ p ∈ alts, P p.2.i p.2.dv p.2.sm) (ht : alts.all (fun p => ownAt c p.2 p.1 n) = true) (hn : notCall x = true) (hl : (ap.endLine == pos.line) = true) (h9 : es.length < 9) (ho : PE X x (tI T XW a)) (ha : PA X es (tIs T XW is)) (hc : chkEs c is es = true) :
    PE X (.Call (.Attribute x n ap) es [] pos) (tI T XW (.meth alts a is)) := by
  refine ⟨fun pins s σ H Q I h => ?_⟩
  obtain ⟨W, st, σd, sim, rs, h⟩ := h
  simp only [ev] at h
  have hfew : ((backTo pos (starEach es X.env)).all (fun x => !x.1) && (backToKw pos (keywordEach [] X.env)).all (fun x => x.1.isSome)
      && decide (es.length + ([] : List Keyword).length + (if ([] : List Keyword).isEmpty then 0 else 1) < 30)) = true := by
    rw [few_args hc]
    have : decide (es.length + ([] : List Keyword).length + (if ([] : List Keyword).isEmpty then 0 else 1) < 30) = true := by
      rw [decide_eq_true_eq]
      simp
      omega
    rw [this]
    rfl
  refine meth_run (base_of hn _ _ _) hfew hl (thn (ho.run pins s σ H _ I ⟨W, st, σd, sim, rs, h.bind (Rep T)⟩) fun u s1 ⟨v, H1, I1, rv, W1, d1, st1, le1, sim1, r1, h1⟩ => ?_)
  split at h1
  · rename_i al hal
    obtain ⟨cl, hcl, hlk⟩ := Option.bind_eq_some_iff.mp hal
    obtain ⟨hc0, b, dx, vs, rfl, hs⟩ := cls_slt sim1 r1 hcl
    have hmem := lookup_mem hlk
    have hq := List.all_eq_true.mp ht _ hmem
    simp only [ownAt, Bool.and_eq_true, decide_eq_true_eq] at hq
    obtain ⟨k, g, fd, ps, ds, dvs, F, hat, hb, hd, hdv, hr⟩ := (C.fn _ _ _ (hP _ hmem)).ex
    rw [hq.1.2, hq.1.1] at hat
    have M : Meth X.K (T.ca cl) n g := hat
    obtain rfl : u = Value.ref b := rv
    have ok := T.cok cl hc0
    rw [C.hK] at ok
    refine getmethsl_ok I1 hs ok.cls M ?_
    cases es with
    | nil =>
      cases is with
      | cons _ _ => simp [chkEs] at hc
      | nil =>
        simp only [evs, Out.bind, List.nil_append] at h1
        exact PySem.W.callWith_K0 (first := [.ref b]) I1.kIn M.kp (wpAny_call (run_codeG (E := WE XW σ) (us := [.ref b]) (vs := [.ref b]) F (hr.mono (by omega)) C.gd I1.env0 hb hd (passAt C.tk σ) I1 (.cons rfl .nil) ⟨W1, st1, d1 :: al.dv, sim1, .cons r1 (hdv W1), by
          cases e : al.sm (d1 :: al.dv) st1 with
          | ok a st => rw [e] at h1; exact h1
          | raise a st => rw [e] at h1; exact h1
          | stuck => rw [e] at h1; exact h1⟩))
    | cons y ys =>
      have hst : noStar y = true := by cases is with
        | nil => simp [chkEs] at hc
        | cons _ _ => simp only [chkEs, Bool.and_eq_true] at hc; exact hc.1.2
      have hpl : (backTo pos (starEach ys X.env)).any (·.1) = false := by cases is with
        | nil => simp [chkEs] at hc
        | cons _ _ => simp only [chkEs, Bool.and_eq_true] at hc; exact plain_args hc.2
      refine PySem.W.callWith_K (first := [.ref b]) (h₀ := X.base) I.ok.mod.kin M.kp (thn (ha.run pos pins s1 σ H1 _ I1 ⟨W1, st1, σd, sim1, rs.mono le1, h1.bind (RepA T)⟩) fun us s2 ⟨ws, H2, I2, r, q2⟩ => ⟨I2.kIn, ?_⟩) (star_cons hst) hpl
      obtain ⟨W2, xs, st2, le2, sim2, r2, h2⟩ := q2
      exact wpAny_call (run_codeG (E := WE XW σ) (us := .ref b :: us) (vs := .ref b :: ws) F (hr.mono (by omega)) C.gd I2.env0 hb hd (passAt C.tk σ) I2 (.cons rfl r) ⟨W2, st2, d1 :: (xs ++ al.dv), sim2, .cons (r1.mono le2) (r2.append (hdv W2)), by
        cases e : al.sm (d1 :: (xs ++ al.dv)) st2 with
        | ok a st => rw [e] at h2; exact h2
        | raise a st => rw [e] at h2; exact h2
        | stuck => rw [e] at h2; exact h2⟩)
  · exact h1.elim
/-! ### own operators -/
/-- the callee's reading, by the plain outcome -/
theorem spec_of {σ : L2.St} {W : Wd} {o : Out D} {Q : VK} {W' : Wd} (h : Pst T XW σ W (Rep T) o Q) (le : W.le W') : Pst T (fun cls dd _ H => WE XW σ cls dd H) [] W' (Rep T) o Q := by
  cases o with
  | ok a st => exact fun b W2 H' l s r => h b W2 H' (le.trans l) s r
  | raise x st => exact fun cls dd W2 H' l s r => h cls dd W2 H' (le.trans l) s r
  | stuck => exact h
theorem isObj_eq {k : Nat} {d : D} (h : isObj k d = true) : ∃ fs, d = .obj k fs := by
  cases d <;> first | (simp [isObj] at h; done) | skip
  simp [isObj] at h
  subst h
  exact ⟨_, rfl⟩
theorem obj_at {W : Wd} {st : Store} {H : Hp} {k : Nat} {d : D} {v : V} (s : Sim T W st H) (r : Rep T W d v) (h : isObj k d = true) : ∃ a dx vs, v = .ref a ∧ k < T.nc ∧ Slt H a (T.ca k) dx vs := by
  obtain ⟨fs, rfl⟩ := isObj_eq h
  obtain ⟨a, dx, vs, xs, rfl, hc, h1, h2, _, _⟩ := rep_obj r
  exact ⟨a, dx, vs, rfl, hc, obj_slt s h1 h2⟩
theorem ref_of_back {z : V} {w : Value} {P : Value → Shared → Prop} {s' : Shared} (r : RelV z w) (h : P w s') : PySem.W.CmpBack P w s' := cmpback r h
theorem c_ownU (C : Cond T XW P G c X) {o : UO} {uo : UnaryOp} {cl : Nat} {al : Alt} (hp : P al.i al.dv al.sm) (hm : (o = .neg ∧ uo = .USub) ∨ (o = .inv ∧ uo = .Invert)) (ht : ownAt c al cl o.dun = true) (ha : PE X x (tI T XW a)) :
    PE X (.UnaryOp uo x pos) (tI T XW (.ext (.ownU o cl al) (.cons a .nil))) := by
  simp only [ownAt, Bool.and_eq_true, decide_eq_true_eq] at ht
  refine ⟨fun pins s σ H Q I h => ?_⟩
  obtain ⟨W, st, σd, sim, rs, h⟩ := h
  rw [ev_ext1] at h
  refine UnaryOp_ (thn (ha.run pins s σ H _ I ⟨W, st, σd, sim, rs, h.bind (Rep T)⟩) fun u s1 ⟨v, H1, I1, rv, W1, d1, st1, le1, sim1, r1, h1⟩ => ?_)
  simp only [extD] at h1
  split at h1
  · rename_i hob
    obtain ⟨b, dx, vs, rfl, hc, hs⟩ := obj_at sim1 r1 hob
    obtain ⟨k, g, fd, ps, ds, dvs, F, hat, hb, hd, hdv, hr⟩ := (C.fn _ _ _ hp).ex
    rw [ht.1.2, ht.1.1] at hat
    have M : Meth X.K (T.ca cl) o.dun g := hat
    obtain rfl : u = Value.ref b := rv
    obtain ⟨sl, od, _, J, _⟩ := slt_inst I1 hs
    obtain ⟨m, hF⟩ := I1.fr
    have call : wpAny (model X.prog X.w) X.A (call (.ref g) [.ref b]) (EP X pins σ Q) X.xe s1 := wpAny_call (run_codeG (E := WE XW σ) (us := [.ref b]) (vs := [.ref b]) F (hr.mono (by omega)) C.gd I1.env0 hb hd (passAt C.tk σ) I1 (.cons rfl .nil) ⟨W1, st1, d1 :: al.dv, sim1, .cons r1 (hdv W1), spec_of h1 (.refl _)⟩)
    rcases hm with ⟨rfl, rfl⟩ | ⟨rfl, rfl⟩
    · exact PySem.W.ksp_neg hF I1.ok.mod.kin J M.at_ M.fn call
    · exact PySem.W.ksp_inv hF I1.ok.mod.kin J M.at_ M.fn call
  · exact h1.elim
/-- the kinds of values that == and + of an object may meet -/
inductive KindV (T : Tb) (K : PySem.W.Frag) (H : Hp) : V → Value → Prop
  | ty {v : V} {t : String} : TyX K H v (.type t) → t ∈ ["NoneType", "bool", "int", "str", "tuple", "list", "dict"] → KindV T K H v (.type t)
  | obj {k : Nat} {a dx : Addr} {vs : List (Option V)} : k < T.nc → Slt H a (T.ca k) dx vs → KindV T K H (.ref a) (.ref (T.ca k))
theorem kind_rep (hK : T.K = X.K) {W : Wd} {st : Store} {H : Hp} {d : D} {v : V} {k : Nat} {b : Bool} (sim : Sim T W st H) (r : Rep T W d v) (e : isCD k d = some b) : ∃ t, KindV T X.K H v t ∧ (k < T.nc → PySem.W.kitOne X.K t (.ref (T.ca k)) = some b) := by
  unfold isCD at e
  split at e
  all_goals try (cases e; done)
  · obtain ⟨a, dx, vs, xs, rfl, hc, h1, h2, _, _⟩ := rep_obj r
    cases e
    exact ⟨_, .obj hc (obj_slt sim h1 h2), fun hk => hK ▸ T.kit _ _ hc hk⟩
  · cases r; cases e; exact ⟨_, .ty (.base .non) (by simp), fun hk => hK ▸ (T.kib k hk _ (by simp)).1⟩
  · cases r; cases e; exact ⟨_, .ty (.base (.bl _)) (by simp), fun hk => hK ▸ (T.kib k hk _ (by simp)).1⟩
  · cases r; cases e; exact ⟨_, .ty (.base (.int _)) (by simp), fun hk => hK ▸ (T.kib k hk _ (by simp)).1⟩
  · cases r; cases e; exact ⟨_, .ty (.base (.str _)) (by simp), fun hk => hK ▸ (T.kib k hk _ (by simp)).1⟩
  · obtain ⟨p, xs, rfl, hx, r2⟩ := rep_tup r
    have hx' := hK ▸ Same.tup sim.sub hx
    cases e
    refine ⟨.type "tuple", .ty ?_ (by simp), fun hk => hK ▸ (T.kib k hk _ (by simp)).1⟩
    rcases hx' with (q | ⟨o, q⟩) | ⟨o, _, _, q, q2, _⟩
    · exact .base (.tup q)
    · exact .fTuple q
    · exact .kTuple q q2
  · obtain ⟨p, xs, rfl, hx, r2⟩ := rep_lst r
    have hx' := hK ▸ sim.sub.seq hx
    cases e
    refine ⟨.type "list", .ty ?_ (by simp), fun hk => hK ▸ (T.kib k hk _ (by simp)).1⟩
    rcases hx' with (q | ⟨o, q⟩) | ⟨o, _, _, q, q2, _⟩
    · exact .base (.lst q)
    · exact .base (.frz q)
    · exact .kList q q2
  · cases e
    cases r with
    | dct0 hx => exact ⟨.type "dict", .ty (.base (.dK (sim.sub _ _ hx))) (by simp), fun hk => hK ▸ (T.kib k hk _ (by simp)).1⟩
/-- isinstance(x, a class) -/
theorem call_isiK : CallR X (.builtin "isinstance") (fun xs H Q => ∃ x k t b, xs = [x, .ref (T.ca k)] ∧ T.K = X.K ∧ KindV T X.K H x t ∧ PySem.W.kitOne X.K t (.ref (T.ca k)) = some b ∧ Q (.bl b) H) := by
  intro pins s σ H xs us Q I r h
  obtain ⟨x, k, t, b, rfl, hK, ty, e, q⟩ := h
  obtain ⟨u1, u2, rfl, r1, r2⟩ := vals2 r
  cases (show u2 = Value.ref (T.ca k) from r2)
  cases ty with
  | ty ty _ =>
    obtain ⟨P, Z, p, hx⟩ := kit_of I r1 ty
    exact PySem.W.kia_one Z I.kIn p e hx fun tk => ⟨.bl b, H, I.tok tk, rfl, q⟩
  | obj hc hs =>
    cases (show u1 = Value.ref _ from r1)
    obtain ⟨sl, od, _, J, _⟩ := slt_inst I hs
    have ok := T.cok _ hc
    rw [hK] at ok
    exact PySem.W.kia_one (OwX.kitx_slt ok.cls.ic (ok.cls.get _) ok.isi.ca ok.isi.cn ok.isi.ct ok.isi.cm) I.kIn J e (fun z => nomatch z) fun tk => ⟨.bl b, H, I.tok _, rfl, q⟩
/-- isinstance(x, a built-in type) -/
theorem call_isiT : CallR X (.builtin "isinstance") (fun xs H Q => ∃ x s t b, xs = [x, .ty s] ∧ T.K = X.K ∧ KindV T X.K H x t ∧ PySem.W.kitOne X.K t (.type s) = some b ∧ Q (.bl b) H) := by
  intro pins s σ H xs us Q I r h
  obtain ⟨x, k, t, b, rfl, hK, ty, e, q⟩ := h
  obtain ⟨u1, u2, rfl, r1, r2⟩ := vals2 r
  cases (show u2 = Value.type k from r2)
  cases ty with
  | ty ty _ =>
    obtain ⟨P, Z, p, hx⟩ := kit_of I r1 ty
    exact PySem.W.kia_one Z I.kIn p e hx fun tk => ⟨.bl b, H, I.tok tk, rfl, q⟩
  | obj hc hs =>
    cases (show u1 = Value.ref _ from r1)
    obtain ⟨sl, od, _, J, _⟩ := slt_inst I hs
    have ok := T.cok _ hc
    rw [hK] at ok
    exact PySem.W.kia_one (OwX.kitx_slt ok.cls.ic (ok.cls.get _) ok.isi.ca ok.isi.cn ok.isi.ct ok.isi.cm) I.kIn J e (fun z => nomatch z) fun tk => ⟨.bl b, H, I.tok _, rfl, q⟩
theorem kind_repT (hK : T.K = X.K) {W : Wd} {st : Store} {H : Hp} {d : D} {v : V} {t : Ty} {b : Bool} (sim : Sim T W st H) (r : Rep T W d v) (e : isiD t d = some b) : ∃ ty, KindV T X.K H v ty ∧ PySem.W.kitOne X.K ty (.type t.id) = some b := by
  have fin : ∀ {s : String}, TyX X.K H v (.type s) → s ∈ ["NoneType", "bool", "int", "str", "tuple", "list", "dict"] → kitB s t.id = some b → ∃ ty, KindV T X.K H v ty ∧ PySem.W.kitOne X.K ty (.type t.id) = some b := fun ty hm e => ⟨_, .ty ty hm, kit_ty e⟩
  unfold isiD at e
  split at e
  all_goals try (cases e; done)
  · cases r; cases e; exact fin (.base .non) (by simp) (kit_all t (.inl ⟨rfl, rfl⟩))
  · cases r; cases e; exact fin (.base (.bl _)) (by simp) (kit_all t (.inr (.inl ⟨rfl, by cases t <;> rfl⟩)))
  · cases r; cases e; exact fin (.base (.int _)) (by simp) (kit_all t (.inr (.inr (.inl ⟨rfl, by cases t <;> rfl⟩))))
  · cases r; cases e; exact fin (.base (.str _)) (by simp) (kit_all t (.inr (.inr (.inr (.inl ⟨rfl, by cases t <;> rfl⟩)))))
  · obtain ⟨p, xs, rfl, hx, r2⟩ := rep_tup r
    have hx' := hK ▸ Same.tup sim.sub hx
    cases e
    refine fin ?_ (by simp) (kit_all t (.inr (.inr (.inr (.inr (.inl ⟨rfl, by cases t <;> rfl⟩))))))
    rcases hx' with (q | ⟨o, q⟩) | ⟨o, _, _, q, q2, _⟩
    · exact .base (.tup q)
    · exact .fTuple q
    · exact .kTuple q q2
  · obtain ⟨p, xs, rfl, hx, r2⟩ := rep_lst r
    have hx' := hK ▸ sim.sub.seq hx
    cases e
    refine fin ?_ (by simp) (kit_all t (.inr (.inr (.inr (.inr (.inr (.inl ⟨rfl, by cases t <;> rfl⟩)))))))
    rcases hx' with (q | ⟨o, q⟩) | ⟨o, _, _, q, q2, _⟩
    · exact .base (.lst q)
    · exact .base (.frz q)
    · exact .kList q q2
  · cases e
    cases r with
    | dct0 hx => exact fin (.base (.dK (sim.sub _ _ hx))) (by simp) (kit_all t (.inr (.inr (.inr (.inr (.inr (.inr ⟨rfl, by cases t <;> rfl⟩)))))))
  · cases e
    obtain ⟨a, dx, vs, xs, rfl, hc, h1, h2, _, _⟩ := rep_obj r
    exact ⟨_, .obj hc (obj_slt sim h1 h2), hK ▸ T.kti _ hc _ (by cases t <;> simp [Ty.id])⟩
theorem c_isi (C : Cond T XW P G c X) {t : Ty} {p1 p2 : Pos} (h1 : c.ik = true) (h2 : c.tk t = true) (h3 : glB c.sc "isinstance" = true) (h4 : glB c.sc t.nm = true) (ha : PE X y (tI T XW a)) (hs : noStar y = true) :
    PE X (.Call (.Name "isinstance" p1) [y, .Name t.nm p2] [] pos) (tI T XW (.isi t a)) := by
  have hz : PE X (.Name t.nm p2) (tC (.ty t.id)) := pe_bltn (C.gl' h4) (C.ty t h2) (boot_ty t) rfl (by cases t <;> decide) (by cases t <;> decide)
  refine PE.imp (pe_callB (call_isiT (T := T)) (C.gl' h3) (C.isi h1) (by decide +kernel) (pa_cons ha (pa_cons hz pa_nil) (star_cons hs)) (by decide) (by decide) (star_cons hs) rfl) ?_
  rintro σ H Q ⟨W, st, σd, sim, rs, h⟩
  simp only [ev] at h
  refine ⟨W, st, σd, sim, rs, (h.bind (Rep T)).imp ?_⟩
  rintro v H1 ⟨W1, d1, st1, le1, sim1, r1, h1⟩
  obtain ⟨dd, e, h2⟩ := ofO_ok (o := (isiD t d1).map D.bl) h1
  obtain ⟨k, e', rfl⟩ := Option.map_eq_some_iff.mp e
  obtain ⟨ty, k1, k2⟩ := kind_repT C.hK sim1 r1 e'
  show ∃ x s t' b, [v, V.ty t.id] = [x, V.ty s] ∧ _
  exact ⟨v, _, ty, k, rfl, C.hK, k1, k2, h2 _ W1 H1 (.refl _) sim1 (.bl _)⟩
theorem c_isC (C : Cond T XW P G c X) {k : Nat} {z : Str} {p1 p2 : Pos} (h1 : c.ik = true) (h3 : glB c.sc "isinstance" = true) (hk : k < c.nc) (hz : c.cn k = z) (h4 : glB c.sc z = true) (h5 : nmOk z = true) (ha : PE X y (tI T XW a)) (hs : noStar y = true) :
    PE X (.Call (.Name "isinstance" p1) [y, .Name z p2] [] pos) (tI T XW (.ext (.isC k) (.cons a .nil))) := by
  have hzz : PE X (.Name z p2) (tC (.ref (T.ca k))) := pe_glob (C.gl' h4) (by rw [← hz]; exact C.cl.2.2 k hk) (show RelV (V.ref (T.ca k)) (Value.ref (T.ca k)) from rfl) (nmOk.l h5)
  refine PE.imp (pe_callB (call_isiK (T := T)) (C.gl' h3) (C.isi h1) (by decide +kernel) (pa_cons ha (pa_cons hzz pa_nil) (star_cons hs)) (by decide) (by decide) (star_cons hs) rfl) ?_
  rintro σ H Q ⟨W, st, σd, sim, rs, h⟩
  rw [ev_ext1] at h
  refine ⟨W, st, σd, sim, rs, (h.bind (Rep T)).imp ?_⟩
  rintro v H1 ⟨W1, d1, st1, le1, sim1, r1, h1⟩
  obtain ⟨dd, e, h2⟩ := ofO_ok (o := (isCD k d1).map D.bl) h1
  obtain ⟨b, e', rfl⟩ := Option.map_eq_some_iff.mp e
  obtain ⟨t, k1, k2⟩ := kind_rep C.hK sim1 r1 e'
  show ∃ x k t b, [v, V.ref (T.ca _)] = [x, V.ref (T.ca k)] ∧ _
  exact ⟨v, k, t, b, rfl, C.hK, k1, k2 (Nat.lt_of_lt_of_le hk C.cl.1), h2 _ W1 H1 (.refl _) sim1 (.bl _)⟩
/-- what the model asks of a value's type -/
theorem looks_kind {pins : List (Addr × Obj)} {σ : L2.St} {H : Hp} {s : Shared} {v : V} {u t : Value} (I : Inv X pins σ H s) (ru : RelV v u) (h : KindV T X.K H v t)   : PySem.W.Looks (model X.prog X.w) s.heap (typeOf u) t := by
  cases h with
  | ty ty _ =>
    obtain ⟨P, Z, p, hx⟩ := kit_of I ru ty
    exact Z.ty _ _ I.kIn p
  | obj hc hs =>
    cases (show u = Value.ref _ from ru)
    obtain ⟨sl, od, _, J, _⟩ := slt_inst I hs
    exact J.type
theorem not_first (hK : T.K = X.K) {H : Hp} {v : V} {t : Value} {k : Nat} (h : KindV T X.K H v t) (hk : k < T.nc) : PySem.W.notFirst X.K (T.ca k) t = true := by
  cases h with
  | ty _ hm => exact hK ▸ (T.kib k hk _ hm).2.1
  | obj hc _ => exact hK ▸ T.nf _ _ hk hc
/-- a bool that is wanted back, in the outcome -/
theorem spec_eq {σ : L2.St} {W : Wd} {o : Out D} {Q : VK} {g : Bool → Bool} (h : Pst T XW σ W (Rep T) (o.bind fun r st1 => match r with
      | .bl b => .ok (.bl (g b)) st1
      | _ => .stuck) Q) : Pst T XW σ W (Rep T) o (fun z H => ∃ b, z = .bl b ∧ Q (.bl (g b)) H) := by
  cases o with
  | ok a st =>
    intro z W' H' le s r
    cases a <;> first | exact h.elim | skip
    cases rep_bl r
    exact ⟨_, rfl, h _ W' H' le s (.bl _)⟩
  | raise x st => exact h
  | stuck => exact h
/-- two operands, then the comparison -/
def CmpRun (X : Cx) (t : TE) (op : CmpOp) (x y : Expr) : Prop := ∀ (pins : List (Addr × Obj)) (s : Shared) (σ : L2.St) (H : Hp) (Q : VK), Inv X pins σ H s → t σ H Q →
  wpAny (model X.prog X.w) X.A (eval x X.env) (fun v s1 => wpAny (model X.prog X.w) X.A (eval y X.env) (fun u s2 => wpAny (model X.prog X.w) X.A (compareOp op v u) (EP X pins σ Q) X.xe s2) X.xe s1) X.xe s
theorem CmpRun.pe {t : TE} {op : CmpOp} (h : CmpRun X t op x y) (hm : behindInMarks op y = false) : PE X (.Compare x [op] [y] pos) t := ⟨fun pins s σ H Q I q => wpAny_Compare1 (h pins s σ H Q I q) hm⟩
theorem CmpRun.pt {t : IE} {op : CmpOp} (h : CmpRun X (tI T XW t) op x y) (hb : ∀ σd st d st', ev t σd st = .ok d st' → ∃ k, d = .bl k) (hm : behindInMarks op y = false) : PT X (.Compare x [op] [y] pos) (tIt T XW t) := by
  refine ⟨fun pins s σ H Q I q => ?_⟩
  refine wpAny_isTrue_Compare1 (thn (h pins s σ H _ I (t_of_bl q hb)) fun v s1 h1 => thn h1 fun u s2 h2 => thn h2 fun w s3 ⟨z, H3, I3, r3, k, e, q3⟩ => ?_) hm
  subst e
  cases r3
  exact wpAny_truthy_bool ⟨H3, I3, q3⟩
theorem ext_bl {o : CO} {cl : Nat} {al : Alt} {σd : EnvD} {st st' : Store} {d : D} (h : ev (.ext (.ownC o cl al) (.cons a (.cons b .nil))) σd st = .ok d st') : ∃ k, d = .bl k := by
  rw [ev_ext2] at h
  obtain ⟨_, _, _, h⟩ := bind_ok h
  obtain ⟨_, _, _, h⟩ := bind_ok h
  simp only [extD] at h
  split at h
  · obtain ⟨r, _, _, h⟩ := bind_ok h
    cases r <;> first | (cases h; done) | skip
    cases h
    exact ⟨_, rfl⟩
  · cases hc : cmpD o _ _ _ with
    | none => rw [hc] at h; cases h
    | some k => rw [hc] at h; cases h; exact ⟨_, rfl⟩
theorem r_ownEq (C : Cond T XW P G c X) {cl : Nat} {al : Alt} (hp : P al.i al.dv al.sm) (ht : ownAt c al cl "__eq__" = true) (ha : PE X x (tI T XW a)) (hb : PE X y (tI T XW b)) :
    CmpRun X (tI T XW (.ext (.ownC .eq cl al) (.cons a (.cons b .nil)))) .Eq x y := by
  simp only [ownAt, Bool.and_eq_true, decide_eq_true_eq] at ht
  intro pins s σ H Q I h
  obtain ⟨W, st, σd, sim, rs, h⟩ := h
  rw [ev_ext2] at h
  refine thn (ha.run pins s σ H _ I ⟨W, st, σd, sim, rs, h.bind (Rep T)⟩) fun u s1 ⟨v, H1, I1, rv, W1, d1, st1, le1, sim1, r1, h1⟩ => ?_
  refine thn (hb.run pins s1 σ H1 _ I1 ⟨W1, st1, σd, sim1, rs.mono le1, h1.bind (Rep T)⟩) fun u2 s2 ⟨v2, H2, I2, rv2, W2, d2, st2, le2, sim2, r2, h2⟩ => ?_
  simp only [extD] at h2
  split at h2
  · rename_i hob
    obtain ⟨q, hq⟩ := Option.isSome_iff_exists.mp hob.2
    obtain ⟨e, dx, vs, rfl, hc, hs⟩ := obj_at sim2 (r1.mono le2) hob.1
    obtain ⟨t, k1, _⟩ := kind_rep C.hK sim2 r2 hq
    obtain ⟨k, g, fd, ps, ds, dvs, F, hat, hb', hd, hdv, hr⟩ := (C.fn _ _ _ hp).ex
    rw [ht.1.2, ht.1.1] at hat
    have M : Meth X.K (T.ca cl) "__eq__" g := hat
    obtain rfl : u = Value.ref e := rv
    obtain ⟨sl, od, _, J, _⟩ := slt_inst I2 hs
    obtain ⟨m, hF⟩ := I2.fr
    refine PySem.W.cmp_K (op := .Eq) (tb := t) hr.units0 hF I2.ok.mod.kin J (looks_kind I2 rv2 k1) (not_first C.hK k1 hc) M.at_ M.fn ?_
    refine wpAny_mono (wpAny_call (run_codeG (E := WE XW σ) (us := [.ref e, u2]) (vs := [.ref e, v2]) F (hr.mono (by omega)) C.gd I2.env0 hb' hd (passAt C.tk σ) I2 (.cons rfl (.cons rv2 .nil))
      ⟨W2, st2, d1 :: d2 :: al.dv, sim2, .cons (r1.mono le2) (.cons r2 (hdv W2)), spec_of (spec_eq (g := fun b => if CO.eq = .ne then !b else b) h2) (.refl _)⟩)) (fun w s' z => ?_) fun _ _ z => z
    obtain ⟨z', H', I', rz, b', e', qz⟩ := z
    subst e'
    exact ref_of_back rz ⟨_, H', I', rz, qz⟩
  · obtain ⟨r, e, h3⟩ := ofO_ok h2
    exact op_cmp C.hK C.hu64 .eq pins s2 σ H2 v v2 u u2 Q I2 rv rv2 ⟨W2, st2, d1, d2, sim2, r1.mono le2, r2, r, e, h3⟩
theorem c_own2 (C : Cond T XW P G c X) {o : BO} {cl : Nat} {al : Alt} (hp : P al.i al.dv al.sm) (h0 : c.kd al.i = .op cl o) (ha : PE X x (tI T XW a)) (hb : PE X y (tI T XW b)) :
    PE X (.BinOp x o.op y pos) (tI T XW (.ext (.own2 o cl al) (.cons a (.cons b .nil)))) := by
  refine ⟨fun pins s σ H Q I h => ?_⟩
  obtain ⟨W, st, σd, sim, rs, h⟩ := h
  rw [ev_ext2] at h
  refine wpAny_BinOp (thn (ha.run pins s σ H _ I ⟨W, st, σd, sim, rs, h.bind (Rep T)⟩) fun u s1 ⟨v, H1, I1, rv, W1, d1, st1, le1, sim1, r1, h1⟩ => ?_)
  refine thn (hb.run pins s1 σ H1 _ I1 ⟨W1, st1, σd, sim1, rs.mono le1, h1.bind (Rep T)⟩) fun u2 s2 ⟨v2, H2, I2, rv2, W2, d2, st2, le2, sim2, r2, h2⟩ => ?_
  simp only [extD] at h2
  split at h2
  · rename_i hob
    obtain ⟨e, dx, vs, rfl, hc, hs⟩ := obj_at sim2 (r1.mono le2) hob.1
    obtain ⟨k, g, fd, ps, ds, dvs, F, hat, hb', hd, hdv, hr⟩ := (C.fn _ _ _ hp).ex
    rw [h0] at hat
    obtain ⟨M, hsf, hrr⟩ := hat
    obtain rfl : u = Value.ref e := rv
    obtain ⟨sl, od, _, J, _⟩ := slt_inst I2 hs
    obtain ⟨m, hF⟩ := I2.fr
    have call : wpAny (model X.prog X.w) X.A (call (.ref g) [.ref e, u2]) (EP X pins σ Q) X.xe s2 := wpAny_call (run_codeG (E := WE XW σ) (us := [.ref e, u2]) (vs := [.ref e, v2]) F (hr.mono (by omega)) C.gd I2.env0 hb' hd (passAt C.tk σ) I2 (.cons rfl (.cons rv2 .nil))
      ⟨W2, st2, d1 :: d2 :: al.dv, sim2, .cons (r1.mono le2) (.cons r2 (hdv W2)), spec_of h2 (.refl _)⟩)
    have back : wpAny (model X.prog X.w) X.A (PySem.call (.ref g) [.ref e, u2]) (PySem.W.CmpBack (EP X pins σ Q)) X.xe s2 := wpAny_mono call (fun w s' z => by
      obtain ⟨z', H', I', rz, qz⟩ := z
      exact ref_of_back rz ⟨_, H', I', rz, qz⟩) fun _ _ z => z
    cases hy : isObj cl d2 with
    | true =>
      obtain ⟨e2, dx2, vs2, rfl, _, hs2⟩ := obj_at sim2 r2 hy
      obtain rfl : u2 = Value.ref e2 := rv2
      obtain ⟨_, _, _, J2, _⟩ := slt_inst I2 hs2
      exact PySem.W.binop_K hF I2.ok.mod.kin J J2.type hsf M.at_ M.fn back
    | false =>
      rw [hy] at hob
      have hi : isIntD d2 = true := by have z := hob.2; rw [Bool.false_or] at z; exact z
      cases d2 <;> first | (exact absurd hi Bool.false_ne_true) | skip
      cases rep_int r2
      obtain ⟨tk, rfl⟩ := (show ∃ t, u2 = Value.int _ t from rv2)
      obtain ⟨fo, e1⟩ : ∃ fo, PySem.W.findIn X.K (.type "int") (PySem.dunder o.op.info.2) = some fo := by cases o <;> exact ⟨_, rfl⟩
      obtain ⟨ro, e2⟩ : ∃ ro, PySem.W.findIn X.K (.type "int") (PySem.dunderR o.op.info.2) = some ro := by cases o <;> exact ⟨_, rfl⟩
      exact PySem.W.ksp_binT (T := "int") hF I2.ok.mod.kin J rfl hsf M.at_ M.fn hrr (.inl rfl) e1 e2 (C.hK ▸ (T.kib _ hc "int" (by simp)).2.2) back
  · exact h2.elim
end
end Ip
set_option Elab.async false
set_option linter.all false
set_option maxRecDepth 100000
set_option maxHeartbeats 1000000
/-! Objects in terms: !=, len, bool, str; formatted texts. -/
namespace PySem.W
open PySem PySem.Spec PySem.Calls PyProof.Rows
open Builtin in
theorem ipne_entry {prog : Program} {w : World} {A : Around} {E : Value → Shared → Prop} {s : Shared} {K : Frag} {x C f : Addr} {ox : Obj} {od : Option Obj} {b : Value} {Q : Fin → Shared → Prop} (hu : A.units < cLine) (X : K.In s.heap) (I : InstAt s.heap x ox C od)
    (hs : findIn K (.ref C) "__eq__" = some (some (.ref f))) (hf : isFn K (.ref f) = true) (h : wpAny (model prog w) A (call (.ref f) [.ref x, b]) (fun v s' => ∃ k, v = .bool k ∧ Q (.done (.ret (.bool (!k)))) s') E s) :
    wpAny (model prog w) A (Builtin.«object.__ne__» ⟨[.ref x, b], []⟩) Q E s := by
  unfold Builtin.«object.__ne__»
  refine wpAny_bind (m := slotArgs "__ne__" 1 _) (wpAny_pure ?_)
  refine wpAny_bind (m := cRoomFor _ _) (wpAny_cRoomFor hu ?_)
  refine wpAny_bind (m := callSpecialIfBound? (.ref x) (Str.ofString "__eq__") [b]) (ifBound_K X I hs hf (wpAny_mono h (fun r s' hq => ?_) fun _ _ y => y))
  obtain ⟨k, rfl, hq⟩ := hq
  exact wpAny_bind (wpAny_truthy_bool (wpAny_pure hq))
theorem ipne {prog : Program} {w : World} {A : Around} {E : Value → Shared → Prop} {s : Shared} {K : Frag} {x C L f : Addr} {h₀ : Heap} {m : Str → Option Value} {ox : Obj} {od : Option Obj} {b tb : Value} {Q : Value → Shared → Prop} (hu : A.units + 1 < cLine) (F : Fr h₀ L s.heap m) (X₀ : K.In h₀) (I : InstAt s.heap x ox C od)
    (hb : Looks (model prog w) s.heap (typeOf b) tb) (hn : notFirst K C tb = true) (hne : findIn K (.ref C) "__ne__" = some (some (.builtin "object.__ne__"))) (hm : mroIn K C (.type "object") = some true)
    (hs : findIn K (.ref C) "__eq__" = some (some (.ref f))) (hf : isFn K (.ref f) = true) (h : wpAny (model prog w) A.in1 (call (.ref f) [.ref x, b]) (fun v s' => ∃ k, v = .bool k ∧ Q (.bool (!k)) s') E s) :
    wpAny (model prog w) A (richCompare .NotEq (.ref x) b) Q E s := by
  have X := X₀.keeps F.keep
  have one : wpAny (model prog w) A (tryCompare (.ref x) "__ne__" b) (fun r s' => ∃ v, r = some v ∧ Q v s') E s := by
    unfold tryCompare
    have cl : wpAny (model prog w) A (call (.builtin "object.__ne__") [.ref x, b]) (fun v s' => ∃ k, v = .bool k ∧ Q (.bool k) s') E s := by
      refine wpAny_call (codeAny_call_builtin PySem.F.cmp_object.ne.plain PySem.F.cmpEntry_ne (check_slot (i := "object.__ne__") (owner := "object") (n := "__ne__") (by decide +kernel) (by decide +kernel) (I.type.andThen (looks_mroIn X hm)) (PySem.F.cmpArgs_ne _ _) ?_))
      refine ipne_entry (A := A.in1) hu X I hs hf (wpAny_mono h (fun v s' hv => ?_) fun _ _ e => e)
      obtain ⟨k, rfl, hq⟩ := hv
      exact ⟨k, rfl, _, rfl, hq⟩
    have sp : wpAny (model prog w) A (callSpecialIfBound? (.ref x) (Str.ofString "__ne__") [b]) (fun r s' => ∃ k, r = some (.bool k) ∧ Q (.bool k) s') E s := by
      simp only [callSpecialIfBound?, bindSpecialIfBound?]
      refine wpAny_holding (wpAny_bind (wpAny_bind (wpAny_bind (I.type.here ((looks_findIn X hne).here ?_)))))
      simp only [PySem.F.cmp_object.ne.bind]
      refine wpAny_bind (wpAny_askSetting (wpAny_ite ?_))
      have fin : wpAny (model prog w) A (call (.builtin "object.__ne__") ([.ref x] ++ [b]) >>= fun v => pure (some v)) (fun r s' => ∃ k, r = some (.bool k) ∧ Q (.bool k) s') E s :=
        wpAny_bind (wpAny_mono cl (fun v s' h' => by obtain ⟨k, rfl, hq⟩ := h'; exact wpAny_pure ⟨k, rfl, hq⟩) fun _ _ h' => h')
      split
      · exact wpAny_bind (wpAny_pure (wpAny_pure fin))
      · exact wpAny_tryCatch (wpAny_bind (wpAny_pure (wpAny_pure fin)))
    refine wpAny_bind (wpAny_mono sp (fun r s' hr => ?_) fun _ _ e => e)
    obtain ⟨k, rfl, hq⟩ := hr
    exact wpAny_pure ⟨_, rfl, hq⟩
  unfold richCompare
  simp only [oneThing_ref]
  refine wpAny_holding (wpAny_bind (wpAny_cRoomFor (by omega) ?_))
  refine wpAny_bind (I.type.here (wpAny_bind (hb.here ?_)))
  split
  · rename_i q
    have e : subIn K tb (.ref C) = some false := by
      rcases Bool.or_eq_true_iff.mp hn with e | e
      · rw [beq_iff_eq.mp e] at q; simp at q
      · exact beq_iff_eq.mp e
    refine wpAny_bind ((looks_subIn X e).here ?_)
    simp only [Bool.false_eq_true, if_false]
    refine wpAny_bind (wpAny_mono one (fun r s' z => ?_) fun _ _ e => e)
    obtain ⟨v, rfl, hq⟩ := z
    exact wpAny_pure hq
  · refine wpAny_bind (wpAny_pure ?_)
    simp only [Bool.false_eq_true, if_false]
    refine wpAny_bind (wpAny_mono one (fun r s' z => ?_) fun _ _ e => e)
    obtain ⟨v, rfl, hq⟩ := z
    exact wpAny_pure hq
end PySem.W
namespace Ip
open PySem PySem.Spec PyProof.Rows L2 SlX
section
variable {T : Tb} {XW : WX} {P : Nat → List D → Fn → Prop} {G : Nat → D → Prop} {c : Cfg} {X : Cx} {e x y z : Expr} {a b d : IE} {pos : Pos}
theorem r_ownNe (C : Cond T XW P G c X) {cl : Nat} {al : Alt} (hp : P al.i al.dv al.sm) (ht : ownAt c al cl "__eq__" = true) (ha : PE X x (tI T XW a)) (hb : PE X y (tI T XW b)) :
    CmpRun X (tI T XW (.ext (.ownC .ne cl al) (.cons a (.cons b .nil)))) .NotEq x y := by
  simp only [ownAt, Bool.and_eq_true, decide_eq_true_eq] at ht
  intro pins s σ H Q I h
  obtain ⟨W, st, σd, sim, rs, h⟩ := h
  rw [ev_ext2] at h
  refine thn (ha.run pins s σ H _ I ⟨W, st, σd, sim, rs, h.bind (Rep T)⟩) fun u s1 ⟨v, H1, I1, rv, W1, d1, st1, le1, sim1, r1, h1⟩ => ?_
  refine thn (hb.run pins s1 σ H1 _ I1 ⟨W1, st1, σd, sim1, rs.mono le1, h1.bind (Rep T)⟩) fun u2 s2 ⟨v2, H2, I2, rv2, W2, d2, st2, le2, sim2, r2, h2⟩ => ?_
  simp only [extD] at h2
  split at h2
  · rename_i hob
    obtain ⟨q, hq⟩ := Option.isSome_iff_exists.mp hob.2
    obtain ⟨e, dx, vs, rfl, hc, hs⟩ := obj_at sim2 (r1.mono le2) hob.1
    obtain ⟨t, k1, _⟩ := kind_rep C.hK sim2 r2 hq
    obtain ⟨k, g, fd, ps, ds, dvs, F, hat, hb', hd, hdv, hr⟩ := (C.fn _ _ _ hp).ex
    rw [ht.1.2, ht.1.1] at hat
    have M : Meth X.K (T.ca cl) "__eq__" g := hat
    obtain rfl : u = Value.ref e := rv
    obtain ⟨sl, od, _, J, _⟩ := slt_inst I2 hs
    obtain ⟨m, hF⟩ := I2.fr
    have ok := T.cok cl hc
    rw [C.hK] at ok
    refine PySem.W.ipne (tb := t) (by have := hr.un; omega) hF I2.ok.mod.kin J (looks_kind I2 rv2 k1) (not_first C.hK k1 hc) ok.ne ok.isi.cm M.at_ M.fn ?_
    refine wpAny_mono (wpAny_call (run_codeG (E := WE XW σ) (A := X.A.in1) (us := [.ref e, u2]) (vs := [.ref e, v2]) F (hr.mono (by omega : k + 1 ≤ k + 2)).in1 C.gd I2.env0.in1 hb' hd (passAt C.tk σ) I2 (.cons rfl (.cons rv2 .nil))
      ⟨W2, st2, d1 :: d2 :: al.dv, sim2, .cons (r1.mono le2) (.cons r2 (hdv W2)), spec_of (spec_eq (g := fun b => if CO.ne = .ne then !b else b) h2) (.refl _)⟩)) (fun w s' z => ?_) fun _ _ z => z
    obtain ⟨z', H', I', rz, b', e', qz⟩ := z
    subst e'
    cases rz
    exact ⟨b', rfl, .bl (!b'), H', I', rfl, qz⟩
  · obtain ⟨r, e, h3⟩ := ofO_ok h2
    exact op_cmp C.hK C.hu64 .ne pins s2 σ H2 v v2 u u2 Q I2 rv rv2 ⟨W2, st2, d1, d2, sim2, r1.mono le2, r2, r, e, h3⟩
/-- a builtin of an object, by its own def, which lets no exception out -/
theorem own_at (C : Cond T XW P G c X) {cl : Nat} {al : Alt} {nm : Str} (hp : P al.i al.dv al.sm) (ht : ownAt c al cl nm = true) {pins : List (Addr × Obj)} {σ : L2.St} {H : Hp} {s : Shared} {Q : VK} {W : Wd} {st : Store} {d1 : D} {v : V} {u : Value} {f : D → Store → Out D} {A : Around} {E : Value → Shared → Prop}
    (I : Inv X pins σ H s) (sim : Sim T W st H) (r : Rep T W d1 v) (ru : RelV v u) (ho : isObj cl d1 = true) (hu : ∀ k, Room (k + 2) X.A → Room k A) (hg : A.guards = some []) (e0 : Env0 X.prog X.w X.K X.mg X.base A X.stack s H) (h : Pst T XW σ W (Rep T) ((noRaise (al.sm (d1 :: al.dv) st)).bind f) Q) :
    ∃ e g ox od, v = .ref e ∧ u = .ref e ∧ PySem.W.InstAt s.heap e ox (T.ca cl) (some od) ∧ Meth X.K (T.ca cl) nm g ∧ Room 0 X.A ∧ cl < T.nc ∧
      wpAny (model X.prog X.w) A (call (.ref g) [.ref e]) (EP X pins σ fun z H' => ∃ W' d st', W.le W' ∧ Sim T W' st' H' ∧ Rep T W' d z ∧ Pst T XW σ W' (Rep T) (f d st') Q) E s := by
  simp only [ownAt, Bool.and_eq_true, decide_eq_true_eq] at ht
  obtain ⟨e, dx, vs, rfl, hc, hs⟩ := obj_at sim r ho
  obtain ⟨k, g, fd, ps, ds, dvs, F, hat, hb', hd, hdv, hr⟩ := (C.fn _ _ _ hp).ex
  rw [ht.1.2, ht.1.1] at hat
  have M : Meth X.K (T.ca cl) nm g := hat
  obtain rfl : u = Value.ref e := ru
  obtain ⟨sl, od, _, J, _⟩ := slt_inst I hs
  refine ⟨e, g, _, od, rfl, rfl, J, M, hr.mono (Nat.zero_le _), hc, ?_⟩
  have spec : spOf T al.sm ([.ref e] ++ dvs) H (fun z H' => ∃ W' d st', W.le W' ∧ Sim T W' st' H' ∧ Rep T W' d z ∧ Pst T XW σ W' (Rep T) (f d st') Q) (fun _ _ _ => False) := ⟨W, st, d1 :: al.dv, sim, .cons r (hdv W), by
    cases es : al.sm (d1 :: al.dv) st with
    | raise _ _ => rw [es] at h; exact h.elim
    | stuck => rw [es] at h; exact h.elim
    | ok dd st2 => rw [es] at h; exact fun b W' H' le s' r' => ⟨W', dd, st2, le, s', r', Pst.mono le h⟩⟩
  have rr : Vals ([V.ref e] ++ dvs) ([Value.ref e] ++ ds) := Vals.append (.cons rfl .nil) hd
  have ll : ([Value.ref e] ++ ds).length = ps.length := rr.length ▸ F.len _ _ _ _ spec
  refine wpAny_call (codeAny_mono (F.run A X.stack s H ⟨[.ref e], []⟩ _ _ _ (fun _ _ _ => False) (hu k hr) hg e0 (hb' _ [.ref e] I.kIn ll) rr spec) fun r s' hq2 => ?_)
  cases r with
  | error e =>
    obtain ⟨_, _, _, _, _, _, _, _, _, _, _, _, z⟩ := hq2
    exact z.elim
  | ok fl =>
    cases fl with
    | ret u => exact I.after hq2
    | next => exact False.elim hq2
    | brk => exact False.elim hq2
    | cont => exact False.elim hq2
/-- the one argument's reading -/
theorem one_arg {σ : L2.St} {H : Hp} {Q : VK} {pins : List (Addr × Obj)} {s : Shared} {f : D → Store → Out D} {R : List Value → Shared → Prop} {pos : Pos} (ha : PE X x (tI T XW a)) (hs : noStar x = true) (I : Inv X pins σ H s) {W : Wd} {st : Store} {σd : EnvD} (sim : Sim T W st H) (rs : RepS T W σ σd)
    (h : Pst T XW σ W (Rep T) ((ev a σd st).bind f) Q) (k : ∀ u s1 v H1, Inv X pins σ H1 s1 → RelV v u → (∃ W1 d1 st1, W.le W1 ∧ Sim T W1 st1 H1 ∧ Rep T W1 d1 v ∧ Pst T XW σ W1 (Rep T) (f d1 st1) Q) → R [u] s1) :
    wpAny (model X.prog X.w) X.A (spliced (backTo pos (starEach [x] X.env))) R X.xe s := by
  refine thn ((pa_cons ha pa_nil (star_cons hs)).run pos pins s σ H (fun vs H1 => ∃ v, vs = [v] ∧ ∃ W1 d1 st1, W.le W1 ∧ Sim T W1 st1 H1 ∧ Rep T W1 d1 v ∧ Pst T XW σ W1 (Rep T) (f d1 st1) Q) I ⟨W, st, σd, sim, rs, (h.bind (Rep T)).imp fun v H1 q => ⟨v, rfl, q⟩⟩) fun us s1 ⟨vs, H1, I1, r1, v, e, q⟩ => ?_
  subst e
  obtain ⟨u, rfl, ru⟩ := vals1 r1
  exact k u s1 v H1 I1 ru q
theorem c_ownLen (C : Cond T XW P G c X) {cl : Nat} {al : Alt} {p : Pos} (hp : P al.i al.dv al.sm) (h0 : c.bk .len = true) (h2 : glB c.sc "len" = true) (ht : ownAt c al cl "__len__" = true) (ha : PE X x (tI T XW a)) (hs : noStar x = true) :
    PE X (.Call (.Name "len" p) [x] [] pos) (tI T XW (.ext (.ownB .len cl al) (.cons a .nil))) := by
  refine ⟨fun pins s σ H Q I h => ?_⟩
  obtain ⟨W, st, σd, sim, rs, h⟩ := h
  rw [ev_ext1] at h
  have m := C.bl .len h0
  refine wpAny_Call_Name_kw (ld_blt I (C.gl' h2) m (show bootBuiltins "len" = some (.builtin "len") by decide +kernel) ?_ (by decide) (by decide))
  refine PyProof.Rows.callWith_builtin1 (one_arg ha hs I sim rs h fun u s1 v H1 I1 rv ⟨W1, d1, st1, le1, sim1, r1, h1⟩ => ?_) (star_cons hs) rfl
  simp only [extD] at h1
  split at h1
  · rename_i hob
    obtain ⟨e, g, ox, od, rfl, rfl, J, M, hr0, hc, call⟩ := own_at (E := X.xe) C hp ht I1 sim1 r1 rv hob (A := X.A.in1) (fun k hr => (hr.mono (by omega : k + 1 ≤ k + 2)).in1) C.gd I1.env0.in1 h1
    obtain ⟨m', hF⟩ := I1.fr
    refine PySem.W.len_K hF I1.ok.mod.kin J M.at_ M.fn (wpAny_mono call (fun w s' z => ?_) fun _ _ z => z)
    obtain ⟨z', H', I', rz, W2, d2, st2, le2, sim2, r2, h2⟩ := z
    cases d2 <;> first | exact h2.elim | skip
    cases rep_int r2
    obtain ⟨tk, rfl⟩ := (show ∃ t, w = Value.int _ t from rz)
    simp only at h2
    split at h2
    · rename_i hz
      exact ⟨by omega, .int _, H', I'.tok _, ⟨_, rfl⟩, h2 _ W2 H' (.refl _) sim2 (.int _)⟩
    · exact h2.elim
  · exact h1.elim
theorem c_ownStr (C : Cond T XW P G c X) {cl : Nat} {al : Alt} {p : Pos} (hp : P al.i al.dv al.sm) (h0 : c.bk .str = true) (h2 : glB c.sc "str" = true) (ht : ownAt c al cl "__str__" = true) (ha : PE X x (tI T XW a)) (hs : noStar x = true) :
    PE X (.Call (.Name "str" p) [x] [] pos) (tI T XW (.ext (.ownB .str cl al) (.cons a .nil))) := by
  refine ⟨fun pins s σ H Q I h => ?_⟩
  obtain ⟨W, st, σd, sim, rs, h⟩ := h
  rw [ev_ext1] at h
  have m := C.bl .str h0
  refine wpAny_Call_Name_kw (ld_blt I (C.gl' h2) m (show bootBuiltins "str" = some (.type "str") by decide +kernel) ?_ (by decide) (by decide))
  refine PyProof.Rows.callWith_type1 (one_arg ha hs I sim rs h fun u s1 v H1 I1 rv ⟨W1, d1, st1, le1, sim1, r1, h1⟩ => ?_) (star_cons hs) rfl
  simp only [extD] at h1
  split at h1
  · rename_i hob
    obtain ⟨e, g, ox, od, rfl, rfl, J, M, hr0, hc, call⟩ := own_at (E := X.xe) C hp ht I1 sim1 r1 rv hob (A := X.A.in1.in1) (fun k hr => (show Room (k + 1) X.A.in1 from Room.in1 hr).in1) C.gd I1.env0.in1.in1 h1
    refine PySem.W.kso_call (by have := C.hu; show X.A.units + 1 + 1 < cLine; omega) I1.kIn J M.at_ M.fn (wpAny_mono call (fun w s' z => ?_) fun _ _ z => z)
    obtain ⟨z', H', I', rz, W2, d2, st2, le2, sim2, r2, h2⟩ := z
    cases d2 <;> first | exact h2.elim | skip
    cases rep_str r2
    obtain ⟨tk, rfl⟩ := (show ∃ t, w = Value.str _ t from rz)
    exact ⟨.str _, H', I', ⟨_, rfl⟩, h2 _ W2 H' (.refl _) sim2 (.str _)⟩
  · exact h1.elim
theorem bool_own {prog : Program} {w : World} {A : Around} {E : Value → Shared → Prop} {s : Shared} {K : PySem.W.Frag} {x C L f : Addr} {h₀ : Heap} {m : Str → Option Value} {ox : Obj} {od : Option Obj} {Q : Value → Shared → Prop} (F : Fr h₀ L s.heap m) (X₀ : K.In h₀) (I : PySem.W.InstAt s.heap x ox C od)
    (hs : PySem.W.findIn K (.ref C) "__bool__" = some (some (.ref f))) (hf : PySem.W.isFn K (.ref f) = true) (h : wpAny (model prog w) A.in1.in1 (call (.ref f) [.ref x]) (PySem.W.BoolBack fun b => Q (.bool b)) E s) : wpAny (model prog w) A (call (.type "bool") [.ref x]) Q E s := by
  refine callType_codes (T := "bool") (Bi := Builtin.«object.__init__») (Q₁ := fun r s₁ => ∃ b, r = Value.bool b ∧ Q r s₁) PySem.F.called_bool (PySem.F.typeCall_bool_1 _) PySem.F.entry_object_init ?_ ?_
  · refine codeAny_of_tree ?_
    show wpAny _ A.in1.in1 (do checkBuiltinCall "bool.__new__" ⟨[.type "bool", .ref x], []⟩; again (.builtin "bool.__new__" ⟨[.type "bool", .ref x], []⟩)) _ _ s
    refine wpAny_bind (wpAny_of_eq (PySem.F.newCall_bool_1 _) (wpAny_pure ⟨plainId_quiet (by decide +kernel) _, codeAny_builtin PySem.F.entry_bool_new ?_⟩))
    rw [Around.under_plainId (by decide +kernel) _]
    unfold Builtin.«bool.__new__»
    refine wpAny_bind (wpAny_of_eq (a := true) (by rfl) ?_)
    refine PySem.W.KFB.if_not rfl ?_
    refine wpAny_bind (wpAny_of_eq (a := true) PySem.F.conv_sub_bool ?_)
    refine PySem.W.KFB.if_not rfl ?_
    refine wpAny_bind (m := someArgs "bool" 0 1 _) (wpAny_pure ?_)
    refine wpAny_bind (PySem.W.truthy_K F X₀ I hs hf (wpAny_mono h (fun r s' hr => ?_) fun _ _ y => y))
    cases r <;> first | exact hr.elim | skip
    exact wpAny_pure ⟨_, rfl, hr⟩
  · rintro obj s₁ ⟨b, rfl, hq⟩
    exact ⟨PySem.typeIs_bool _ _, PySem.F.args_object_init_2 _ _, object_init_meets PySem.F.called_bool.init.lookup PySem.F.called_bool.made (by decide) prog w A.in1 _ s₁ ⟨PySem.typeIs_bool _ _, rfl, hq⟩⟩
theorem c_ownBool (C : Cond T XW P G c X) {cl : Nat} {al : Alt} {p : Pos} (hp : P al.i al.dv al.sm) (h0 : c.bk .bool = true) (h2 : glB c.sc "bool" = true) (ht : ownAt c al cl "__bool__" = true) (ha : PE X x (tI T XW a)) (hs : noStar x = true) :
    PE X (.Call (.Name "bool" p) [x] [] pos) (tI T XW (.ext (.ownB .bool cl al) (.cons a .nil))) := by
  refine ⟨fun pins s σ H Q I h => ?_⟩
  obtain ⟨W, st, σd, sim, rs, h⟩ := h
  rw [ev_ext1] at h
  have m := C.bl .bool h0
  refine wpAny_Call_Name_kw (ld_blt I (C.gl' h2) m (show bootBuiltins "bool" = some (.type "bool") by decide +kernel) ?_ (by decide) (by decide))
  refine PyProof.Rows.callWith_type1 (one_arg ha hs I sim rs h fun u s1 v H1 I1 rv ⟨W1, d1, st1, le1, sim1, r1, h1⟩ => ?_) (star_cons hs) rfl
  simp only [extD] at h1
  split at h1
  · rename_i hob
    obtain ⟨e, g, ox, od, rfl, rfl, J, M, hr0, hc, call⟩ := own_at (E := X.xe) C hp ht I1 sim1 r1 rv hob (A := X.A.in1.in1) (fun k hr => (show Room (k + 1) X.A.in1 from Room.in1 hr).in1) C.gd I1.env0.in1.in1 h1
    obtain ⟨m', hF⟩ := I1.fr
    refine bool_own hF I1.ok.mod.kin J M.at_ M.fn (wpAny_mono call (fun w s' z => ?_) fun _ _ z => z)
    obtain ⟨z', H', I', rz, W2, d2, st2, le2, sim2, r2, h2⟩ := z
    cases d2 <;> first | exact h2.elim | skip
    cases rep_bl r2
    cases (show w = Value.bool _ from rz)
    exact ⟨.bl _, H', I', rfl, h2 _ W2 H' (.refl _) sim2 (.bl _)⟩
  · exact h1.elim
/-! ### formatted texts -/
/-- {x}: a text or an integer -/
def tFmtB (te : TE) : TE := fun σ H Q => te σ H fun x H1 => (∃ y : Str, x = .str y ∧ y.length ≤ sizeLine ∧ Q (.str y) H1) ∨ ∃ i : Int, x = .int i ∧ bits i < 12900 ∧ Q (.str (toString i)) H1
theorem pe_fmtB {T : Tb} {X : Cx} {e : Expr} {te : TE} {pos : Pos} (hK : T.K = X.K) (he : PE X e te) : PE X (.FormattedValue e (-1) none pos) (tFmtB te) := by
  refine ⟨fun pins s σ H Q I h => ?_⟩
  refine wpAny_FormattedValue_plain (thn (he.run pins s σ H _ I h) fun v s1 hv => ?_)
  obtain ⟨x, H1, I1, r1, q⟩ := hv
  rcases q with ⟨y, rfl, hz, q⟩ | ⟨i, rfl, hz, q⟩
  · obtain ⟨t, rfl⟩ := r1
    exact wpAny_formatField_str ⟨.str y, H1, I1, ⟨t, rfl⟩, q⟩ ⟨.str y, H1, I1.tok _, ⟨_, rfl⟩, q⟩ hz
  · obtain ⟨t, rfl⟩ := r1
    exact big_format (inv_digits hK I1) (big_of hz) ⟨.str (toString i), H1, I1.tok _, ⟨_, rfl⟩, q⟩
theorem fmt_rep {W : Wd} {d : D} {v : V} {x : Str} (r : Rep T W d v) (h : fmtD d = some x) : (∃ y : Str, v = .str y ∧ y.length ≤ sizeLine ∧ x = y) ∨ ∃ i : Int, v = .int i ∧ bits i < 12900 ∧ x = toString i := by
  unfold fmtD at h
  split at h
  · cases rep_str r
    split at h
    · rename_i hz
      exact .inl ⟨_, rfl, szOk.le hz, (Option.some.inj h).symm⟩
    · cases h
  · cases rep_int r
    split at h
    · rename_i hz
      exact .inr ⟨_, rfl, hz, (Option.some.inj h).symm⟩
    · cases h
  · cases h
theorem fmt_cons_some {x : Str} {ps : List (Option Str)} {v : Expr} {vs xs : List Expr} (h : fmtParts (some x :: ps) (v :: vs) = some xs) : (∃ n p, v = .Constant (.str x) n p) ∧ fmtParts ps vs = some xs := by
  unfold fmtParts at h
  cases v <;> first | (cases h; done) | skip
  rename_i k n p
  cases k <;> first | (cases h; done) | skip
  simp only at h
  split at h
  · rename_i e
    subst e
    exact ⟨⟨_, _, rfl⟩, h⟩
  · cases h
theorem fmt_cons_none {ps : List (Option Str)} {v : Expr} {vs xs : List Expr} (h : fmtParts (none :: ps) (v :: vs) = some xs) : ∃ e p xs', v = .FormattedValue e (-1) none p ∧ xs = e :: xs' ∧ fmtParts ps vs = some xs' := by
  unfold fmtParts at h
  cases v <;> first | (cases h; done) | skip
  rename_i e f sp p
  cases sp <;> first | (cases h; done) | skip
  simp only at h
  split at h
  · rename_i e0
    subst e0
    obtain ⟨xs', h', rfl⟩ := Option.map_eq_some_iff.mp h
    exact ⟨_, _, xs', rfl, rfl, h'⟩
  · cases h
theorem fstr_js (hK : T.K = X.K) (ps : List (Option Str)) : ∀ {vs xs : List Expr} {is : IEs}, fmtParts ps vs = some xs → AllPE T XW X is xs → ∃ ts, PJ X vs ts ∧ ∀ (acc : Str) (σ : L2.St) (H : Hp) (Q : Str → Hp → Prop) (W : Wd) (st st' : Store) (σd : EnvD) (ds : List D) (out : Str), Sim T W st H → RepS T W σ σd →
    evs is σd st = .ok ds st' → fstrD ps ds acc = some out → (∀ W' H', W.le W' → Sim T W' st' H' → Q out H') → tJs ts acc σ H Q := by
  induction ps with
  | nil =>
    intro vs xs is h hA
    cases vs with
    | cons _ _ => cases h
    | nil =>
      cases h
      cases is with
      | cons _ _ => exact hA.elim
      | nil =>
        refine ⟨[], .nil, fun acc σ H Q W st st' σd ds out sim rs he hf q => ?_⟩
        simp only [evs] at he
        cases he
        cases hf
        exact q W H (.refl _) sim
  | cons pt ps ih =>
    intro vs xs is h hA
    cases vs with
    | nil => cases pt <;> cases h
    | cons v vs =>
      cases pt with
      | some x =>
        obtain ⟨⟨n, p, rfl⟩, h2⟩ := fmt_cons_some h
        obtain ⟨ts, hj, hr⟩ := ih h2 hA
        refine ⟨tC (.str x) :: ts, .cons pe_str hj, fun acc σ H Q W st st' σd ds out sim rs he hf q => ?_⟩
        have hf' : (if szOk (acc ++ x).length then fstrD ps ds (acc ++ x) else none) = some out := by
          rw [fstrD] at hf; exact hf
        split at hf'
        · rename_i hz
          exact ⟨x, rfl, szOk.le hz, hr _ _ _ _ W st st' σd ds out sim rs he hf' q⟩
        · cases hf'
      | none =>
        obtain ⟨e, p, xs', rfl, rfl, h2⟩ := fmt_cons_none h
        cases is with
        | nil => exact hA.elim
        | cons a is =>
          obtain ⟨ts, hj, hr⟩ := ih h2 hA.2
          refine ⟨tFmtB (tI T XW a) :: ts, .cons (pe_fmtB hK hA.1) hj, fun acc σ H Q W st st' σd ds out sim rs he hf q => ?_⟩
          simp only [evs] at he
          obtain ⟨d1, st1, e1, he⟩ := bind_ok he
          obtain ⟨dr, st2, e2, he⟩ := bind_ok he
          cases he
          have hf' : (match fmtD d1 with
            | some x => if szOk (acc ++ x).length then fstrD ps dr (acc ++ x) else none
            | none => none) = some out := by rw [fstrD] at hf; exact hf
          refine ⟨W, st, σd, sim, rs, ?_⟩
          rw [e1]
          intro v1 W1 H1 le1 sim1 r1
          cases hx : fmtD d1 with
          | none => rw [hx] at hf'; cases hf'
          | some x =>
            rw [hx] at hf'
            simp only at hf'
            split at hf'
            · rename_i hz
              have fin : tJs ts (acc ++ x) σ H1 Q := hr _ _ _ _ W1 st1 st' σd dr out sim1 (rs.mono le1) e2 hf' fun W' H' le' s' => q W' H' (le1.trans le') s'
              rcases fmt_rep r1 hx with ⟨y, rfl, hy, rfl⟩ | ⟨i, rfl, hi, rfl⟩
              · exact .inl ⟨x, rfl, hy, x, rfl, szOk.le hz, fin⟩
              · exact .inr ⟨i, rfl, hi, toString i, rfl, szOk.le hz, fin⟩
            · cases hf'
theorem c_fstr (C : Cond T XW P G c X) {ps : List (Option Str)} {vs xs : List Expr} {is : IEs} (h : fmtParts ps vs = some xs) (hA : AllPE T XW X is xs) (h2 : 2 ≤ vs.length) : PE X (.JoinedStr vs pos) (tI T XW (.fstr ps is)) := by
  obtain ⟨ts, hj, hr⟩ := fstr_js C.hK ps h hA
  rcases vs with _ | ⟨v1, _ | ⟨v2, vs⟩⟩
  · simp at h2
  · simp at h2
  · refine PE.imp (pe_joined hj) ?_
    rintro σ H Q ⟨W, st, σd, sim, rs, q⟩
    simp only [ev] at q
    cases e : evs is σd st with
    | raise _ _ => rw [e] at q; exact q.elim
    | stuck => rw [e] at q; exact q.elim
    | ok ds st' =>
      rw [e] at q
      obtain ⟨dd, e2, q2⟩ := ofO_ok (o := (fstrD ps ds "").map D.str) q
      obtain ⟨out, e3, rfl⟩ := Option.map_eq_some_iff.mp e2
      exact hr "" σ H _ W st st' σd ds out sim rs e e3 fun W' H' le s' => q2 _ W' H' le s' (.str _)
/-- one part -/
theorem c_fstr1 (C : Cond T XW P G c X) {ps : List (Option Str)} {e : Expr} {p : Pos} {xs : List Expr} {is : IEs} (h : fmtParts ps [.FormattedValue e (-1) none p] = some xs) (hA : AllPE T XW X is xs) : PE X (.JoinedStr [.FormattedValue e (-1) none p] pos) (tI T XW (.fstr ps is)) := by
  cases ps with
  | nil => cases h
  | cons pt ps =>
    cases pt with
    | some x => cases h
    | none =>
      obtain ⟨e', p', xs', e1, rfl, h2⟩ := fmt_cons_none h
      cases e1
      cases ps with
      | cons q _ => cases q <;> cases h2
      | nil =>
        cases h2
        obtain ⟨a, rfl, hp⟩ := AllPE.one hA
        refine PE.imp (pe_joined1 (pe_fmtB C.hK hp)) ?_
        rintro σ H Q ⟨W, st, σd, sim, rs, q⟩
        simp only [ev, evs] at q
        refine ⟨W, st, σd, sim, rs, ?_⟩
        cases e2 : ev a σd st with
        | raise _ _ => rw [e2] at q; exact q.elim
        | stuck => rw [e2] at q; exact q.elim
        | ok d1 st' =>
          rw [e2] at q
          obtain ⟨dd, e3, q2⟩ := ofO_ok (o := (fstrD [none] [d1] "").map D.str) q
          obtain ⟨out, e4, rfl⟩ := Option.map_eq_some_iff.mp e3
          have hf' : (match fmtD d1 with
            | some x => if szOk (("" : Str) ++ x).length then fstrD [] [] ("" ++ x) else none
            | none => none) = some out := by rw [fstrD] at e4; exact e4
          intro v1 W1 H1 le1 sim1 r1
          cases hx : fmtD d1 with
          | none => rw [hx] at hf'; cases hf'
          | some x =>
            rw [hx] at hf'
            simp only at hf'
            split at hf'
            · rw [fstrD] at hf'
              have he : ("" : Str) ++ x = x := by
                show Str.mk (#[] ++ x.cps) = x
                rw [Array.empty_append]
              rw [he] at hf'
              cases hf'
              rcases fmt_rep r1 hx with ⟨y, rfl, hy, rfl⟩ | ⟨i, rfl, hi, rfl⟩
              · exact .inl ⟨_, rfl, hy, q2 _ W1 H1 le1 sim1 (.str _)⟩
              · exact .inr ⟨i, rfl, hi, q2 _ W1 H1 le1 sim1 (.str _)⟩
            · cases hf'
end
end Ip
set_option Elab.async false
set_option linter.all false
set_option maxRecDepth 100000
set_option maxHeartbeats 1000000
/-! == and != of lists of own objects, item by item. -/
namespace PySem.SeqAt
open AutoSeq1 (wpAny_loadPart')
open MeetsSeq MeetsSeq2 MeetsSeq3 SeqRoads2
open PyProof.Rows PySem.Spec
/-- from here on all items are found equal -/
def RunEq (prog : Program) (w : World) (A : Around) (l b : Addr) (R : Shared → Prop) : Nat → Nat → Shared → Prop
  | 0, i, s => ∃ its its2 : Array Value, PlainL s.heap l its ∧ PlainL s.heap b its2 ∧ its.size = i ∧ its2.size = i ∧ R s
  | k + 1, i, s => ∃ (its its2 : Array Value) (h1 : i < its.size) (h2 : i < its2.size), PlainL s.heap l its ∧ PlainL s.heap b its2 ∧
      ∀ (E : Value → Shared → Prop) (Q : Bool → Shared → Prop), (∀ s', RunEq prog w A l b R k (i + 1) s' → Q true s') → wpAny (model prog w) A (eqBool its[i] its2[i]) Q E s
section
variable {prog : Program} {w : World}
theorem run_loopEq (l b : Addr) (k : Nat) : ∀ i : Nat, MeetsIn prog w (Builtin.«list.__eq__.loop» ⟨[.ref l, .ref b, rawInt i, rawInt 2], []⟩) (fun A R s => RunEq prog w A.in1 l b (fun s' => R (.ok (.ret (.bool true))) s') k i s) := by
  induction k with
  | zero =>
    intro i A R s h
    obtain ⟨hp, g, d, tk, os⟩ := s
    obtain ⟨its, its2, ⟨⟨c1, d1, t1, sl1⟩, n1, e1, f1, g1, k1⟩, ⟨⟨c2, d2, t2, sl2⟩, n2, e2, f2, g2, k2⟩, z1, z2, h⟩ := h
    simp only at f1 g1 k1 f2 g2 k2
    subst f1 g1 k1 f2 g2 k2
    have hi1 : its[((i : Nat) : Int).toNat]? = none := by simp; omega
    have hi2 : its2[((i : Nat) : Int).toNat]? = none := by simp; omega
    wp_walk using wpAny_loadPart' e1, wpAny_loadPart' e2
    rw [hi1, hi2]
    wp_walk using wpAny_loadPart' e1, wpAny_loadPart' e2
    show R (.ok (.ret (.bool (its.size == its2.size)))) _
    rw [z1, z2]
    simpa using h
  | succ k ih =>
    intro i A R s h
    obtain ⟨hp, g, d, tk, os⟩ := s
    obtain ⟨its, its2, z1, z2, ⟨⟨c1, d1, t1, sl1⟩, n1, e1, f1, g1, k1⟩, ⟨⟨c2, d2, t2, sl2⟩, n2, e2, f2, g2, k2⟩, h⟩ := h
    simp only at f1 g1 k1 f2 g2 k2
    subst f1 g1 k1 f2 g2 k2
    have hi1 : its[((i : Nat) : Int).toNat]? = some its[i] := by simp [z1]
    have hi2 : its2[((i : Nat) : Int).toNat]? = some its2[i] := by simp [z2]
    have hc : ((i : Int) + 1) = ((i + 1 : Nat) : Int) := by push_cast; rfl
    wp_walk using wpAny_loadPart' e1, wpAny_loadPart' e2
    rw [hi1, hi2]
    refine wpAny_bind (h _ _ fun s' hs => ?_)
    wp_walk
    rw [hc]
    exact ⟨plainId_quiet plain_eq_loop _, codeAny_builtin entry_eq_loop (by
      rw [Around.under_plainId plain_eq_loop _]
      exact ih (i + 1) A R _ hs)⟩
theorem run_loopNe (l b : Addr) (k : Nat) : ∀ i : Nat, MeetsIn prog w (Builtin.«list.__eq__.loop» ⟨[.ref l, .ref b, rawInt i, rawInt 3], []⟩) (fun A R s => RunEq prog w A.in1 l b (fun s' => R (.ok (.ret (.bool false))) s') k i s) := by
  induction k with
  | zero =>
    intro i A R s h
    obtain ⟨hp, g, d, tk, os⟩ := s
    obtain ⟨its, its2, ⟨⟨c1, d1, t1, sl1⟩, n1, e1, f1, g1, k1⟩, ⟨⟨c2, d2, t2, sl2⟩, n2, e2, f2, g2, k2⟩, z1, z2, h⟩ := h
    simp only at f1 g1 k1 f2 g2 k2
    subst f1 g1 k1 f2 g2 k2
    have hi1 : its[((i : Nat) : Int).toNat]? = none := by simp; omega
    have hi2 : its2[((i : Nat) : Int).toNat]? = none := by simp; omega
    wp_walk using wpAny_loadPart' e1, wpAny_loadPart' e2
    rw [hi1, hi2]
    wp_walk using wpAny_loadPart' e1, wpAny_loadPart' e2
    show R (.ok (.ret (.bool (its.size != its2.size)))) _
    rw [z1, z2]
    simpa using h
  | succ k ih =>
    intro i A R s h
    obtain ⟨hp, g, d, tk, os⟩ := s
    obtain ⟨its, its2, z1, z2, ⟨⟨c1, d1, t1, sl1⟩, n1, e1, f1, g1, k1⟩, ⟨⟨c2, d2, t2, sl2⟩, n2, e2, f2, g2, k2⟩, h⟩ := h
    simp only at f1 g1 k1 f2 g2 k2
    subst f1 g1 k1 f2 g2 k2
    have hi1 : its[((i : Nat) : Int).toNat]? = some its[i] := by simp [z1]
    have hi2 : its2[((i : Nat) : Int).toNat]? = some its2[i] := by simp [z2]
    have hc : ((i : Int) + 1) = ((i + 1 : Nat) : Int) := by push_cast; rfl
    wp_walk using wpAny_loadPart' e1, wpAny_loadPart' e2
    rw [hi1, hi2]
    refine wpAny_bind (h _ _ fun s' hs => ?_)
    wp_walk
    rw [hc]
    exact ⟨plainId_quiet plain_eq_loop _, codeAny_builtin entry_eq_loop (by
      rw [Around.under_plainId plain_eq_loop _]
      exact ih (i + 1) A R _ hs)⟩
theorem run_head {A : Around} {l b : Addr} {R : Shared → Prop} : ∀ {k i : Nat} {s : Shared}, RunEq prog w A l b R k i s → ∃ its its2 : Array Value, PlainL s.heap l its ∧ PlainL s.heap b its2
  | 0, _, _, ⟨its, its2, h1, h2, _⟩ => ⟨its, its2, h1, h2⟩
  | _ + 1, _, _, ⟨its, its2, _, _, h1, h2, _⟩ => ⟨its, its2, h1, h2⟩
theorem run_listEq (l b : Addr) (k : Nat) : MeetsIn prog w (Builtin.«list.__eq__» ⟨[.ref l, .ref b], []⟩) (fun A R s => RunEq prog w A.in1 l b (fun s' => R (.ok (.ret (.bool true))) s') k 0 s ∧ ∀ its its2 : Array Value, PlainL s.heap l its → PlainL s.heap b its2 → its.size = its2.size) := by
  intro A R s ⟨h, hz⟩
  obtain ⟨hp, g, d, tk, os⟩ := s
  obtain ⟨its, its2, p1, p2⟩ := run_head h
  have hsz := hz _ _ p1 p2
  obtain ⟨⟨c1, d1, t1, sl1⟩, n1, e1, f1, g1, k1⟩ := p1
  obtain ⟨⟨c2, d2, t2, sl2⟩, n2, e2, f2, g2, k2⟩ := p2
  simp only at f1 g1 k1 f2 g2 k2
  subst f1 g1 k1 f2 g2 k2
  have f3 := AutoSeq1.sub_list_list
  have hne : ¬ (its.size != its2.size) = true := by simp [hsz]
  wp_walk using wpAny_loadPart' e1, wpAny_loadPart' e2
  exact ⟨plainId_quiet plain_eq_loop _, codeAny_builtin entry_eq_loop (by
    rw [Around.under_plainId plain_eq_loop _]
    exact run_loopEq l b k 0 A R _ h)⟩
theorem run_listNe (l b : Addr) (k : Nat) : MeetsIn prog w (Builtin.«list.__ne__» ⟨[.ref l, .ref b], []⟩) (fun A R s => RunEq prog w A.in1 l b (fun s' => R (.ok (.ret (.bool false))) s') k 0 s ∧ ∀ its its2 : Array Value, PlainL s.heap l its → PlainL s.heap b its2 → its.size = its2.size) := by
  intro A R s ⟨h, hz⟩
  obtain ⟨hp, g, d, tk, os⟩ := s
  obtain ⟨its, its2, p1, p2⟩ := run_head h
  have hsz := hz _ _ p1 p2
  obtain ⟨⟨c1, d1, t1, sl1⟩, n1, e1, f1, g1, k1⟩ := p1
  obtain ⟨⟨c2, d2, t2, sl2⟩, n2, e2, f2, g2, k2⟩ := p2
  simp only at f1 g1 k1 f2 g2 k2
  subst f1 g1 k1 f2 g2 k2
  have f3 := AutoSeq1.sub_list_list
  have hne : ¬ (its.size != its2.size) = true := by simp [hsz]
  wp_walk using wpAny_loadPart' e1, wpAny_loadPart' e2
  exact ⟨plainId_quiet plain_eq_loop _, codeAny_builtin entry_eq_loop (by
    rw [Around.under_plainId plain_eq_loop _]
    exact run_loopNe l b k 0 A R _ h)⟩
/-- ==, != of two lists -/
theorem run_rc {A : Around} {s : Shared} {l b : Addr} {k : Nat} {op : CmpOp} {r : Bool} {E Q : Value → Shared → Prop} (hop : (op = .Eq ∧ r = true) ∨ (op = .NotEq ∧ r = false)) (h : RunEq prog w A.in1 l b (fun s' => Q (.bool r) s') k 0 s) (hz : ∀ its its2 : Array Value, PlainL s.heap l its → PlainL s.heap b its2 → its.size = its2.size) (hu : A.units < cLine) :
    wpAny (model prog w) A (richCompare op (.ref l) (.ref b)) Q E s := by
  obtain ⟨its, its2, p1, p2⟩ := run_head h
  have ta : s.TypeIs (.ref l) "list" := by obtain ⟨o, n, e, c, _⟩ := p1; exact ⟨o, e, c⟩
  have tb : s.TypeIs (.ref b) "list" := by obtain ⟨o, n, e, c, _⟩ := p2; exact ⟨o, e, c⟩
  have imp : ∀ {A : Around} {R R' : Shared → Prop}, (∀ s, R s → R' s) → ∀ {k i : Nat} {s : Shared}, RunEq prog w A l b R k i s → RunEq prog w A l b R' k i s := by
    intro A R R' hR k
    induction k with
    | zero => rintro i s ⟨its, its2, a1, a2, a3, a4, a5⟩; exact ⟨its, its2, a1, a2, a3, a4, hR _ a5⟩
    | succ k ih => rintro i s ⟨its, its2, a1, a2, a3, a4, a5⟩; exact ⟨its, its2, a1, a2, a3, a4, fun E Q hq => a5 E Q fun s' hs => hq s' (ih hs)⟩
  rcases hop with ⟨rfl, rfl⟩ | ⟨rfl, rfl⟩
  · exact wpAny_richCompare_same_room (op := .Eq) ta tb F.slot_list_eq (call_meetsIn F.slot_list_eq ta F.entry_list_eq (F.args_list_eq_2 _ _) (run_listEq l b k) ⟨imp (fun s hs => (⟨(fun x => nomatch x), hs⟩ : Value.bool true ≠ Value.notImplemented ∧ Q (.bool true) s)) h, hz⟩) hu
  · exact wpAny_richCompare_same_room (op := .NotEq) ta tb F.slot_list_ne (call_meetsIn F.slot_list_ne ta F.entry_list_ne (F.args_list_ne_2 _ _) (run_listNe l b k) ⟨imp (fun s hs => (⟨(fun x => nomatch x), hs⟩ : Value.bool false ≠ Value.notImplemented ∧ Q (.bool false) s)) h, hz⟩) hu
end
end PySem.SeqAt
namespace Ip
open PySem PySem.Spec PyProof.Rows L2 SlX PySem.SeqAt
section
variable {T : Tb} {XW : WX} {P : Nat → List D → Fn → Prop} {G : Nat → D → Prop} {c : Cfg} {X : Cx} {e x y z : Expr} {a b d : IE} {pos : Pos}
theorem plainL_inj {h : Heap} {a : Addr} {xs ys : Array Value} (p : PlainL h a xs) (q : PlainL h a ys) : xs = ys := by
  obtain ⟨o, n, e, _, _, d⟩ := p
  obtain ⟨o', n', e', _, _, d'⟩ := q
  rw [e] at e'; cases e'
  rw [d] at d'
  injection d'
theorem isCD_obj {c : Nat} {d : D} (h : isObj c d = true) : isCD c d = some true := by
  cases d <;> simp only [isObj, Bool.false_eq_true] at h
  simp [isCD, h]
/-- an own def of two arguments, which gives True and leaves the store -/
theorem own2_at (C : Cond T XW P G c X) {cl : Nat} {al : Alt} {nm : Str} (hp : P al.i al.dv al.sm) (ht : ownAt c al cl nm = true) {pins : List (Addr × Obj)} {σ : L2.St} {H : Hp} {s : Shared} {W : Wd} {st : Store} {d1 d2 : D} {v1 v2 : V} {u1 u2 : Value} {A : Around} {E : Value → Shared → Prop}
    (I : Inv X pins σ H s) (sim : Sim T W st H) (r1 : Rep T W d1 v1) (ru1 : RelV v1 u1) (r2 : Rep T W d2 v2) (ru2 : RelV v2 u2) (ho : isObj cl d1 = true) (hu : ∀ k, Room (k + 2) X.A → Room k A) (hg : A.guards = some []) (e0 : Env0 X.prog X.w X.K X.mg X.base A X.stack s H) (h : al.sm (d1 :: d2 :: al.dv) st = .ok (.bl true) st) :
    ∃ e g ox od, v1 = .ref e ∧ u1 = .ref e ∧ PySem.W.InstAt s.heap e ox (T.ca cl) (some od) ∧ Meth X.K (T.ca cl) nm g ∧ cl < T.nc ∧
      wpAny (model X.prog X.w) A (call (.ref g) [.ref e, u2]) (EP X pins σ fun z H' => z = .bl true ∧ ∃ W', W.le W' ∧ Sim T W' st H') E s := by
  simp only [ownAt, Bool.and_eq_true, decide_eq_true_eq] at ht
  obtain ⟨e, dx, vs, rfl, hc, hs⟩ := obj_at sim r1 ho
  obtain ⟨k, g, fd, ps, ds, dvs, F, hat, hb', hd, hdv, hr⟩ := (C.fn _ _ _ hp).ex
  rw [ht.1.2, ht.1.1] at hat
  have M : Meth X.K (T.ca cl) nm g := hat
  obtain rfl : u1 = Value.ref e := ru1
  obtain ⟨sl, od, _, J, _⟩ := slt_inst I hs
  refine ⟨e, g, _, od, rfl, rfl, J, M, hc, ?_⟩
  have spec : spOf T al.sm ([.ref e, v2] ++ dvs) H (fun z H' => z = .bl true ∧ ∃ W', W.le W' ∧ Sim T W' st H') (fun _ _ _ => False) := ⟨W, st, d1 :: d2 :: al.dv, sim, .cons r1 (.cons r2 (hdv W)), by
    rw [h]
    exact fun b W' H' le s' r' => ⟨rep_bl r', W', le, s'⟩⟩
  have rr : Vals ([V.ref e, v2] ++ dvs) ([Value.ref e, u2] ++ ds) := Vals.append (.cons rfl (.cons ru2 .nil)) hd
  have ll : ([Value.ref e, u2] ++ ds).length = ps.length := rr.length ▸ F.len _ _ _ _ spec
  refine wpAny_call (codeAny_mono (F.run A X.stack s H ⟨[.ref e, u2], []⟩ _ _ _ (fun _ _ _ => False) (hu k hr) hg e0 (hb' _ [.ref e, u2] I.kIn ll) rr spec) fun r s' hq2 => ?_)
  cases r with
  | error e =>
    obtain ⟨_, _, _, _, _, _, _, _, _, _, _, _, z⟩ := hq2
    exact z.elim
  | ok fl =>
    cases fl with
    | ret u => exact I.after hq2
    | next => exact False.elim hq2
    | brk => exact False.elim hq2
    | cont => exact False.elim hq2
theorem eqLs_cons {cl : Nat} {al : Alt} {st : Store} {x y : D} {xs ys : List D} (h : eqLs cl al st (x :: xs) (y :: ys) = true) : isObj cl x = true ∧ isObj cl y = true ∧ al.sm (x :: y :: al.dv) st = .ok (.bl true) st ∧ eqLs cl al st xs ys = true := by
  simp only [eqLs, Bool.and_eq_true] at h
  obtain ⟨⟨⟨h1, h2⟩, h3⟩, h4⟩ := h
  refine ⟨h1, h2, ?_, h4⟩
  split at h3
  · rename_i st' e
    rw [sameSt_eq h3] at e
    exact e
  · cases h3
theorem eqLs_len {cl : Nat} {al : Alt} {st : Store} : ∀ {xs ys : List D}, eqLs cl al st xs ys = true → xs.length = ys.length
  | [], [], _ => rfl
  | x :: xs, y :: ys, h => by rw [List.length_cons, List.length_cons, eqLs_len (eqLs_cons h).2.2.2]
  | [], _ :: _, h => by simp [eqLs] at h
  | _ :: _, [], h => by simp [eqLs] at h
theorem vals_at {vs : List V} {its : List Value} (r : Vals vs its) {i : Nat} {v : V} (h : vs[i]? = some v) : ∃ (hi : i < its.toArray.size), RelV v its.toArray[i] := by
  have hl := r.length
  have hi : i < vs.length := (List.getElem?_eq_some_iff.mp h).1
  obtain ⟨u, e, q⟩ := r.get h
  refine ⟨by simp; omega, ?_⟩
  have e2 : its.toArray[i]? = some u := by simpa using e
  obtain ⟨_, e3⟩ := Array.getElem?_eq_some_iff.mp e2
  rw [e3]
  exact q
theorem eq_run (C : Cond T XW P G c X) {cl : Nat} {al : Alt} (hp : P al.i al.dv al.sm) (ht : ownAt c al cl "__eq__" = true) {pins : List (Addr × Obj)} {σ : L2.St} {st : Store} {l b : Addr} {Q : VK} {r : Bool} : ∀ (xs ys pre pre2 : List D) (vs ws : List V) (W : Wd) (H : Hp) (s : Shared), Inv X pins σ H s → Sim T W st H → eqLs cl al st xs ys = true → pre.length = pre2.length →
    SqL T.K W.F l vs → SqL T.K W.F b ws → RepA T W (pre ++ xs) vs → RepA T W (pre2 ++ ys) ws → (∀ W' H', W.le W' → Sim T W' st H' → Q (.bl r) H') → RunEq X.prog X.w X.A.in1 l b (fun s' => EP X pins σ Q (.bool r) s') xs.length pre.length s
  | [], ys, pre, pre2, vs, ws, W, H, s, I, sim, he, hl, q1, q2, r1, r2, hq => by
    cases ys with
    | cons _ _ => simp [eqLs] at he
    | nil =>
      obtain ⟨its, a1, a2, _⟩ := I.list (C.hK ▸ sim.sub.seq q1)
      obtain ⟨its2, b1, b2, _⟩ := I.list (C.hK ▸ sim.sub.seq q2)
      have l1 := r1.length
      have l2 := r2.length
      have l3 := a1.length
      have l4 := b1.length
      simp only [List.append_nil] at l1 l2
      refine ⟨its.toArray, its2.toArray, a2, b2, by simp; omega, by simp; omega, .bl r, H, I, rfl, hq W H (.refl _) sim⟩
  | x :: xs, ys, pre, pre2, vs, ws, W, H, s, I, sim, he, hl, q1, q2, r1, r2, hq => by
    cases ys with
    | nil => simp [eqLs] at he
    | cons y ys =>
      obtain ⟨ox, oy, hsm, he2⟩ := eqLs_cons he
      obtain ⟨its, a1, a2, _⟩ := I.list (C.hK ▸ sim.sub.seq q1)
      obtain ⟨its2, b1, b2, _⟩ := I.list (C.hK ▸ sim.sub.seq q2)
      obtain ⟨v, ev, rv⟩ := r1.get (i := pre.length) (d := x) (by simp)
      obtain ⟨v', ev', rv'⟩ := r2.get (i := pre.length) (d := y) (by rw [hl]; simp)
      obtain ⟨i1, u1⟩ := vals_at a1 ev
      obtain ⟨i2, u2⟩ := vals_at b1 ev'
      refine ⟨its.toArray, its2.toArray, i1, i2, a2, b2, fun E Q' hq' => ?_⟩
      have next : ∀ (W' : Wd) (H' : Hp) (s' : Shared), W.le W' → Sim T W' st H' → Inv X pins σ H' s' → RunEq X.prog X.w X.A.in1 l b (fun s' => EP X pins σ Q (.bool r) s') xs.length (pre.length + 1) s' := fun W' H' s' le s2 I' => by
        have z := eq_run C hp ht xs ys (pre ++ [x]) (pre2 ++ [y]) vs ws W' H' s' I' s2 he2 (by simp [hl]) (le.1.1.seq q1) (le.1.1.seq q2) (by rw [List.append_assoc]; exact r1.mono le) (by rw [List.append_assoc]; exact r2.mono le) (fun W2 H2 le2 => hq W2 H2 (le.trans le2))
        rw [List.length_append] at z
        exact z
      generalize its.toArray[pre.length] = w1 at u1
      generalize its2.toArray[pre.length] = w2 at u2
      obtain ⟨e1, g, oo, od, rfl, rfl, J, M, hc, call⟩ := own2_at (E := E) C hp ht I sim rv u1 rv' u2 ox (A := X.A.in1) (fun k hr => (hr.mono (by omega : k + 1 ≤ k + 2)).in1) C.gd I.env0.in1 hsm
      obtain ⟨e2, dx2, vs2, rfl, hc2, hs2⟩ := obj_at sim rv' oy
      obtain rfl : w2 = Value.ref e2 := u2
      by_cases hne : e1 = e2
      · subst hne
        exact EqAt.same (.ref e1) _ _ E Q' (hq' s (next W H s (.refl _) sim I))
      · unfold eqBool
        refine wpAny_holding ?_
        refine wpAny_ite_split (fun hab => absurd (by have := eq_of_beq hab; injection this) hne) (fun _ => ?_)
        obtain ⟨m, hF⟩ := I.fr
        obtain ⟨t, k1, _⟩ := kind_rep C.hK sim rv' (show isCD cl y = some _ from isCD_obj oy)
        have hr0 : Room 0 X.A := C.room
        refine wpAny_bind (PySem.W.cmp_K (op := .Eq) (tb := t) (A := X.A.in1) (by have := hr0.un; show X.A.units + 1 < cLine; omega) hF I.ok.mod.kin J (looks_kind I (show RelV (.ref e2) (Value.ref e2) from rfl) k1) (not_first C.hK k1 hc) M.at_ M.fn (wpAny_mono call (fun w' s' z => ?_) fun _ _ z => z))
        obtain ⟨z', H', I', rz, e', W', le', s2⟩ := z
        subst e'
        cases rz
        exact ref_of_back (z := .bl true) rfl (wpAny_truthy_bool (hq' s' (next W' H' s' le' s2 I')))
theorem r_eqL (C : Cond T XW P G c X) {o : CO} (ho : o = .eq ∨ o = .ne) {cl : Nat} {al : Alt} (hp : P al.i al.dv al.sm) (ht : ownAt c al cl "__eq__" = true) (ha : PE X x (tI T XW a)) (hb : PE X y (tI T XW b)) :
    CmpRun X (tI T XW (.ext (.eqL o cl al) (.cons a (.cons b .nil)))) o.op x y := by
  intro pins s σ H Q I h
  obtain ⟨W, st, σd, sim, rs, h⟩ := h
  rw [ev_ext2] at h
  refine thn (ha.run pins s σ H _ I ⟨W, st, σd, sim, rs, h.bind (Rep T)⟩) fun u s1 ⟨v, H1, I1, rv, W1, d1, st1, le1, sim1, r1, h1⟩ => ?_
  refine thn (hb.run pins s1 σ H1 _ I1 ⟨W1, st1, σd, sim1, rs.mono le1, h1.bind (Rep T)⟩) fun u2 s2 ⟨v2, H2, I2, rv2, W2, d2, st2, le2, sim2, r2, h2⟩ => ?_
  simp only [extD] at h2
  split at h2
  case h_2 => exact h2.elim
  rename_i xs ys e
  injection e with e1 e2
  injection e2 with e2 _
  subst e1 e2
  split at h2
  · rename_i he
    obtain ⟨l, vs, rfl, q1, ra1⟩ := rep_lst (r1.mono le2)
    obtain ⟨b', ws, rfl, q2, ra2⟩ := rep_lst r2
    obtain rfl : u = Value.ref l := rv
    obtain rfl : u2 = Value.ref b' := rv2
    have lens := eqLs_len he
    have run := fun r hq => eq_run (Q := Q) (r := r) C hp ht xs ys [] [] vs ws W2 H2 s2 I2 sim2 he rfl q1 q2 ra1 ra2 hq
    have hz : ∀ its its2 : Array Value, PlainL s2.heap l its → PlainL s2.heap b' its2 → its.size = its2.size := fun its its2 p1 p2 => by
      obtain ⟨js, a1, a2, _⟩ := I2.list (C.hK ▸ sim2.sub.seq q1)
      obtain ⟨ks, b1, b2, _⟩ := I2.list (C.hK ▸ sim2.sub.seq q2)
      rw [plainL_inj p1 a2, plainL_inj p2 b2]
      have l1 := ra1.length
      have l2 := ra2.length
      have l3 := a1.length
      have l4 := b1.length
      simp; omega
    have hr0 : Room 0 X.A := C.room
    rcases ho with rfl | rfl
    · exact run_rc (op := .Eq) (r := true) (.inl ⟨rfl, rfl⟩) (run true fun W' H' le s' => h2 (.bl true) W' H' le s' (.bl _)) hz hr0.units0
    · exact run_rc (op := .NotEq) (r := false) (.inr ⟨rfl, rfl⟩) (run false fun W' H' le s' => h2 (.bl false) W' H' le s' (.bl _)) hz hr0.units0
  · exact h2.elim
theorem eqL_bl {o : CO} {cl : Nat} {al : Alt} {σd : EnvD} {st st' : Store} {d : D} (h : ev (.ext (.eqL o cl al) (.cons a (.cons b .nil))) σd st = .ok d st') : ∃ k, d = .bl k := by
  rw [ev_ext2] at h
  obtain ⟨_, _, _, h⟩ := bind_ok h
  obtain ⟨_, _, _, h⟩ := bind_ok h
  simp only [extD] at h
  split at h
  · split at h
    · cases h
      exact ⟨_, rfl⟩
    · cases h
  · cases h
end
end Ip
set_option Elab.async false
set_option linter.all false
set_option maxRecDepth 100000
set_option maxHeartbeats 1000000
/-! Every term. -/
namespace Ip
open PySem PySem.Spec PyProof.Rows L2

def okX (P : Nat → List D → Fn → Prop) : XO → Prop
  | .fld _ => True
  | .prop alts => ∀ p ∈ alts, P p.2.i p.2.dv p.2.sm
  | .mk _ _ a => P a.i a.dv a.sm
  | .own2 _ _ a => P a.i a.dv a.sm
  | .ownC _ _ a => P a.i a.dv a.sm
  | .eqL _ _ a => P a.i a.dv a.sm
  | .ownU _ _ a => P a.i a.dv a.sm
  | .ownB _ _ a => P a.i a.dv a.sm
  | .isC _ => True
mutual
def okE (P : Nat → List D → Fn → Prop) (G : Nat → D → Prop) : IE → Prop
  | .var _ => True
  | .con _ => True
  | .glob i d => G i d
  | .bin _ a b => okE P G a ∧ okE P G b
  | .un _ a => okE P G a
  | .cmp _ a b => okE P G a ∧ okE P G b
  | .chain _ _ a b c => okE P G a ∧ okE P G b ∧ okE P G c
  | .and a b => okE P G a ∧ okE P G b
  | .or a b => okE P G a ∧ okE P G b
  | .not a => okE P G a
  | .ife c a b => okE P G c ∧ okE P G a ∧ okE P G b
  | .tup es => okEs P G es
  | .lst _ es => okEs P G es
  | .dct0 => True
  | .sub a b => okE P G a ∧ okE P G b
  | .slice a l h => okE P G a ∧ okE P G l ∧ okE P G h
  | .rev a => okE P G a
  | .no => True
  | .call f dv sm es => P f dv sm ∧ okEs P G es
  | .blt _ es => okEs P G es
  | .isi _ e => okE P G e
  | .mth _ o es => okE P G o ∧ okEs P G es
  | .comp _ _ it _ c e => okI P G it ∧ okE P G c ∧ okE P G e
  | .fz e => okE P G e
  | .ext k es => okX P k ∧ okEs P G es
  | .meth alts o es => (∀ p ∈ alts, P p.2.i p.2.dv p.2.sm) ∧ okE P G o ∧ okEs P G es
  | .fstr _ es => okEs P G es
def okEs (P : Nat → List D → Fn → Prop) (G : Nat → D → Prop) : IEs → Prop
  | .nil => True
  | .cons e es => okE P G e ∧ okEs P G es
def okI (P : Nat → List D → Fn → Prop) (G : Nat → D → Prop) : IIt → Prop
  | .val e => okE P G e
  | .range es => okEs P G es
end

section
variable {T : Tb} {P : Nat → List D → Fn → Prop} {G : Nat → D → Prop}
def Good (T : Tb) (XW : WX) (X : Cx) (a : IE) (e : Expr) : Prop := PE X e (tI T XW a) ∧ PT X e (tIt T XW a) ∧ ∀ op es p, e = .BoolOp op es p → PW X e (tIt T XW a)
theorem Good.plain {XW : WX} {c : Cfg} {X : Cx} {a : IE} {e : Expr} (C : Cond T XW P G c X) (h : PE X e (tI T XW a)) (hp : plainT e = true) : Good T XW X a e :=
  ⟨h, t_plain C h hp, fun op es p q => by subst q; cases hp⟩
theorem conB_v {d : D} {k : Const} {n : Nat} {pos : Pos} {X : Cx} (h : conB d k = true) : ∃ v, (∀ W, Rep T W d v) ∧ PE X (.Constant k n pos) (tC v) := by
  cases d <;> cases k <;> simp only [conB, Bool.false_eq_true] at h
  · exact ⟨.non, fun _ => .non, pe_non⟩
  · rename_i a b
    have : a = b := by simpa using h
    subst this
    exact ⟨.bl a, fun _ => .bl _, pe_bl⟩
  · rename_i a b
    have : a = b := by simpa using h
    subst this
    exact ⟨.int a, fun _ => .int _, pe_int⟩
  · rename_i a b
    have : a = b := by simpa using h
    subst this
    exact ⟨.str a, fun _ => .str _, pe_str⟩
theorem right_of {XW : WX} {X : Cx} {b : IE} {op : BoolOp} {y : Expr} {r : List Expr} {p : Pos} (h : Good T XW X b (stripB (.BoolOp op (y :: r) p))) : PE X (.BoolOp op (y :: r) p) (tI T XW b) ∧ PW X (.BoolOp op (y :: r) p) (tIt T XW b) := by
  cases r with
  | nil =>
    obtain ⟨h1, h2, _⟩ := h
    have h1 : PE X y (tI T XW b) := h1
    have h2 : PT X y (tIt T XW b) := h2
    refine ⟨pe_one h1, ?_⟩
    cases op
    · exact pw_and1 h2
    · exact pw_or1 h2
  | cons z r =>
    obtain ⟨h1, _, h3⟩ := h
    exact ⟨h1, h3 _ _ _ rfl⟩
/-- an operation upon values against its text -/
theorem mX {XW : WX} {c : Cfg} {X : Cx} (k : XO) {e : Expr} {xs : List Expr} {is : IEs} (C : Cond T XW P G c X) (ok : okX P k) (h1 : partsX k e = some xs) (h2 : condX c k e = true) (hc : chkEs c is xs = true) (hA : AllPE T XW X is xs) (hp : PA X xs (tIs T XW is)) : Good T XW X (.ext k is) e := by
  cases k with
  | fld tab =>
    cases e <;> first | (cases h1; done) | skip
    cases h1
    obtain ⟨a, rfl, ha⟩ := hA.one
    simp only [condX, Bool.and_eq_true] at h2
    exact .plain C (c_fld C ha h2.1 h2.2) rfl
  | prop alts =>
    cases e <;> first | (cases h1; done) | skip
    cases h1
    obtain ⟨a, rfl, ha⟩ := hA.one
    simp only [condX, Bool.and_eq_true] at h2
    exact .plain C (c_prop C ok ha h2.1 h2.2) rfl
  | mk n cl al =>
    cases e <;> first | (cases h1; done) | skip
    rename_i g as ks p
    cases g <;> first | (cases h1; done) | skip
    rcases as with _ | ⟨y, ys⟩ <;> rcases ks with _ | _ <;> first | (cases h1; done) | skip
    cases h1
    simp only [condX, Bool.and_eq_true, decide_eq_true_eq] at h2
    obtain ⟨⟨⟨⟨q1, q2⟩, q3⟩, q4⟩, q5⟩ := h2
    exact .plain C (c_mk C ok q2 q1 q3 q4 q5 hp hc) rfl
  | own2 o cl al =>
    cases e <;> first | (cases h1; done) | skip
    cases h1
    obtain ⟨a, b, rfl, ha, hb⟩ := hA.two
    simp only [condX, Bool.and_eq_true, decide_eq_true_eq] at h2
    obtain ⟨⟨rfl, q2⟩, q3⟩ := h2
    exact .plain C (c_own2 C ok q2 ha hb) rfl
  | ownC o cl al =>
    cases e <;> first | (cases h1; done) | skip
    rename_i x ops ys p
    rcases ops with _ | ⟨op, _ | _⟩ <;> rcases ys with _ | ⟨y, _ | _⟩ <;> first | (cases h1; done) | skip
    cases h1
    obtain ⟨a, b, rfl, ha, hb⟩ := hA.two
    simp only [condX, Bool.and_eq_true, Bool.or_eq_true, beq_iff_eq, decide_eq_true_eq, Bool.not_eq_true'] at h2
    obtain ⟨⟨⟨rfl, q1⟩, q2⟩, q3⟩ := h2
    rcases q1 with rfl | rfl
    · have r := r_ownEq C ok q2 ha hb
      exact ⟨r.pe q3, r.pt (fun _ _ _ _ => ext_bl) q3, fun _ _ _ q => nomatch q⟩
    · have r := r_ownNe C ok q2 ha hb
      exact ⟨r.pe q3, r.pt (fun _ _ _ _ => ext_bl) q3, fun _ _ _ q => nomatch q⟩
  | eqL o cl al =>
    cases e <;> first | (cases h1; done) | skip
    rename_i x ops ys p
    rcases ops with _ | ⟨op, _ | _⟩ <;> rcases ys with _ | ⟨y, _ | _⟩ <;> first | (cases h1; done) | skip
    cases h1
    obtain ⟨a, b, rfl, ha, hb⟩ := hA.two
    simp only [condX, Bool.and_eq_true, Bool.or_eq_true, beq_iff_eq, decide_eq_true_eq, Bool.not_eq_true'] at h2
    obtain ⟨⟨⟨rfl, q1⟩, q2⟩, q3⟩ := h2
    rcases q1 with rfl | rfl
    · have r := r_eqL (o := .eq) C (.inl rfl) ok q2 ha hb
      exact ⟨r.pe q3, r.pt (fun _ _ _ _ => eqL_bl) q3, fun _ _ _ q => nomatch q⟩
    · have r := r_eqL (o := .ne) C (.inr rfl) ok q2 ha hb
      exact ⟨r.pe q3, r.pt (fun _ _ _ _ => eqL_bl) q3, fun _ _ _ q => nomatch q⟩
  | ownU o cl al =>
    cases e <;> first | (cases h1; done) | skip
    rename_i op y p
    cases h1
    obtain ⟨a, rfl, ha⟩ := hA.one
    simp only [condX, Bool.and_eq_true] at h2
    have hm : (o = .neg ∧ op = .USub) ∨ (o = .inv ∧ op = .Invert) := by
      have z := h2.1
      cases o <;> cases op <;> first | exact .inl ⟨rfl, rfl⟩ | exact .inr ⟨rfl, rfl⟩ | exact absurd z Bool.false_ne_true
    exact .plain C (c_ownU C ok hm h2.2 ha) (by rcases hm with ⟨_, rfl⟩ | ⟨_, rfl⟩ <;> rfl)
  | ownB b cl al =>
    cases e <;> first | (cases h1; done) | skip
    rename_i g as ks p
    cases g <;> first | (cases h1; done) | skip
    rcases as with _ | ⟨y, _ | _⟩ <;> rcases ks with _ | _ <;> first | (cases h1; done) | skip
    cases h1
    obtain ⟨a, rfl, ha⟩ := hA.one
    have hst : noStar y = true := by simp only [chkEs, Bool.and_eq_true] at hc; exact hc.1.2
    simp only [condX, Bool.and_eq_true, Bool.or_eq_true, beq_iff_eq, decide_eq_true_eq] at h2
    obtain ⟨⟨⟨⟨⟨q1, q2⟩, rfl⟩, q4⟩, q5⟩, q6⟩ := h2
    rcases q1 with (rfl | rfl) | rfl
    · exact .plain C (c_ownLen C ok q2 q4 q6 ha hst) rfl
    · exact .plain C (c_ownBool C ok q2 q4 q6 ha hst) rfl
    · exact .plain C (c_ownStr C ok q2 q4 q6 ha hst) rfl
  | isC k =>
    cases e <;> first | (cases h1; done) | skip
    rename_i g as ks p
    cases g <;> first | (cases h1; done) | skip
    rcases as with _ | ⟨y, _ | ⟨z, _ | _⟩⟩ <;> rcases ks with _ | _ <;> first | (cases h1; done) | (cases z <;> first | (cases h1; done) | skip)
    cases h1
    obtain ⟨a, rfl, ha⟩ := hA.one
    have hst : noStar y = true := by simp only [chkEs, Bool.and_eq_true] at hc; exact hc.1.2
    simp only [condX, Bool.and_eq_true, decide_eq_true_eq] at h2
    obtain ⟨⟨⟨⟨⟨⟨q1, rfl⟩, q3⟩, q4⟩, q5⟩, q6⟩, q7⟩ := h2
    exact .plain C (c_isC C q1 q3 q4 q5 q6 q7 ha hst) rfl
mutual
theorem mE : ∀ (a : IE) {XW : WX} {c : Cfg} {X : Cx} (e : Expr), Cond T XW P G c X → okE P G a → chkE c a e = true → Good T XW X a e
  | .var i, XW, c, X, e, C, ok, h => by
    cases e <;> first | (exact absurd h Bool.false_ne_true) | skip
    simp only [chkE, Bool.and_eq_true, decide_eq_true_eq] at h
    exact .plain C (c_var C h.1.1 h.1.2 h.2) rfl
  | .con d, XW, c, X, e, C, ok, h => by
    cases e <;> first | (exact absurd h Bool.false_ne_true) | skip
    simp only [chkE] at h
    obtain ⟨v, h1, h2⟩ := conB_v (T := T) h
    exact .plain C (c_con h1 h2) rfl
  | .glob i d, XW, c, X, e, C, ok, h => by
    cases e <;> first | (exact absurd h Bool.false_ne_true) | skip
    simp only [chkE, Bool.and_eq_true, decide_eq_true_eq] at h
    exact .plain C (c_glob C ok h.1.1 h.1.2 h.2) rfl
  | .bin o a b, XW, c, X, e, C, ok, h => by
    cases e <;> first | (exact absurd h Bool.false_ne_true) | skip
    simp only [chkE, Bool.and_eq_true, decide_eq_true_eq] at h
    obtain ⟨⟨rfl, h1⟩, h2⟩ := h
    exact .plain C (c_bin C (mE a _ C ok.1 h1).1 (mE b _ C ok.2 h2).1) rfl
  | .un o a, XW, c, X, e, C, ok, h => by
    cases o <;> cases e <;> first | (exact absurd h Bool.false_ne_true) | skip
    rename_i op y p
    cases op <;> first | (exact absurd h Bool.false_ne_true) | skip
    simp only [chkE] at h
    exact .plain C (c_neg (mE a _ C ok h).1) rfl
  | .cmp o a b, XW, c, X, e, C, ok, h => by
    cases e <;> first | (exact absurd h Bool.false_ne_true) | skip
    rename_i x ops ys p
    rcases ops with _ | ⟨op, _ | _⟩ <;> rcases ys with _ | ⟨y, _ | _⟩ <;> first | (exact absurd h Bool.false_ne_true) | skip
    simp only [chkE, Bool.and_eq_true, decide_eq_true_eq, Bool.not_eq_true'] at h
    obtain ⟨⟨⟨rfl, h1⟩, h2⟩, h3⟩ := h
    exact ⟨c_cmp C (mE a _ C ok.1 h1).1 (mE b _ C ok.2 h2).1 h3, t_cmp C (mE a _ C ok.1 h1).1 (mE b _ C ok.2 h2).1 h3, fun _ _ _ q => nomatch q⟩
  | .chain o1 o2 a b d, XW, c, X, e, C, ok, h => by
    cases e <;> first | (exact absurd h Bool.false_ne_true) | skip
    rename_i x ops ys p
    rcases ops with _ | ⟨p1, _ | ⟨p2, _ | _⟩⟩ <;> rcases ys with _ | ⟨y, _ | ⟨z, _ | _⟩⟩ <;> first | (exact absurd h Bool.false_ne_true) | skip
    simp only [chkE, Bool.and_eq_true, decide_eq_true_eq, Bool.not_eq_true'] at h
    obtain ⟨⟨⟨⟨⟨rfl, rfl⟩, h1⟩, h2⟩, h3⟩, h4⟩ := h
    have i1 := (mE a _ C ok.1 h1).1
    have i2 := (mE b _ C ok.2.1 h2).1
    have i3 := (mE d _ C ok.2.2 h3).1
    exact ⟨c_chain C i1 i2 i3 h4, t_chain C i1 i2 i3 h4, fun _ _ _ q => nomatch q⟩
  | .and a b, XW, c, X, e, C, ok, h => by
    cases e <;> first | (exact absurd h Bool.false_ne_true) | skip
    rename_i op es p
    rcases es with _ | ⟨x, _ | ⟨y, r⟩⟩ <;> cases op <;> first | (exact absurd h Bool.false_ne_true) | skip
    simp only [chkE, Bool.and_eq_true] at h
    obtain ⟨a1, a2, _⟩ := mE a _ C ok.1 h.1
    obtain ⟨b1, b2⟩ := right_of (mE b _ C ok.2 h.2)
    have w := t_and (pos := p) a2 b2
    exact ⟨c_and C a1 b1, w.pt, fun _ _ _ q => by cases q; exact w⟩
  | .or a b, XW, c, X, e, C, ok, h => by
    cases e <;> first | (exact absurd h Bool.false_ne_true) | skip
    rename_i op es p
    rcases es with _ | ⟨x, _ | ⟨y, r⟩⟩ <;> cases op <;> first | (exact absurd h Bool.false_ne_true) | skip
    simp only [chkE, Bool.and_eq_true] at h
    obtain ⟨a1, a2, _⟩ := mE a _ C ok.1 h.1
    obtain ⟨b1, b2⟩ := right_of (mE b _ C ok.2 h.2)
    have w := t_or (pos := p) a2 b2
    exact ⟨c_or C a1 b1, w.pt, fun _ _ _ q => by cases q; exact w⟩
  | .not a, XW, c, X, e, C, ok, h => by
    cases e <;> first | (exact absurd h Bool.false_ne_true) | skip
    rename_i op y p
    cases op <;> first | (exact absurd h Bool.false_ne_true) | skip
    simp only [chkE] at h
    obtain ⟨a1, a2, _⟩ := mE a _ C ok h
    exact ⟨c_not C a1, t_not a2, fun _ _ _ q => nomatch q⟩
  | .ife d a b, XW, c, X, e, C, ok, h => by
    cases e <;> first | (exact absurd h Bool.false_ne_true) | skip
    simp only [chkE, Bool.and_eq_true] at h
    obtain ⟨d1, d2, _⟩ := mE d _ C ok.1 h.1.1
    obtain ⟨a1, a2, _⟩ := mE a _ C ok.2.1 h.1.2
    obtain ⟨b1, b2, _⟩ := mE b _ C ok.2.2 h.2
    exact ⟨c_ife d2 a1 b1, t_ife d2 a2 b2, fun _ _ _ q => nomatch q⟩
  | .tup es, XW, c, X, e, C, ok, h => by
    cases e <;> first | (exact absurd h Bool.false_ne_true) | skip
    simp only [chkE] at h
    exact .plain C (c_tup (mEs es _ C ok h)) rfl
  | .lst t es, XW, c, X, e, C, ok, h => by
    cases e <;> first | (exact absurd h Bool.false_ne_true) | skip
    simp only [chkE] at h
    exact .plain C (c_lst (mEs es _ C ok h)) rfl
  | .dct0, XW, c, X, e, C, ok, h => by
    cases e <;> first | (exact absurd h Bool.false_ne_true) | skip
    rename_i ks vs p
    cases ks <;> cases vs <;> first | (exact absurd h Bool.false_ne_true) | skip
    exact .plain C c_dct0 rfl
  | .sub a b, XW, c, X, e, C, ok, h => by
    cases e <;> first | (exact absurd h Bool.false_ne_true) | skip
    simp only [chkE, Bool.and_eq_true] at h
    exact .plain C (c_sub C (mE a _ C ok.1 h.1.1).1 (mE b _ C ok.2 h.1.2).1 h.2) rfl
  | .slice a lo hi, XW, c, X, e, C, ok, h => by
    cases e <;> first | (exact absurd h Bool.false_ne_true) | skip
    rename_i x s p
    cases s <;> first | (exact absurd h Bool.false_ne_true) | skip
    rename_i l u st p2
    cases st <;> first | (exact absurd h Bool.false_ne_true) | skip
    simp only [chkE, Bool.and_eq_true] at h
    obtain ⟨⟨h1, h2⟩, h3⟩ := h
    have i1 := (mE a _ C ok.1 h1).1
    have hno : ∀ {z : IE}, isNo z = true → z = .no := fun {z} q => by cases z <;> first | rfl | exact absurd q Bool.false_ne_true
    have hne : ∀ {z : IE} {u : Expr}, chkE c z u = true → z ≠ .no := fun {z u} q => by
      rintro rfl
      cases u <;> exact absurd q Bool.false_ne_true
    have i2 : PO X l (tIo T XW lo) := by
      cases l with
      | none => rw [hno h2]; exact o_none
      | some u => exact o_some (mE lo _ C ok.2.1 h2).1 (hne h2)
    have i3 : PO X u (tIo T XW hi) := by
      cases u with
      | none => rw [hno h3]; exact o_none
      | some u => exact o_some (mE hi _ C ok.2.2 h3).1 (hne h3)
    exact .plain C (c_slice C i1 i2 i3) rfl
  | .rev a, XW, c, X, e, C, ok, h => by
    cases e <;> first | (exact absurd h Bool.false_ne_true) | skip
    rename_i x s p
    cases s <;> first | (exact absurd h Bool.false_ne_true) | skip
    rename_i l u st p2
    cases l <;> cases u <;> cases st <;> first | (exact absurd h Bool.false_ne_true) | skip
    rename_i st
    cases st <;> first | (exact absurd h Bool.false_ne_true) | skip
    rename_i op k p3
    cases op <;> cases k <;> first | (exact absurd h Bool.false_ne_true) | skip
    rename_i k n p4
    cases k <;> first | (exact absurd h Bool.false_ne_true) | skip
    simp only [chkE, Bool.and_eq_true, decide_eq_true_eq] at h
    obtain ⟨rfl, h⟩ := h
    exact .plain C (c_rev C (mE a _ C ok h).1) rfl
  | .no, XW, c, X, e, C, ok, h => by
    cases e <;> exact absurd h Bool.false_ne_true
  | .call f dv sm es, XW, c, X, e, C, ok, h => by
    cases e <;> first | (exact absurd h Bool.false_ne_true) | skip
    rename_i g as ks p
    cases g <;> first | (exact absurd h Bool.false_ne_true) | skip
    rcases as with _ | ⟨y, ys⟩ <;> rcases ks with _ | _ <;> first | (exact absurd h Bool.false_ne_true) | skip
    simp only [chkE, Bool.and_eq_true, decide_eq_true_eq] at h
    obtain ⟨⟨⟨⟨h0, h1⟩, h2⟩, h3⟩, h4⟩ := h
    exact .plain C (c_call C ok.1 h0 h1 h2 h3 (mEs es _ C ok.2 h4) h4) rfl
  | .blt b es, XW, c, X, e, C, ok, h => by
    cases e <;> first | (exact absurd h Bool.false_ne_true) | skip
    rename_i g as ks p
    cases g <;> first | (exact absurd h Bool.false_ne_true) | skip
    rcases as with _ | ⟨y, ys⟩ <;> rcases ks with _ | _ <;> first | (exact absurd h Bool.false_ne_true) | skip
    simp only [chkE, Bool.and_eq_true, decide_eq_true_eq] at h
    obtain ⟨⟨⟨⟨h0, h1⟩, h2⟩, h3⟩, h4⟩ := h
    exact .plain C (c_blt C h0 h1 h2 h3 (mEs es _ C ok h4) h4) rfl
  | .isi t a, XW, c, X, e, C, ok, h => by
    cases e <;> first | (exact absurd h Bool.false_ne_true) | skip
    rename_i g as ks p
    cases g <;> first | (exact absurd h Bool.false_ne_true) | skip
    rcases as with _ | ⟨y, _ | ⟨z, _ | _⟩⟩ <;> rcases ks with _ | _ <;> first | (exact absurd h Bool.false_ne_true) | (cases z <;> first | (exact absurd h Bool.false_ne_true) | skip)
    simp only [chkE, Bool.and_eq_true, decide_eq_true_eq] at h
    obtain ⟨⟨⟨⟨⟨⟨⟨h1, h2⟩, rfl⟩, h3⟩, rfl⟩, h4⟩, h5⟩, h6⟩ := h
    exact .plain C (c_isi C h1 h2 h3 h4 (mE a _ C ok h5).1 h6) rfl
  | .mth m o es, XW, c, X, e, C, ok, h => by
    cases e <;> first | (exact absurd h Bool.false_ne_true) | skip
    rename_i g as ks p
    cases g <;> first | (exact absurd h Bool.false_ne_true) | skip
    rcases as with _ | ⟨y, ys⟩ <;> rcases ks with _ | _ <;> first | (exact absurd h Bool.false_ne_true) | skip
    · cases es <;> cases m <;> first | (exact absurd h Bool.false_ne_true) | skip
      simp only [chkE, Bool.and_eq_true, decide_eq_true_eq] at h
      obtain ⟨⟨⟨rfl, h1⟩, h2⟩, h3⟩ := h
      exact .plain C (c_pop C (mE o _ C ok.1 h1).1 h2 h3) rfl
    · rename_i g0 n0 ap0
      replace h : (decide (m ≠ .pop) && decide (m.nm = n0) && chkE c o g0 && chkEs c es (y :: ys) && decide (ys.length < 9) && (ap0.endLine == p.line) && notCall g0) = true := by
        cases m <;> cases es <;> exact h
      simp only [Bool.and_eq_true, decide_eq_true_eq] at h
      obtain ⟨⟨⟨⟨⟨⟨h0, h1⟩, h2⟩, h3⟩, h4⟩, h5⟩, h6⟩ := h
      exact .plain C (c_mth C h0 h1 (mE o _ C ok.1 h2).1 (mEs es _ C ok.2 h3) h3 h4 h5 h6) rfl
  | .comp t own it tg cond elt, XW, c, X, e, C, ok, h => by
    cases e <;> first | (exact absurd h Bool.false_ne_true) | skip
    rename_i y gens scope p
    rcases gens with _ | ⟨⟨tge, i, ifs, n⟩, _ | _⟩ <;> first | (exact absurd h Bool.false_ne_true) | skip
    replace h : (decide (n = 0) && chkI c it i && notSet i && blkC c.N c.sc scope (ownOf c.N own) && chkT (c.blk scope) (some own) tg tge && chkE (c.blk scope) elt y &&
      (match (generalizing := false) ifs with
        | [] => isYes cond
        | [u] => chkE (c.blk scope) cond u
        | _ => false)) = true := h
    simp only [Bool.and_eq_true, decide_eq_true_eq] at h
    obtain ⟨⟨⟨⟨⟨⟨rfl, h1⟩, h2⟩, h3⟩, h4⟩, h5⟩, h6⟩ := h
    refine .plain C (c_comp C (mI it i C ok.1 h1 tge) h2 h3 h4 (fun s H C0 cl fp => ?_) fun s H C0 cl fp => (mE elt y (C.blk scope s H C0 cl fp) ok.2.2 h5).1) rfl
    rcases ifs with _ | ⟨u, _ | _⟩
    · have hy : cond = .con (.bl true) := by
        have h7 : isYes cond = true := h6
        clear h6
        unfold isYes at h7
        split at h7
        · rfl
        · cases h7
      refine ⟨fun pins s' σ H' Q I q => pts_nil.run pins s' σ H' Q I ?_⟩
      obtain ⟨W, st, σd, sim, rs, q⟩ := q
      subst hy
      simp only [evt, ev] at q
      exact q true W H' (.refl _) sim rfl
    · exact pts_one (mE cond u (C.blk scope s H C0 cl fp) ok.2.1 h6).2.1
    · exact absurd h6 Bool.false_ne_true
  | .fz a, XW, c, X, e, C, ok, h => by
    simp only [chkE, Bool.and_eq_true] at h
    exact .plain C (c_fz (mE a _ C ok h.1).1) h.2
  | .ext k es, XW, c, X, e, C, ok, h => by
    replace h : (match (generalizing := false) partsX k e with
      | some xs => condX c k e && chkEs c es xs
      | none => false) = true := h
    split at h
    · rename_i xs hx
      rw [Bool.and_eq_true] at h
      exact mX k C ok.1 hx h.1 h.2 (mAll es _ C ok.2 h.2) (mEs es _ C ok.2 h.2)
    · exact absurd h Bool.false_ne_true
  | .meth alts o es, XW, c, X, e, C, ok, h => by
    cases e <;> first | (exact absurd h Bool.false_ne_true) | skip
    rename_i g as ks p
    cases g <;> first | (exact absurd h Bool.false_ne_true) | skip
    rcases ks with _ | _ <;> first | (exact absurd h Bool.false_ne_true) | skip
    simp only [chkE, Bool.and_eq_true, decide_eq_true_eq] at h
    obtain ⟨⟨⟨⟨⟨h1, h2⟩, h3⟩, h4⟩, h5⟩, h6⟩ := h
    exact .plain C (c_meth C ok.1 h6 h1 h2 h3 (mE o _ C ok.2.1 h4).1 (mEs es _ C ok.2.2 h5) h5) rfl
  | .fstr ps es, XW, c, X, e, C, ok, h => by
    cases e <;> first | (exact absurd h Bool.false_ne_true) | skip
    rename_i vs p
    replace h : (match (generalizing := false) fmtParts ps vs with
      | some xs => fmtShape vs && chkEs c es xs
      | none => false) = true := h
    split at h
    · rename_i xs hx
      rw [Bool.and_eq_true] at h
      have hA := mAll es _ C ok h.2
      have hs := h.1
      clear h
      rcases vs with _ | ⟨v, _ | ⟨v2, vs⟩⟩
      · exact absurd hs Bool.false_ne_true
      · unfold fmtShape at hs
        split at hs
        · rename_i e0
          cases e0
          have z := of_decide_eq_true hs
          subst z
          exact .plain C (c_fstr1 C hx hA) rfl
        · rename_i e0
          cases e0
        · exact absurd hs Bool.false_ne_true
      · exact .plain C (c_fstr C hx hA (by simp)) rfl
    · exact absurd h Bool.false_ne_true
theorem mAll : ∀ (is : IEs) {XW : WX} {c : Cfg} {X : Cx} (es : List Expr), Cond T XW P G c X → okEs P G is → chkEs c is es = true → AllPE T XW X is es
  | .nil, XW, c, X, es, C, ok, h => by
    cases es <;> first | (exact absurd h Bool.false_ne_true) | exact True.intro
  | .cons a is, XW, c, X, es, C, ok, h => by
    cases es <;> first | (exact absurd h Bool.false_ne_true) | skip
    simp only [chkEs, Bool.and_eq_true] at h
    exact ⟨(mE a _ C ok.1 h.1.1).1, mAll is _ C ok.2 h.2⟩
theorem mEs : ∀ (is : IEs) {XW : WX} {c : Cfg} {X : Cx} (es : List Expr), Cond T XW P G c X → okEs P G is → chkEs c is es = true → PA X es (tIs T XW is)
  | .nil, XW, c, X, es, C, ok, h => by
    cases es <;> first | (exact absurd h Bool.false_ne_true) | exact a_nil
  | .cons a is, XW, c, X, es, C, ok, h => by
    cases es <;> first | (exact absurd h Bool.false_ne_true) | skip
    simp only [chkEs, Bool.and_eq_true] at h
    exact a_cons (mE a _ C ok.1 h.1.1).1 (mEs is _ C ok.2 h.2) h.1.2
theorem mI : ∀ (it : IIt) {XW : WX} {c : Cfg} {X : Cx} (e : Expr), Cond T XW P G c X → okI P G it → chkI c it e = true → ∀ tg, PI X tg e (tIi T XW it)
  | .val a, XW, c, X, e, C, ok, h => fun tg => by
    simp only [chkI] at h
    exact c_iv C (mE a _ C ok h).1
  | .range is, XW, c, X, e, C, ok, h => fun tg => by
    cases e <;> first | (exact absurd h Bool.false_ne_true) | skip
    rename_i g as ks p
    cases g <;> first | (exact absurd h Bool.false_ne_true) | skip
    rcases ks with _ | _ <;> first | (exact absurd h Bool.false_ne_true) | skip
    simp only [chkI, Bool.and_eq_true, decide_eq_true_eq, Bool.or_eq_true] at h
    obtain ⟨⟨⟨⟨h1, rfl⟩, h2⟩, h3⟩, h4⟩ := h
    exact c_range C h1 h2 (mEs is _ C ok h3) h3 h4
end
end
end Ip
set_option Elab.async false
set_option linter.all false
set_option maxRecDepth 100000
set_option maxHeartbeats 400000
/-! Statements against the text. -/
namespace Ip
open PySem PySem.Spec PyProof.Rows L2

/-! ### the check -/
def noComp : Expr → Bool
  | .ListComp _ _ _ _ => false
  | .SetComp _ _ _ _ => false
  | .DictComp _ _ _ _ _ => false
  | _ => true
/-- name = [..] on one line: the list is stored from within -/
def swB (sc : Scope) (t : Str) (pos : Pos) : Expr → Bool
  | .ListComp _ _ s p => sc.names.lookup t == some .local && pos.line == p.line && !(s.names.any fun (n, k) => n == t && (k == .local || k == .cell))
  | _ => false
def isComp : IE → Bool
  | .comp _ _ _ _ _ _ => true
  | _ => false
/-- the pair's stores are not swapped -/
def noSwap (n : Nat) : Expr → Bool
  | .Tuple vs _ _ => (!(n == 2 || n == 3) || vs.length != n) || vs.all (foldedForSure 8)
  | _ => true
def parName (sc : Scope) (ts : List Expr) : Expr → Option Str
  | .Name id pos => if sc.names.lookup id == some .local && pos.line == (ts.head?.map (·.pos.line)).getD 0 then some id else none
  | _ => none
def parNames (sc : Scope) (ts : List Expr) : List Str := ts.filterMap (parName sc ts)
def augOk : BO → Bool
  | .add => true
  | .sub => true
  | .mul => true
  | _ => false
mutual
def chkH (c : Cfg) (k : Nat) (x : Option Str) : HE → Expr → Bool
  | .con d, .Constant v _ _ => conB d v
  | .fld, .Attribute (.Name n _) f _ => (match x with
    | some m => decide (m = n)
    | none => false) && decide (c.hf k = f) && decide (f ≠ "")
  | .lst es, .List xs _ => chkHs c k x es xs
  | .tup es, .Tuple xs _ _ => chkHs c k x es xs
  | .add a b, .BinOp y .Add z _ => chkH c k x a y && chkH c k x b z
  | .rep a, .Call (.Name n _) [y] [] _ => c.bk .repr && decide (n = "repr") && glB c.sc n && chkH c k x a y && noStar y
  | _, _ => false
def chkHs (c : Cfg) (k : Nat) (x : Option Str) : HEs → List Expr → Bool
  | .nil, [] => true
  | .cons e es, y :: ys => chkH c k x e y && noStar y && chkHs c k x es ys
  | _, _ => false
end
def chkHd (c : Cfg) : Hd → ExceptHandler → Bool
  | ⟨k, none, h⟩, .ExceptHandler (some (.Name n _)) none [.Return (some e) _] _ => decide (c.hn k = n) && glB c.sc n && nmOk n && chkH c k none h e
  | ⟨k, some i, h⟩, .ExceptHandler (some (.Name n _)) (some m) [.Return (some e) _] _ => decide (c.hn k = n) && glB c.sc n && nmOk n && chkN c none i m && visB c.sc m && nmOk m && decide (c.sc.names.lookup m = some .local) && chkH c k (some m) h e
  | _, _ => false
def chkHds (c : Cfg) : List Hd → List ExceptHandler → Bool
  | [], [] => true
  | h :: hs, x :: xs => chkHd c h x && chkHds c hs xs
  | _, _ => false
mutual
def chkS (c : Cfg) : IS → Stmt → Bool
  | .pass, .Pass _ => true
  | .brk, .Break _ => true
  | .cnt, .Continue _ => true
  | .doc s, .Expr (.Constant (.str x) _ _) _ => decide (s = x)
  | .expr e, .Expr x _ => chkE c e x && noComp x
  | .ret e, .Return (some x) _ => chkE c e x
  | .retN, .Return none _ => true
  | .asg (.nm i) e, .Assign [.Name x p] v q => chkN c none i x && chkE c e v && (noComp v || isComp e)
  | .asg (.tp is) e, .Assign [.Tuple es k p] v _ => chkT c none (.tp is) (.Tuple es k p) && chkE c e v && (noSwap es.length v || ((parNames c.sc es).length != es.length))
  | .par is es, .Assign [.Tuple ts _ _] (.Tuple vs _ _) _ => chkTs c none is ts && chkEs c es vs && decide (vs.length = ts.length) && (ts.length == 2 || ts.length == 3) && decide ((parNames c.sc ts).map some = is.map fun i => c.N[i]?) && decide (is.Nodup) && !(vs.all (foldedForSure 8)) && !(vs.all (constantsAlone 8))
  | .setI o i v, .Assign [.Subscript a b _] x _ => chkE c v x && chkE c o a && chkE c i b && noSlice b
  | .setA tab o v, .Assign [.Attribute a f _] x _ => chkE c v x && chkE c o a && tab.all fun p => decide (p.1 < c.nc) && decide ((c.sl p.1)[p.2]? = some f)
  | .stk, _ => true
  | .aug i o e, .AugAssign (.Name x _) op v _ => decide (o.op = op) && augOk o && chkN c none i x && chkE c e v
  | .ite e a b, .If u x y _ => chkE c e u && chkSs c a x && chkSs c b y
  | .whl _ e b, .While u x [] _ => chkE c e u && chkSs c b x
  | .for t it b, .For tg i x [] _ => chkI c it i && notSet i && chkT c none t tg && chkSs c b x
  | .raise k _ es, .Raise (some (.Call (.Name x _) (y :: ys) [] _)) none _ => decide (c.xn k = x) && glB c.sc x && nmOk x && chkEs c es (y :: ys)
  | .try b hs, .Try x ys [] [] _ => chkSs c b x && (match hs, ys with
    | [⟨k, some i, h⟩], [.ExceptHandler (some (.Name n _)) (some m) [.Return (some e) _] _] => decide (c.hn k = n) && glB c.sc n && nmOk n && chkN c none i m && visB c.sc m && nmOk m && decide (c.sc.names.lookup m = some .local) && chkH c k (some m) h e
    | [], _ => false
    | hs, ys => chkHds c hs ys)
  | _, _ => false
def chkSs (c : Cfg) : ISs → List Stmt → Bool
  | .nil, [] => true
  | .cons s ss, x :: xs => chkS c s x && chkSs c ss xs
  | _, _ => false
end

/-! ### what is wanted behind a statement -/
def PstS (T : Tb) (XW : WX) (W : Wd) (o : OutS) (D : Ends) : Prop := match o with
  | .nx σd st => ∀ W' σ H, W.le W' → Sim T W' st H → RepS T W' σ σd → D.nx σ H
  | .brk σd st => ∀ W' σ H, W.le W' → Sim T W' st H → RepS T W' σ σd → D.bk σ H
  | .cnt σd st => ∀ W' σ H, W.le W' → Sim T W' st H → RepS T W' σ σd → D.ct σ H
  | .ret d st => ∀ W' v H, W.le W' → Sim T W' st H → Rep T W' d v → D.rt v H
  | .raise x σd st => ∀ W' σ H cls dd, W.le W' → Sim T W' st H → RepS T W' σ σd → RepX T W' x cls dd → XW cls dd σ H
  | .stuck => False
section
variable {T : Tb} {XW : WX} {W W' : Wd} {D D' : Ends}
theorem PstS.mono {o : OutS} (le : W.le W') (h : PstS T XW W o D) : PstS T XW W' o D := by
  cases o with
  | nx _ _ => exact fun W'' σ H l => h W'' σ H (le.trans l)
  | brk _ _ => exact fun W'' σ H l => h W'' σ H (le.trans l)
  | cnt _ _ => exact fun W'' σ H l => h W'' σ H (le.trans l)
  | ret _ _ => exact fun W'' v H l => h W'' v H (le.trans l)
  | raise _ _ _ => exact fun W'' σ H cls dd l => h W'' σ H cls dd (le.trans l)
  | stuck => exact h
def tS (T : Tb) (XW : WX) (s : IS) : TS := fun D σ H => ∃ W st σd, Sim T W st H ∧ RepS T W σ σd ∧ PstS T XW W (exec T.xm s σd st) D
def tSs (T : Tb) (XW : WX) (ss : ISs) : TS := fun D σ H => ∃ W st σd, Sim T W st H ∧ RepS T W σ σd ∧ PstS T XW W (execs T.xm ss σd st) D
theorem PS.imp {X : Cx} {s : Stmt} {t t' : TS} (h : PS X s t) (k : ∀ D σ H, t' D σ H → t D σ H) : PS X s t' := ⟨fun pins s σ H D I q => h.run pins s σ H D I (k D σ H q)⟩
theorem PSs.imp {X : Cx} {s : List Stmt} {t t' : TS} (h : PSs X s t) (k : ∀ D σ H, t' D σ H → t D σ H) : PSs X s t' := ⟨fun pins s σ H D I q => h.run pins s σ H D I (k D σ H q)⟩
/-- a value's outcome, then on -/
theorem PstS.andS {α β : Type} {R : Wd → α → β → Prop} {o : Out α} {σ : L2.St} {σd : EnvD} {f : α → Store → OutS} (rs : RepS T W σ σd) (h : PstS T XW W (o.andS σd f) D) :
    Pst T XW σ W R o (fun b H => ∃ W1 a st1, W.le W1 ∧ Sim T W1 st1 H ∧ R W1 a b ∧ PstS T XW W1 (f a st1) D) := by
  cases o with
  | ok a st => exact fun b W' H' le s r => ⟨W', a, st, le, s, r, PstS.mono le h⟩
  | raise x st => exact fun cls dd W' H' le s r => h W' σ H' cls dd le s (rs.mono le) r
  | stuck => exact h
theorem PstS.seq {o : OutS} {f : EnvD → Store → OutS} (h : PstS T XW W (o.seq f) D) : PstS T XW W o { D with nx := fun σ H => ∃ W1 σd st1, W.le W1 ∧ Sim T W1 st1 H ∧ RepS T W1 σ σd ∧ PstS T XW W1 (f σd st1) D } := by
  cases o with
  | nx σd st => exact fun W' σ H le s r => ⟨W', σd, st, le, s, r, PstS.mono le h⟩
  | brk _ _ => exact h
  | cnt _ _ => exact h
  | ret _ _ => exact h
  | raise _ _ _ => exact h
  | stuck => exact h
end
/-! ### a body's facts -/
/-- making an exception -/
def tMk (T : Tb) (XW : WX) (mk : MkF) (is : IEs) : L2.St → Hp → XK → Prop := fun σ H Q => ∃ W st σd, Sim T W st H ∧ RepS T W σ σd ∧
  Pst T XW σ W (fun W (x : Ex) (b : Value × Option Addr) => RepX T W x b.1 b.2) ((evs is σd st).bind fun ds st => ofO (mk ds st) st) (fun b H => Q b.1 b.2 H)
def MkOk (T : Tb) (nm : Str) (X : Cx) (mk : MkF) : Prop := ∀ (XW : WX) (x : Expr) (es : List Expr) (is : IEs) (p pos : Pos), PA X (x :: es) (tIs T XW is) → starEach (x :: es) X.env = (false, eval x X.env) :: starEach es X.env → (backTo pos (starEach es X.env)).any (·.1) = false →
  X.env.scope.names.lookup nm = some .globalImplicit → PMk X (.Call (.Name nm p) (x :: es) [] pos) (tMk T XW mk is)
structure CondS (T : Tb) (XW : WX) (P : Nat → List D → Fn → Prop) (G : Nat → D → Prop) (R : Nat → MkF → Prop) (U : Nat → Prop) (c : Cfg) (X : Cx) : Prop extends Cond T XW P G c X where
  pw : PassesOwn (model X.prog X.w) X.A X.env X.xe
  hs : X.stack = X.env :: X.outer
  hf : X.env.frame = some X.env.locals
  kd : X.env.scope.kind = .function
  mkx : ∀ k f, R k f → ∀ pn xe, MkOk T (c.xn k) (X.tr pn xe) f
  hn : ∀ k, U k → X.mg (c.hn k) = some (T.hc k) ∨ (X.mg (c.hn k) = none ∧ bootBuiltins (c.hn k) = some (T.hc k) ∧ c.hn k ≠ "__name__")
  xm : ∀ x k, U k → PySem.W.exmOne X.K (T.xa x) (T.hc k) = some (T.xm x k)
  xf : ∀ x k, U k → T.xm x k = true → c.hf k ≠ "" → ∃ C, T.xa x = .ref C ∧ T.xf x = c.hf k ∧ XfC X.K C ∧ PySem.W.findIn X.K (.ref C) (c.hf k) = some none
section
variable {T : Tb} {XW : WX} {P : Nat → List D → Fn → Prop} {G : Nat → D → Prop} {R : Nat → MkF → Prop} {U : Nat → Prop} {c : Cfg} {X : Cx} {x y z : Expr} {a b d : IE} {pos : Pos}
/-! ### small statements -/
theorem s_pass : PS X (.Pass pos) (tS T XW .pass) := by
  refine PS.imp ps_pass ?_
  rintro D σ H ⟨W, st, σd, sim, rs, h⟩
  simp only [exec] at h
  exact h W σ H (.refl _) sim rs
theorem s_brk : PS X (.Break pos) (tS T XW .brk) := by
  refine PS.imp ps_break ?_
  rintro D σ H ⟨W, st, σd, sim, rs, h⟩
  simp only [exec] at h
  exact h W σ H (.refl _) sim rs
theorem s_cnt : PS X (.Continue pos) (tS T XW .cnt) := by
  refine PS.imp ps_continue ?_
  rintro D σ H ⟨W, st, σd, sim, rs, h⟩
  simp only [exec] at h
  exact h W σ H (.refl _) sim rs
theorem s_doc {s : Str} {j p2} : PS X (.Expr (.Constant (.str s) j p2) pos) (tS T XW (.doc s)) := by
  refine PS.imp ps_doc ?_
  rintro D σ H ⟨W, st, σd, sim, rs, h⟩
  simp only [exec] at h
  exact h W σ H (.refl _) sim rs
theorem swaps_no {t : Option Expr} {n : Nat} {env : Env} (h : noComp x = true) : swapsWith x t n env = pure false := by
  cases x <;> first | rfl | cases h
theorem s_expr (ha : PE X x (tI T XW a)) (hn : noComp x = true) : PS X (.Expr x pos) (tS T XW (.expr a)) := by
  refine PS.imp (ps_expr ha (swaps_no hn)) ?_
  rintro D σ H ⟨W, st, σd, sim, rs, h⟩
  simp only [exec] at h
  refine ⟨W, st, σd, sim, rs, (h.andS rs (R := Rep T)).imp ?_⟩
  rintro v H1 ⟨W1, d1, st1, le1, sim1, r1, h1⟩
  exact h1 W1 σ H1 (.refl _) sim1 (rs.mono le1)
theorem s_ret (ha : PE X x (tI T XW a)) : PS X (.Return (some x) pos) (tS T XW (.ret a)) := by
  refine PS.imp (ps_ret ha) ?_
  rintro D σ H ⟨W, st, σd, sim, rs, h⟩
  simp only [exec] at h
  refine ⟨W, st, σd, sim, rs, (h.andS rs (R := Rep T)).imp ?_⟩
  rintro v H1 ⟨W1, d1, st1, le1, sim1, r1, h1⟩
  exact h1 W1 v H1 (.refl _) sim1 r1
theorem s_retN : PS X (.Return none pos) (tS T XW .retN) := by
  refine PS.imp ps_retN ?_
  rintro D σ H ⟨W, st, σd, sim, rs, h⟩
  simp only [exec] at h
  exact h W .non H (.refl _) sim .non

/-! ### assignments -/
/-- what a value's reading leaves for a target -/
theorem asg_read {t : IT} {D : Ends} {σ : L2.St} {H : Hp} (h : tS T XW (.asg t a) D σ H) : tAsg (tI T XW a) (gT T t) D σ H := by
  obtain ⟨W, st, σd, sim, rs, h⟩ := h
  simp only [exec] at h
  refine ⟨W, st, σd, sim, rs, (h.andS rs (R := Rep T)).imp ?_⟩
  rintro v H1 ⟨W1, d1, st1, le1, sim1, r1, h1⟩
  cases e : asgT st1 t d1 σd with
  | none => rw [e] at h1; exact h1.elim
  | some σ' =>
    rw [e] at h1
    exact ⟨W1, st1, σd, d1, σ', sim1, rs.mono le1, r1, e, fun σ2 rs2 _ _ => h1 W1 σ2 H1 (.refl _) sim1 rs2⟩
theorem asg_name {i : Nat} {D : Ends} {σ : L2.St} {H : Hp} (h : tS T XW (.asg (.nm i) a) D σ H) : tAsg (tI T XW a) (gName i) D σ H := by
  obtain ⟨W, st, σd, sim, rs, h⟩ := h
  simp only [exec] at h
  refine ⟨W, st, σd, sim, rs, (h.andS rs (R := Rep T)).imp ?_⟩
  rintro v H1 ⟨W1, d1, st1, le1, sim1, r1, h1⟩
  exact h1 W1 _ H1 (.refl _) sim1 ((rs.mono le1).set i r1)
theorem swaps_list {n : Str} {p p2 : Pos} {y : Expr} {gs : List Comprehension} {s : Scope} {l : Nat} {env : Env} (hk : env.scope.kind = .function) :
    swapsWith (.ListComp y gs s p2) (some (.Name n p)) l env = pure (swB env.scope n p (.ListComp y gs s p2)) := by
  show (pure (env.blockKind == .function && env.kindOf n == some .local && p.line == p2.line && !(s.names.any fun (n', k) => n' == n && (k == .local || k == .cell))) : PySem.Sem Bool) = _
  have hb : env.blockKind = .function := by unfold Env.blockKind; rw [hk]; rfl
  rw [hb]
  rfl
theorem s_asg (C : CondS T XW P G R U c X) {i : Nat} {n : Str} {p : Pos} (h1 : chkN c none i n = true) (ha : PE X x (tI T XW a)) (hn : noComp x = true) : PS X (.Assign [.Name n p] x pos) (tS T XW (.asg (.nm i) a)) := by
  obtain ⟨n1, n2, n3⟩ := chkN.at C.toCond h1
  exact PS.imp (ps_set C.nd n1 n2 ha (swaps_no hn) n3) fun D σ H h => asg_name h
theorem s_tup (C : CondS T XW P G R U c X) {is : List Nat} {es : List Expr} {k : Nat} {p : Pos} (h1 : chkT c none (.tp is) (.Tuple es k p) = true) (ha : PE X x (tI T XW a)) (hn0 : (noSwap es.length x || ((parNames c.sc es).length != es.length)) = true) : PS X (.Assign [.Tuple es k p] x pos) (tS T XW (.asg (.tp is) a)) := by
  have hw : swappedStores [.Tuple es k p] x X.env = pure none := by
    cases x <;> first | rfl | skip
    rename_i vs k2 p2
    simp only [Bool.or_eq_true] at hn0
    rcases hn0 with hn | hlen
    · simp only [noSwap, Bool.or_eq_true] at hn
      unfold swappedStores
      by_cases h0 : (!(es.length == 2 || es.length == 3) || vs.length != es.length) = true
      · simp only [Bool.or_eq_true] at h0
        simp [h0]
        rcases h0 with h0 | h0 <;> simp_all
      · have h2 : vs.all (foldedForSure 8) = true := by
          rcases hn with hn | hn
          · exact absurd (by simpa using hn) h0
          · exact hn
        simp only [h2]
        repeat' split
        all_goals first | rfl | (simp_all; done)
    · have key2 : ∀ F : Expr → Option Str, (∀ e, F e = parName c.sc es e) → es.filterMap F = parNames c.sc es := by
        intro F hF
        rw [show F = parName c.sc es from funext hF]
        rfl
      unfold swappedStores
      simp only
      rw [key2 _ (by
        intro e
        cases e <;> first | rfl | skip
        simp only [parName, Env.kindOf, C.sc])]
      simp only [hlen, Bool.true_or, if_true]
      repeat' split
      all_goals rfl
  have hsw : swapsWithSole [.Tuple es k p] x pos.line X.env = pure false := by
    cases x <;> rfl
  exact PS.imp (ps_asg ha (c_tgt C.toCond h1) hsw hw) fun D σ H h => asg_read h
end
end Ip
set_option Elab.async false
set_option linter.all false
set_option maxRecDepth 100000
set_option maxHeartbeats 400000
/-! Statements: items, tuples in parallel, branches, loops. -/
namespace Ip
open PySem PySem.Spec PyProof.Rows L2
section
variable {T : Tb} {XW : WX} {P : Nat → List D → Fn → Prop} {G : Nat → D → Prop} {R : Nat → MkF → Prop} {U : Nat → Prop} {c : Cfg} {X : Cx} {x y z : Expr} {a b d : IE} {pos : Pos}
theorem s_setA (C : CondS T XW P G R U c X) {tab : List (Nat × Nat)} {f : Str} {p : Pos} (hv : PE X x (tI T XW d)) (ho : PE X y (tI T XW a)) (ht : tab.all (fun p => decide (p.1 < c.nc) && decide ((c.sl p.1)[p.2]? = some f)) = true) : PS X (.Assign [.Attribute y f p] x pos) (tS T XW (.setA tab a d)) := by
  refine PS.imp (SlX.ps_sl ho hv (by cases x <;> rfl)) ?_
  rintro D σ H ⟨W, st, σd, sim, rs, h⟩
  simp only [exec] at h
  refine ⟨W, st, σd, sim, rs, (h.andS rs (R := Rep T)).imp ?_⟩
  rintro v H1 ⟨W1, d1, st1, le1, sim1, r1, h1⟩
  refine ⟨W1, st1, σd, sim1, rs.mono le1, (h1.andS (rs.mono le1) (R := Rep T)).imp ?_⟩
  rintro o H2 ⟨W2, d2, st2, le2, sim2, r2, h2⟩
  cases e : setAD tab st2 d2 d1 with
  | none => rw [e] at h2; exact h2.elim
  | some st3 =>
    rw [e] at h2
    unfold setAD at e
    split at e
    · split at e
      · rename_i hn
        split at e
        · rename_i i hl
          split at e
          · rename_i hi
            cases e
            obtain ⟨q, rfl, hq⟩ := rep_ref r2
            obtain ⟨vs, hs, hc, sim3⟩ := sim2.setIns hn hq hi (r1.mono le2)
            have hm := List.all_eq_true.mp ht _ (lookup_mem hl)
            simp only [Bool.and_eq_true, decide_eq_true_eq] at hm
            have ok := T.cok _ hc
            rw [C.hK] at ok
            obtain ⟨pp, hp⟩ := ok.slot i f (by rw [C.cl.2.1 _ hm.1]; exact hm.2)
            exact ⟨q.1, _, q.2, pp, vs, i, rfl, hs, ok.cls, hp, h2 W2 σ _ (.refl _) sim3 ((rs.mono le1).mono le2)⟩
          · cases e
        · cases e
      · cases e
    · cases e
theorem s_stk {s : Stmt} : PS X s (tS T XW .stk) := ⟨fun pins s σ H D I h => by
  obtain ⟨W, st, σd, sim, rs, h⟩ := h
  simp only [exec] at h
  exact h.elim⟩
theorem s_setI (C : CondS T XW P G R U c X) {p : Pos} (hv : PE X x (tI T XW d)) (ho : PE X y (tI T XW a)) (hi : PE X z (tI T XW b)) (hs : noSlice z = true) : PS X (.Assign [.Subscript y z p] x pos) (tS T XW (.setI a b d)) := by
  have ha : ∀ v, assign (.Subscript y z p) X.env v = (do
      let ov ← holding [v] (eval y X.env)
      let iv ← holding [v, ov] (eval z X.env)
      standAt p
      holding [v, ov, iv] (setItem ov iv v)
      release [v, ov, iv] []) := by
    intro v
    cases z <;> first | rfl | cases hs
  have hsw : swapsWithSole [.Subscript y z p] x pos.line X.env = pure false := by cases x <;> rfl
  have hw : swappedStores [.Subscript y z p] x X.env = pure none := by cases x <;> rfl
  refine PS.imp (ps_asg hv (pg_sub ho hi set_list ha) hsw hw) ?_
  rintro D σ H ⟨W, st, σd, sim, rs, h⟩
  simp only [exec] at h
  refine ⟨W, st, σd, sim, rs, (h.andS rs (R := Rep T)).imp ?_⟩
  rintro v H1 ⟨W1, d1, st1, le1, sim1, r1, h1⟩
  refine ⟨W1, st1, σd, sim1, rs.mono le1, (h1.andS (rs.mono le1) (R := Rep T)).imp ?_⟩
  rintro o H2 ⟨W2, d2, st2, le2, sim2, r2, h2⟩
  refine ⟨W2, st2, σd, sim2, (rs.mono le1).mono le2, (h2.andS ((rs.mono le1).mono le2) (R := Rep T)).imp ?_⟩
  rintro i H3 ⟨W3, d3, st3, le3, sim3, r3, h3⟩
  cases e : setD st3 d2 d3 d1 with
  | none => rw [e] at h3; exact h3.elim
  | some st4 =>
    rw [e] at h3
    unfold setD at e
    split at e
    · rename_i n i0
      split at e
      · rename_i zs hn
        split at e
        · rename_i k hk
          cases e
          obtain ⟨q, rfl, hq⟩ := rep_ref (r2.mono le3)
          obtain ⟨xs, hx, rz, _⟩ := sim3.cell _ _ q hn hq
          cases rep_int r3
          refine ⟨q.1, xs, i0, k, rfl, rfl, hx, by rw [← rz.length]; exact hk, ?_⟩
          exact h3 W3 σ _ (.refl _) (sim3.write hn hq (rz.set k ((r1.mono le2).mono le3))) (((rs.mono le1).mono le2).mono le3)
        · cases e
      · cases e
    · cases e
theorem ip_mul {X : Cx} : PIp X .Mult (fun x y H Q => ∃ i j, x = .int i ∧ y = .int j ∧ IntMulOk i j ∧ Q (.int (i * j)) H) := by
  intro pins s σ H x y v u Q I r1 r2 h
  obtain ⟨i, j, rfl, rfl, hm, q⟩ := h
  obtain ⟨t, rfl⟩ := r1
  obtain ⟨t', rfl⟩ := r2
  exact imul_int ⟨.int _, H, I.tok _, ⟨_, rfl⟩, q⟩ hm
theorem s_aug (C : CondS T XW P G R U c X) {i : Nat} {n : Str} {p : Pos} {o : BO} (h1 : chkN c none i n = true) (ha : PE X x (tI T XW a)) (ho : augOk o = true) : PS X (.AugAssign (.Name n p) o.op x pos) (tS T XW (.aug i o a)) := by
  obtain ⟨n1, n2, n3⟩ := chkN.at C.toCond h1
  have rd : ∀ {ti : TIp}, (∀ (W : Wd) (H : Hp) (v w : V) (d1 d2 dd : D) (Q : VK), Rep T W d1 v → Rep T W d2 w → augD o d1 d2 = some dd → (∀ b, Rep T W dd b → Q b H) → ti v w H Q) → ∀ D σ H, tS T XW (.aug i o a) D σ H → tAug i (tI T XW a) ti D σ H := by
    intro ti hti D σ H ⟨W, st, σd, sim, rs, h⟩
    simp only [exec] at h
    split at h
    · rename_i d1 hd
      obtain ⟨v, hv, r⟩ := rs.get i d1 hd
      refine ⟨v, hv, W, st, σd, sim, rs, (h.andS rs (R := Rep T)).imp ?_⟩
      rintro w H1 ⟨W1, d2, st1, le1, sim1, r1, h1⟩
      cases e : augD o d1 d2 with
      | none => rw [e] at h1; exact h1.elim
      | some dd =>
        rw [e] at h1
        exact hti W1 H1 v w d1 d2 dd _ (r.mono le1) r1 e fun b rb => h1 W1 _ H1 (.refl _) sim1 ((rs.mono le1).set i rb)
    · exact h.elim
  cases o <;> first | (cases ho; done) | skip
  · refine PS.imp (ps_aug C.nd n1 n2 ha ip_add n3) (rd ?_)
    intro W H v w d1 d2 dd Q r1 r2 e k
    cases d1 <;> first | (simp [augD] at e; done) | skip
    cases d2 <;> first | (simp [augD] at e; done) | skip
    simp only [augD, Option.some.injEq] at e
    cases rep_int r1
    cases rep_int r2
    exact ⟨_, _, rfl, rfl, k _ (e ▸ .int _)⟩
  · refine PS.imp (ps_aug C.nd n1 n2 ha ip_sub n3) (rd ?_)
    intro W H v w d1 d2 dd Q r1 r2 e k
    cases d1 <;> first | (simp [augD] at e; done) | skip
    cases d2 <;> first | (simp [augD] at e; done) | skip
    simp only [augD, Option.some.injEq] at e
    cases rep_int r1
    cases rep_int r2
    exact ⟨_, _, rfl, rfl, k _ (e ▸ .int _)⟩
  · refine PS.imp (ps_aug C.nd n1 n2 ha ip_mul n3) (rd ?_)
    intro W H v w d1 d2 dd Q r1 r2 e k
    cases d1 <;> first | (simp [augD] at e; done) | skip
    cases d2 <;> first | (simp [augD] at e; done) | skip
    simp only [augD] at e
    split at e
    · rename_i hm
      cases e
      cases rep_int r1
      cases rep_int r2
      exact ⟨_, _, rfl, rfl, CMulW.ok (by unfold mulOk at hm; unfold CMulW; exact of_decide_eq_true hm), k _ (.int _)⟩
    · cases e
/-- a test's outcome, then on -/
theorem PstS.andT {W : Wd} {D : Ends} {σ : L2.St} {σd : EnvD} {o : Out Bool} {f : Bool → Store → OutS} (rs : RepS T W σ σd) (h : PstS T XW W (o.andS σd f) D) :
    Pst T XW σ W (fun _ (a b : Bool) => a = b) o (fun k H => ∃ W1 st1, W.le W1 ∧ Sim T W1 st1 H ∧ PstS T XW W1 (f k st1) D) :=
  (h.andS rs (R := fun _ (a b : Bool) => a = b)).imp fun b H ⟨W1, k, st1, le, sim, e, h1⟩ => ⟨W1, st1, le, sim, e ▸ h1⟩
theorem s_ite {p q : List Stmt} {s1 s2 : ISs} (hc : PT X x (tIt T XW a)) (ha : PSs X p (tSs T XW s1)) (hb : PSs X q (tSs T XW s2)) : PS X (.If x p q pos) (tS T XW (.ite a s1 s2)) := by
  refine PS.imp (ps_if hc ha hb) ?_
  rintro D σ H ⟨W, st, σd, sim, rs, h⟩
  simp only [exec] at h
  refine ⟨W, st, σd, sim, rs, (h.andT rs).imp ?_⟩
  rintro k H1 ⟨W1, st1, le1, sim1, h1⟩
  split at h1
  · rename_i e; rw [if_pos e]; exact ⟨W1, st1, σd, sim1, rs.mono le1, h1⟩
  · rename_i e; rw [if_neg e]; exact ⟨W1, st1, σd, sim1, rs.mono le1, h1⟩
theorem s_whl (C : CondS T XW P G R U c X) {p : List Stmt} {s1 : ISs} {n : Nat} (hc : PT X x (tIt T XW a)) (ha : PSs X p (tSs T XW s1)) : PS X (.While x p [] pos) (tS T XW (.whl n a s1)) := by
  refine PS.imp (ps_while C.pw hc ha) ?_
  rintro D σ H ⟨W, st, σd, sim, rs, h⟩
  simp only [exec] at h
  refine ⟨fun m σ H => ∃ W st σd, Sim T W st H ∧ RepS T W σ σd ∧ PstS T XW W (whlRun (evt a) (execs T.xm s1) m σd st) D, ⟨n, W, st, σd, sim, rs, h⟩, ?_⟩
  clear h rs sim σd st W
  rintro m σ H ⟨W, st, σd, sim, rs, h⟩
  cases m with
  | zero => exact h.elim
  | succ m =>
    rw [whlRun] at h
    refine ⟨W, st, σd, sim, rs, (h.andT rs).imp ?_⟩
    rintro k H1 ⟨W1, st1, le1, sim1, h1⟩
    split at h1
    · rename_i e
      rw [if_pos e]
      refine ⟨_, fun σ' H' q => ⟨m, Nat.lt_succ_self m, q⟩, W1, st1, σd, sim1, rs.mono le1, ?_⟩
      cases eo : execs T.xm s1 σd st1 with
      | nx σ2 st2 => rw [eo] at h1; exact fun W2 σ3 H2 le2 sim2 rs2 => ⟨W2, st2, σ2, sim2, rs2, PstS.mono le2 h1⟩
      | cnt σ2 st2 => rw [eo] at h1; exact fun W2 σ3 H2 le2 sim2 rs2 => ⟨W2, st2, σ2, sim2, rs2, PstS.mono le2 h1⟩
      | brk σ2 st2 => rw [eo] at h1; exact h1
      | ret _ _ => rw [eo] at h1; exact h1
      | raise _ _ _ => rw [eo] at h1; exact h1
      | stuck => rw [eo] at h1; exact h1
    · rename_i e
      rw [if_neg e]
      exact h1 W1 σ H1 (.refl _) sim1 (rs.mono le1)
theorem s_for (C : CondS T XW P G R U c X) {p : List Stmt} {s1 : ISs} {t : IT} {tg i : Expr} {it : IIt} (hi : PI X tg i (tIi T XW it)) (hn : notSet i = true) (ht : chkT c none t tg = true) (ha : PSs X p (tSs T XW s1)) : PS X (.For tg i p [] pos) (tS T XW (.for t it s1)) := by
  have hfs : ∀ x, foldedSetIterable i X.env x = pure x := by
    intro x
    cases i <;> first | rfl | cases hn
  refine PS.imp (ps_for C.pw C.calm hi (c_tgt C.toCond ht) ha hfs) ?_
  rintro D σ H ⟨W, st, σd, sim, rs, h⟩
  simp only [exec] at h
  refine ⟨W, st, σd, sim, rs, (h.andS rs (R := fun W (i : ItD) (J : It) => RepIt T W i J)).imp ?_⟩
  rintro J H1 ⟨Wa, itd, st1, le1, sim1, rit, h1⟩
  refine ⟨fun i m σ H => ∃ W st σd, Wa.le W ∧ Sim T W st H ∧ RepS T W σ σd ∧ PstS T XW W (forRun t (execs T.xm s1) itd m i σd st) D, ⟨fuelD, Wa, st1, σd, .refl _, sim1, rs.mono le1, h1⟩, ?_⟩
  rintro i m σ H ⟨W, st, σd, leW, sim, rs, h⟩
  cases m with
  | zero => exact h.elim
  | succ m =>
    rw [forRun] at h
    obtain ⟨n1, n2⟩ := it_next (i := i) sim (rit.sub leW.1)
    cases hn : nextD itd i st with
    | none => rw [hn] at h; exact h.elim
    | some r =>
      cases r with
      | none =>
        rw [hn] at h
        exact .inl ⟨n1 hn, h W σ H (.refl _) sim rs⟩
      | some x =>
        rw [hn] at h
        obtain ⟨go, yl⟩ := n2 x hn
        right
        refine ⟨go, _, fun σ' H' q => ⟨m, Nat.lt_succ_self m, q⟩, fun v H3 hy => ?_⟩
        obtain ⟨W3, le3, sim3, rx⟩ := yl v H3 hy
        cases ea : asgT st t x σd with
        | none => simp only [ea] at h; exact h.elim
        | some σ2 =>
          simp only [ea] at h
          refine ⟨W3, st, σd, x, σ2, sim3, rs.mono le3, rx, ea, fun σ3 rs3 _ _ => ⟨W3, st, σ2, sim3, rs3, ?_⟩⟩
          have h := PstS.mono le3 h
          cases eo : execs T.xm s1 σ2 st with
          | nx σ4 st4 => rw [eo] at h; exact fun W4 σ5 H4 le4 sim4 rs4 => ⟨W4, st4, σ4, (leW.trans le3).trans le4, sim4, rs4, PstS.mono le4 h⟩
          | cnt σ4 st4 => rw [eo] at h; exact fun W4 σ5 H4 le4 sim4 rs4 => ⟨W4, st4, σ4, (leW.trans le3).trans le4, sim4, rs4, PstS.mono le4 h⟩
          | brk _ _ => rw [eo] at h; exact h
          | ret _ _ => rw [eo] at h; exact h
          | raise _ _ _ => rw [eo] at h; exact h
          | stuck => rw [eo] at h; exact h
theorem s_raise (C : CondS T XW P G R U c X) {k : Nat} {f : MkF} {n : Str} {p p2 : Pos} {es : List Expr} {is : IEs} (hr : R k f) (hn : c.xn k = n) (hg : glB c.sc n = true) (ha : PA X (x :: es) (tIs T XW is)) (hc : chkEs c is (x :: es) = true) :
    PS X (.Raise (some (.Call (.Name n p) (x :: es) [] p2)) none pos) (tS T XW (.raise k f is)) := by
  subst hn
  have hst : noStar x = true := by cases is with
    | nil => simp [chkEs] at hc
    | cons _ _ => simp only [chkEs, Bool.and_eq_true] at hc; exact hc.1.2
  have hpl : (backTo p2 (starEach es X.env)).any (·.1) = false := by cases is with
    | nil => simp [chkEs] at hc
    | cons _ _ => simp only [chkEs, Bool.and_eq_true] at hc; exact plain_args hc.2
  have mk : PMk X (.Call (.Name (c.xn k) p) (x :: es) [] p2) (tMk T XW f is) := C.mkx k f hr X.pn X.xe XW x es is p p2 ha (star_cons hst) hpl (C.gl' hg)
  refine PS.imp (ps_raise C.calm C.tk mk) ?_
  rintro D σ H ⟨W, st, σd, sim, rs, h⟩
  simp only [exec] at h
  refine ⟨W, st, σd, sim, rs, ?_⟩
  cases e : evs is σd st with
  | stuck => rw [e] at h; exact h
  | raise u st1 => rw [e] at h; exact fun cls dd W' H' le s r => h W' σ H' cls dd le s (rs.mono le) r
  | ok ds st1 =>
    rw [e] at h
    have h2 : PstS T XW W (match f ds st1 with
      | some x => .raise x σd st1
      | none => .stuck) D := h
    show Pst T XW σ W _ (ofO (f ds st1) st1) _
    cases ef : f ds st1 with
    | none => rw [ef] at h2; exact h2
    | some u =>
      rw [ef] at h2
      exact fun b W' H' le s r => h2 W' σ H' b.1 b.2 le s (rs.mono le) r
end
end Ip
set_option Elab.async false
set_option linter.all false
set_option maxRecDepth 100000
set_option maxHeartbeats 400000
/-! Statements: tuples in parallel, a list stored from within, try; every statement. -/
namespace Ip
open PySem PySem.Spec PyProof.Rows L2
section
variable {T : Tb} {XW : WX} {P : Nat → List D → Fn → Prop} {G : Nat → D → Prop} {R : Nat → MkF → Prop} {U : Nat → Prop} {c : Cfg} {X : Cx} {x y z : Expr} {a b d : IE} {pos : Pos}
/-! ### stores from the right -/
theorem par_store {M : Model} {A : Around} {E : Value → Shared → Prop} {pins : List (Addr × Obj)} {H : Hp} {W : Wd} (hN : X.N.Nodup) : ∀ (is : List Nat) (ns : List Str) (ds : List D) (vs : List V) (us : List Value) (σ : L2.St) (σd σd' : EnvD) (s : Shared) (Q : Unit → Shared → Prop), Inv X pins σ H s → RepS T W σ σd → RepA T W ds vs → Vals vs us →
    setAll is ds σd = some σd' → ns.map some = is.map (fun i => X.N[i]?) → (∀ n ∈ ns, X.env.scope.names.lookup n = some .local) → (∀ σ' s', Inv X pins σ' H s' → RepS T W σ' σd' → Q () s') →
    wpAny M A (assignInOrder (ns.map fun n => bindName X.env n) us) Q E s
  | [], ns, [], _, _, σ, σd, σd', s, Q, I, rs, .nil, .nil, e, hn, hl, q => by
    cases ns with
    | nil => cases e; exact assignInOrder_nil (q σ s I rs)
    | cons _ _ => simp at hn
  | i :: is, ns, d :: ds, _, _, σ, σd, σd', s, Q, I, rs, .cons r ra, .cons u ua, e, hn, hl, q => by
    cases ns with
    | nil => simp at hn
    | cons n ns =>
      rw [List.map_cons, List.map_cons, List.cons.injEq] at hn
      rw [setAll] at e
      have hx := hl n List.mem_cons_self
      rw [List.map_cons]
      refine assignInOrder_cons (wpAny_bindName (store_ok I hN hn.1.symm (.inl hx) u (fun s2 I2 => ?_) (.inr hx)))
      exact par_store hN is ns ds _ _ _ _ σd' s2 Q I2 (rs.set i r) ra ua e hn.2 (fun m hm => hl m (List.mem_cons_of_mem _ hm)) q
  | [], _, _ :: _, _, _, _, _, _, _, _, _, _, _, _, e, _, _, _ => by simp [setAll] at e
  | _ :: _, _, [], _, _, _, _, _, _, _, _, _, _, _, e, _, _, _ => by simp [setAll] at e
theorem parNames_loc {sc : Scope} {ts : List Expr} : ∀ n ∈ parNames sc ts, sc.names.lookup n = some .local := by
  intro n h
  unfold parNames at h
  obtain ⟨t, _, e⟩ := List.mem_filterMap.mp h
  unfold parName at e
  split at e
  · split at e
    · rename_i hc
      cases e
      simp only [Bool.and_eq_true, beq_iff_eq] at hc
      exact hc.1
    · cases e
  · cases e
theorem swaps_some {sc : Scope} {env : Env} (hs : env.scope = sc) (hk : sc.kind = .function) {ts vs : List Expr} {k k2 : Nat} {p p2 : Pos} (hl : vs.length = ts.length) (h23 : (ts.length == 2 || ts.length == 3) = true) (hst : vs.all noStar = true)
    (hn : (parNames sc ts).length = ts.length) (hd : (parNames sc ts).Nodup) (hf : vs.all (foldedForSure 8) = false) (hc : vs.all (constantsAlone 8) = false) : swappedStores [.Tuple ts k p] (.Tuple vs k2 p2) env = pure (some (parNames sc ts)) := by
  have hb : env.blockKind = .function := by unfold Env.blockKind; rw [hs, hk]; rfl
  have h0 : (!(ts.length == 2 || ts.length == 3) || vs.length != ts.length || env.blockKind != .function) = false := by
    rw [hb, h23, hl]; simp
  have key1 : ∀ F : Expr → Bool, (∀ e, noStar e = true → F e = false) → vs.any F = false := by
    intro F hF
    rw [List.any_eq_false]
    intro e he
    rw [hF e (List.all_eq_true.mp hst e he)]
    exact Bool.false_ne_true
  have key2 : ∀ F : Expr → Option Str, (∀ e, F e = parName sc ts e) → ts.filterMap F = parNames sc ts := by
    intro F hF
    rw [show F = parName sc ts from funext hF]
    rfl
  have hed : ∀ {l : List Str}, l.Nodup → l.eraseDups = l := by
    intro l hl
    induction l with
    | nil => rfl
    | cons a l ih =>
      rw [List.eraseDups_cons]
      have hn := List.nodup_cons.mp hl
      have : (l.filter fun b => !b == a) = l := by
        rw [List.filter_eq_self]
        intro b hb
        have : b ≠ a := fun z => hn.1 (z ▸ hb)
        simp [this]
      rw [this, ih hn.2]
  unfold swappedStores
  simp only [h0, Bool.false_eq_true, if_false, pure_bind]
  rw [key1 _ (by intro e he; cases e <;> first | (exact absurd he Bool.false_ne_true) | rfl)]
  rw [key2 _ (by
    intro e
    cases e <;> first | rfl | skip
    simp only [parName, Env.kindOf, hs])]
  have hne : (parNames sc ts).isEmpty = false := by
    cases h : parNames sc ts with
    | nil =>
      rw [h] at hn
      simp only [List.length_nil] at hn
      rw [← hn] at h23
      exact absurd h23 Bool.false_ne_true
    | cons _ _ => rfl
  simp only [hed hd, hn, hf, hc, bne_self_eq_false, Bool.or_self, Bool.false_eq_true, if_false, pure_bind]
theorem names_nodup {N : List Str} (hN : N.Nodup) : ∀ (ns : List Str) (is : List Nat), ns.map some = is.map (fun i => N[i]?) → is.Nodup → ns.Nodup
  | [], _, _, _ => List.nodup_nil
  | _ :: _, [], h, _ => by simp at h
  | n :: ns, i :: is, h, hd => by
    rw [List.map_cons, List.map_cons, List.cons.injEq] at h
    rw [List.nodup_cons] at hd
    refine List.nodup_cons.mpr ⟨fun hm => ?_, names_nodup hN ns is h.2 hd.2⟩
    have hm2 : some n ∈ ns.map some := List.mem_map.mpr ⟨n, hm, rfl⟩
    rw [h.2] at hm2
    obtain ⟨j, hj, e⟩ := List.mem_map.mp hm2
    have := nodup_ix hN h.1.symm e
    exact hd.1 (this ▸ hj)
theorem s_par (C : CondS T XW P G R U c X) {is : List Nat} {es : IEs} {ts vs : List Expr} {k k2 : Nat} {p p2 : Pos} (h1 : chkEs c es vs = true) (ha : PA X vs (tIs T XW es)) (hl : vs.length = ts.length) (h23 : (ts.length == 2 || ts.length == 3) = true)
    (hn : (parNames c.sc ts).map some = is.map fun i => c.N[i]?) (hlen : is.length = ts.length) (hd : is.Nodup) (hf : vs.all (foldedForSure 8) = false) (hc : vs.all (constantsAlone 8) = false) : PS X (.Assign [.Tuple ts k p] (.Tuple vs k2 p2) pos) (tS T XW (.par is es)) := by
  have hst : ∀ {vs : List Expr} {es : IEs}, chkEs c es vs = true → vs.all noStar = true := by
    intro vs
    induction vs with
    | nil => intro _ _; rfl
    | cons v vs ih =>
      intro es h
      cases es with
      | nil => simp [chkEs] at h
      | cons _ _ =>
        simp only [chkEs, Bool.and_eq_true] at h
        rw [List.all_cons, h.1.2, ih h.2]; rfl
  have hln : (parNames c.sc ts).length = ts.length := by
    have := congrArg List.length hn
    simpa [hlen] using this
  have hnd : (parNames c.sc ts).Nodup := names_nodup (C.N ▸ C.nd) _ _ hn hd
  have hw := swaps_some (k := k) (k2 := k2) (p := p) (p2 := p2) C.sc (by rw [← C.sc]; exact C.kd) hl h23 (hst h1) hln hnd hf hc
  have hs : swapsWithSole [.Tuple ts k p] (.Tuple vs k2 p2) pos.line X.env = pure false := rfl
  refine ⟨fun pins s σ H D I h => ?_⟩
  obtain ⟨W, st, σd, sim, rs, h⟩ := h
  simp only [exec] at h
  rw [exec_Assign_arm]
  refine wpAny_bind (wpAny_standAt ?_)
  rw [hs]
  refine wpAny_bind (wpAny_pure ?_)
  rw [if_neg (by decide)]
  refine wpAny_bind (Tuple_ (thn (ha.run _ pins s σ H _ I ⟨W, st, σd, sim, rs, h.andS rs (R := RepA T)⟩) fun us s1 ⟨vals, H1, I1, r1, W1, ds, st1, le1, sim1, ra, q1⟩ => ?_))
  have hds : ds.length ≤ 3 := by
    cases e : setAll is.reverse ds.reverse σd with
    | none => rw [e] at q1; exact q1.elim
    | some _ =>
      have := setAll_len e
      simp only [List.length_reverse] at this
      simp only [Bool.or_eq_true, beq_iff_eq] at h23
      omega
  have hul : us.length = ds.length := by rw [← r1.length, ra.length]
  refine wpAny_newObj_type ?_ (by show us.toArray.size ≤ sizeLine; rw [List.size_toArray, sizeLine_eq]; omega)
  have I2 : Inv X pins σ H1 { s1 with heap := s1.heap.push { cls := .type "tuple", data := .seq us.toArray } } := I1.kept (t' := s1.toks) fun b o e => Heap.get?_push_of_some _ e
  rw [hw]
  refine wpAny_bind (wpAny_pure ?_)
  show wpAny (model X.prog X.w) X.A (do rule "assign.swapped-stores"; let items ← unpackItems (.ref s1.heap.objs.size) (parNames c.sc ts).length none; assignInOrder ((parNames c.sc ts).reverse.map fun n => bindName X.env n) items.reverse; pure Flow.next) _ _ _
  have hsz : us.toArray.size = (parNames c.sc ts).length := by
    rw [List.size_toArray, hul, hln, ← hlen]
    cases e : setAll is.reverse ds.reverse σd with
    | none => rw [e] at q1; exact q1.elim
    | some _ =>
      have := setAll_len e
      simpa using this
  rw [← hsz]
  refine wpAny_bind (wpAny_rule (wpAny_bind (unpackItems_tuple (items := us.toArray) (I.ok.hd C.calm) (IsTup.new s1.heap _) fun h' hx' => ?_)))
  have I3 := I2.kept (h' := h') (t' := s1.toks) fun b o e => hx' b o (Nat.ne_of_lt (Heap.lt_size e)) e
  cases e : setAll is.reverse ds.reverse σd with
  | none => rw [e] at q1; exact q1.elim
  | some σ2 =>
    rw [e] at q1
    refine wpAny_bind (par_store C.nd is.reverse _ ds.reverse vals.reverse _ σ σd σ2 _ _ I3 (rs.mono le1) ra.reverse (Vals.reverse r1) e (by rw [List.map_reverse, List.map_reverse, hn, C.N]) (fun n hm => by rw [C.sc]; exact parNames_loc n (List.mem_reverse.mp hm)) fun σ' s' I' rs' => ?_)
    exact wpAny_pure ⟨σ', H1, I', q1 W1 σ' H1 (.refl _) sim1 rs'⟩
/-! ### name = [..] -/
theorem comp_parts {cc : Cond T XW P G c X} {t : Bool} {own : List Nat} {it : IIt} {tg : IT} {cond elt : IE} {y : Expr} {gens : List Comprehension} {scope : Scope} {p : Pos} (ok : okE P G (.comp t own it tg cond elt)) (h : chkE c (.comp t own it tg cond elt) (.ListComp y gens scope p) = true) :
    ∃ tge i ifs, gens = [⟨tge, i, ifs, 0⟩] ∧ PI X tge i (tIi T XW it) ∧ notSet i = true ∧ blkC c.N c.sc scope (ownOf c.N own) = true ∧ chkT (c.blk scope) (some own) tg tge = true ∧
      (∀ (s : Shared) (H : Hp) (C0 : Addr) (cl : List (Str × Addr)) (fp : List Addr), PTs (X.blk s H scope (compEnvC scope cl C0 X.env) fp) ifs (tIt T XW0 cond)) ∧
      (∀ (s : Shared) (H : Hp) (C0 : Addr) (cl : List (Str × Addr)) (fp : List Addr), PE (X.blk s H scope (compEnvC scope cl C0 X.env) fp) y (tI T XW0 elt)) := by
  rcases gens with _ | ⟨⟨tge, i, ifs, n⟩, _ | _⟩ <;> first | (exact absurd h Bool.false_ne_true) | skip
  replace h : (decide (n = 0) && chkI c it i && notSet i && blkC c.N c.sc scope (ownOf c.N own) && chkT (c.blk scope) (some own) tg tge && chkE (c.blk scope) elt y &&
    (match (generalizing := false) ifs with
      | [] => isYes cond
      | [u] => chkE (c.blk scope) cond u
      | _ => false)) = true := h
  simp only [Bool.and_eq_true, decide_eq_true_eq] at h
  obtain ⟨⟨⟨⟨⟨⟨rfl, h1⟩, h2⟩, h3⟩, h4⟩, h5⟩, h6⟩ := h
  refine ⟨tge, i, ifs, rfl, mI it i cc ok.1 h1 tge, h2, h3, h4, fun s H C0 cl fp => ?_, fun s H C0 cl fp => (mE elt y (cc.blk scope s H C0 cl fp) ok.2.2 h5).1⟩
  rcases ifs with _ | ⟨u, _ | _⟩
  · have hy : cond = .con (.bl true) := by
      have h7 : isYes cond = true := h6
      clear h6
      unfold isYes at h7
      split at h7
      · rfl
      · cases h7
    refine ⟨fun pins s' σ H' Q I q => pts_nil.run pins s' σ H' Q I ?_⟩
    obtain ⟨W, st, σd, sim, rs, q⟩ := q
    subst hy
    simp only [evt, ev] at q
    exact q true W H' (.refl _) sim rfl
  · exact pts_one (mE cond u (cc.blk scope s H C0 cl fp) ok.2.1 h6).2.1
  · exact absurd h6 Bool.false_ne_true
theorem s_asgC (C : CondS T XW P G R U c X) {i : Nat} {n : Str} {p : Pos} (h1 : chkN c none i n = true) (ok : okE P G a) (ha : chkE c a x = true) (hn : isComp a = true) : PS X (.Assign [.Name n p] x pos) (tS T XW (.asg (.nm i) a)) := by
  have pa := (mE a x C.toCond ok ha).1
  cases a <;> first | (exact absurd hn Bool.false_ne_true) | skip
  cases x <;> first | (exact absurd ha Bool.false_ne_true) | skip
  rename_i t own it tg cond elt y gens scope p2
  obtain ⟨n1, n2, n3⟩ := chkN.at C.toCond h1
  have hsw : ∀ l, swapsWith (.ListComp y gens scope p2) (some (.Name n p)) l X.env = pure (swB X.env.scope n p (.ListComp y gens scope p2)) := fun l => swaps_list C.kd
  cases hb : swB X.env.scope n p (.ListComp y gens scope p2) with
  | false => exact PS.imp (ps_set C.nd n1 n2 pa (by rw [hsw, hb]) n3) fun D σ H h => asg_name h
  | true =>
    obtain ⟨tge, i0, ifs, rfl, hi, hns, hbk, ht, hcond, helt⟩ := comp_parts (cc := C.toCond) ok ha
    have hbk : BlkOk X.N X.env.scope scope (ownOf c.N own) := by rw [C.N, C.sc]; exact blkOk_by hbk
    have hfs : ∀ x, foldedSetIterable i0 X.env x = pure x := by
      intro x
      cases i0 <;> first | rfl | cases hns
    have hl : X.env.scope.names.lookup n = some .local := by
      simp only [swB, Bool.and_eq_true, beq_iff_eq] at hb
      exact hb.1.1
    refine PS.imp (ps_setLc C.calm C.nd n1 hl (by rw [hsw, hb]) hi hbk (fun s H C0 cl fp => c_tgt (C.toCond.blk scope s H C0 cl fp) ht) hcond helt hfs) fun D σ H h => ?_
    rw [own_ix]
    exact lc_read ht _ _ _ (asg_name h)

/-! ### try -/
theorem Cond.tr (C : Cond T XW P G c X) {XW' : WX} {pn : List (Addr × Obj)} {xe : Value → Shared → Prop} (tk : Takes (X.tr pn xe) XW') : Cond T XW' P G c (X.tr pn xe) where
  hK := C.hK
  sc := C.sc
  N := C.N
  nd := C.nd
  calm := C.calm
  gd := C.gd
  room := C.room
  tk := tk
  wr := C.wr
  bl := C.bl
  isi := C.isi
  ty := C.ty
  rg := C.rg
  fn := fun i dv sm hp => let ⟨q⟩ := C.fn i dv sm hp; ⟨q⟩
  cl := C.cl
  gl := C.gl
theorem CondS.tr (C : CondS T XW P G R U c X) {XW' : WX} {pn : List (Addr × Obj)} {xe : Value → Shared → Prop} (tk : Takes (X.tr pn xe) XW') (hp : PassesOwn (model X.prog X.w) X.A X.env xe) : CondS T XW' P G R U c (X.tr pn xe) where
  toCond := C.toCond.tr tk
  pw := hp
  hs := C.hs
  hf := C.hf
  kd := C.kd
  mkx := fun k f r pn' xe' => C.mkx k f r pn' xe'
  hn := C.hn
  xm := C.xm
  xf := C.xf
/-- what an except suite's expression reads -/
def tHe (T : Tb) (i : Option Nat) (a : Addr) (cls : Value) (dd : Option Addr) (k : Nat) (h : HE) : TE := fun σ H Q => ∃ W st x dv, Sim T W st H ∧ RepX T W x cls dd ∧ T.xm x.c k = true ∧ (∀ j, i = some j → σ[j]? = some (some (.ref a))) ∧ evh x h = some dv ∧ ∀ v W' H', W.le W' → Sim T W' st H' → Rep T W' dv v → Q v H'
def tHes (T : Tb) (i : Option Nat) (a : Addr) (cls : Value) (dd : Option Addr) (k : Nat) (h : HEs) : TA := fun σ H Q => ∃ W st x ds, Sim T W st H ∧ RepX T W x cls dd ∧ T.xm x.c k = true ∧ (∀ j, i = some j → σ[j]? = some (some (.ref a))) ∧ evhs x h = some ds ∧ ∀ vs W' H', W.le W' → Sim T W' st H' → RepA T W' ds vs → Q vs H'
theorem call_rep1 {X : Cx} {T : Tb} (hK : T.K = X.K) (hg : X.A.guards = some []) (hu : X.A.units + 80 < cLine) : CallR X (.builtin "repr") (fun xs H Q => ∃ W st d t, Sim T W st H ∧ RepA T W [d] xs ∧ depthD d ≤ 60 ∧ reprD d = some t ∧ Q (.str t) H) := by
  intro pins s σ H xs us Q I rx h
  obtain ⟨W, st, d, t, sim, ra, hd, e, q⟩ := h
  obtain ⟨x, rfl, r⟩ := repA1 ra
  obtain ⟨u, rfl, ru⟩ := vals1 rx
  exact call_reprD hK hg hu e hd I sim.sub r ru q
mutual
theorem he_ok (C : CondS T XW P G R U c X) {i : Option Nat} {m : Option Str} {k : Nat} (hU : U k) (hi : ∀ j n, i = some j → m = some n → X.N[j]? = some n ∧ Vis X.env.scope n ∧ nmOk n = true) (him : ∀ n, m = some n → ∃ j, i = some j) {a : Addr} {oe : Obj} {cls : Value} {dd : Option Addr} {pn : List (Addr × Obj)} (hz : Zc cls dd oe) (hd : ∃ vs, oe.data = .fields vs) :
    ∀ (h : HE) (e : Expr), chkH c k m h e = true → PE (X.suite a ((a, oe) :: pn)) e (tHe T i a cls dd k h)
  | .con d, e, h => by
    cases e <;> first | (exact absurd h Bool.false_ne_true) | skip
    simp only [chkH] at h
    obtain ⟨v, h1, h2⟩ := conB_v (T := T) h
    refine PE.imp h2 ?_
    rintro σ H Q ⟨W, st, x, dv, sim, rx, hm, hs, e, q⟩
    cases e
    exact q v W H (.refl _) sim (h1 W)
  | .fld, e, h => by
    cases e <;> first | (exact absurd h Bool.false_ne_true) | skip
    rename_i y f p
    cases y <;> first | (exact absurd h Bool.false_ne_true) | skip
    rename_i n p2
    simp only [chkH, Bool.and_eq_true, decide_eq_true_eq] at h
    obtain ⟨⟨h1, h2⟩, h3⟩ := h
    refine ⟨fun pins s σ H Q I q => ?_⟩
    obtain ⟨W, st, x, dv, sim, rx, hm, hs, e, q⟩ := q
    cases m with
    | none => exact absurd h1 Bool.false_ne_true
    | some m =>
      have h1 : m = n := of_decide_eq_true h1
      subst h1
      obtain ⟨j, rfl⟩ := him m rfl
      obtain ⟨n1, n2, n3⟩ := hi j m rfl rfl
      obtain ⟨C0, c1, c2, c3, c4⟩ := C.xf x.c k hU hm (by rw [h2]; exact h3)
      rw [h2] at c2 c4
      have pv : PE (X.suite a ((a, oe) :: pn)) (.Name m p2) (tVar j) := pe_var n1 n2 (nmOk.l n3) (nmOk.r n3)
      refine (pe_xf c3 c4 hz hd pv).run pins s σ H Q I ?_
      obtain ⟨rx1, rx2⟩ := rx
      unfold evh at e
      split at e
      · rename_i d0 hvs
        cases e
        rw [hvs] at rx2
        obtain ⟨da, v, rfl, hF, rv⟩ := rx2
        refine ⟨_, hs j rfl, rfl, by rw [rx1, c1], da, _, v, rfl, sim.sub _ _ hF, ?_, q v W H (.refl _) sim rv⟩
        rw [c2]
        simp
      · cases e
  | .lst es, e, h => by
    cases e <;> first | (exact absurd h Bool.false_ne_true) | skip
    simp only [chkH] at h
    refine PE.imp (pe_lst (hes_ok C hU hi him hz hd es _ h)) ?_
    rintro σ H Q ⟨W, st, x, dv, sim, rx, hm, hs, e, q⟩
    rw [evh] at e
    split at e
    case h_2 => cases e
    rename_i ds e1
    split at e
    case isFalse => cases e
    rename_i hz
    cases e
    refine ⟨W, st, x, ds, sim, rx, hm, hs, e1, fun vs W1 H1 le1 sim1 ra => ⟨?_, fun p hp => ?_⟩⟩
    · rw [← ra.length]; exact szOk.le hz
    · obtain ⟨W', le, s', r'⟩ := sim1.newL hp ra
      exact q _ W' _ (le1.trans le) s' r'
  | .tup es, e, h => by
    cases e <;> first | (exact absurd h Bool.false_ne_true) | skip
    simp only [chkH] at h
    refine PE.imp (pe_tup (hes_ok C hU hi him hz hd es _ h)) ?_
    rintro σ H Q ⟨W, st, x, dv, sim, rx, hm, hs, e, q⟩
    rw [evh] at e
    split at e
    case h_2 => cases e
    rename_i ds e1
    split at e
    case isFalse => cases e
    rename_i hz
    cases e
    refine ⟨W, st, x, ds, sim, rx, hm, hs, e1, fun vs W1 H1 le1 sim1 ra => ⟨?_, fun p hp => ?_⟩⟩
    · rw [← ra.length]; exact szOk.le hz
    · obtain ⟨W', le, s', r'⟩ := sim1.newT hp ra
      exact q _ W' _ (le1.trans le) s' r'
  | .add y z, e, h => by
    cases e <;> first | (exact absurd h Bool.false_ne_true) | skip
    rename_i u op w p
    cases op <;> first | (exact absurd h Bool.false_ne_true) | skip
    simp only [chkH, Bool.and_eq_true] at h
    refine PE.imp (pe_op (op_bin (X := X.suite a ((a, oe) :: pn)) C.hK .add) (he_ok C hU hi him hz hd y _ h.1) (he_ok C hU hi him hz hd z _ h.2)) ?_
    rintro σ H Q ⟨W, st, x, dv, sim, rx, hm, hs, e, q⟩
    rw [evh] at e
    split at e
    case h_2 => cases e
    rename_i d0 d1 e0 e1
    refine ⟨W, st, x, d0, sim, rx, hm, hs, e0, fun v W1 H1 le1 sim1 r1 => ⟨W1, st, x, d1, sim1, rx.mono le1, hm, hs, e1, fun u W2 H2 le2 sim2 r2 => ?_⟩⟩
    refine ⟨W2, st, d0, d1, sim2, r1.mono le2, r2, dv, ?_, fun w W3 H3 le3 sim3 r3 => q w W3 H3 (le1.trans (le2.trans le3)) sim3 r3⟩
    cases d0 <;> cases d1 <;> first | (cases e; done) | exact e
  | .rep y, e, h => by
    cases e <;> first | (exact absurd h Bool.false_ne_true) | skip
    rename_i g as ks p
    cases g <;> first | (exact absurd h Bool.false_ne_true) | skip
    rcases as with _ | ⟨z, _ | _⟩ <;> rcases ks with _ | _ <;> first | (exact absurd h Bool.false_ne_true) | skip
    simp only [chkH, Bool.and_eq_true, decide_eq_true_eq] at h
    obtain ⟨⟨⟨⟨h1, rfl⟩, h2⟩, h3⟩, h4⟩ := h
    refine PE.imp (pe_callB (call_rep1 (X := X.suite a ((a, oe) :: pn)) (T := T) C.hK C.gd C.hu) (C.gl' h2) (C.bl .repr h1) (by decide +kernel) (pa_cons (he_ok C hU hi him hz hd y _ h3) pa_nil (star_cons h4)) (by decide) (by decide) (star_cons h4) rfl) ?_
    rintro σ H Q ⟨W, st, x, dv, sim, rx, hm, hs, e, q⟩
    rw [evh] at e
    split at e
    case h_2 => cases e
    rename_i d0 e0
    refine ⟨W, st, x, d0, sim, rx, hm, hs, e0, fun v W1 H1 le1 sim1 r1 => ?_⟩
    replace e : (if depthD d0 ≤ 60 then (reprD d0).map D.str else none) = some dv := e
    split at e
    case isFalse => cases e
    rename_i hd0
    obtain ⟨t, e1, rfl⟩ := Option.map_eq_some_iff.mp e
    exact ⟨W1, st, d0, t, sim1, .cons r1 .nil, hd0, e1, q _ W1 H1 le1 sim1 (.str _)⟩
theorem hes_ok (C : CondS T XW P G R U c X) {i : Option Nat} {m : Option Str} {k : Nat} (hU : U k) (hi : ∀ j n, i = some j → m = some n → X.N[j]? = some n ∧ Vis X.env.scope n ∧ nmOk n = true) (him : ∀ n, m = some n → ∃ j, i = some j) {a : Addr} {oe : Obj} {cls : Value} {dd : Option Addr} {pn : List (Addr × Obj)} (hz : Zc cls dd oe) (hd : ∃ vs, oe.data = .fields vs) :
    ∀ (h : HEs) (es : List Expr), chkHs c k m h es = true → PA (X.suite a ((a, oe) :: pn)) es (tHes T i a cls dd k h)
  | .nil, es, h => by
    cases es <;> first | (exact absurd h Bool.false_ne_true) | skip
    refine PA.imp pa_nil ?_
    rintro σ H Q ⟨W, st, x, ds, sim, rx, hm, hs, e, q⟩
    cases e
    exact q [] W H (.refl _) sim .nil
  | .cons y ys, es, h => by
    cases es <;> first | (exact absurd h Bool.false_ne_true) | skip
    simp only [chkHs, Bool.and_eq_true] at h
    refine PA.imp (pa_cons (he_ok C hU hi him hz hd y _ h.1.1) (hes_ok C hU hi him hz hd ys _ h.2) (star_cons h.1.2)) ?_
    rintro σ H Q ⟨W, st, x, ds, sim, rx, hm, hs, e, q⟩
    rw [evhs] at e
    split at e
    · rename_i d0 ds0 e1 e2
      cases e
      refine ⟨W, st, x, d0, sim, rx, hm, hs, e1, fun v W1 H1 le1 sim1 r1 => ⟨W1, st, x, ds0, sim1, rx.mono le1, hm, hs, e2, fun vs W2 H2 le2 sim2 r2 => ?_⟩⟩
      exact q _ W2 H2 (le1.trans le2) sim2 (.cons (r1.mono le2) r2)
    · cases e
end
end
end Ip
set_option Elab.async false
set_option linter.all false
set_option maxRecDepth 100000
set_option maxHeartbeats 1000000
/-! Except clauses one after another, some with a name, some without. -/
namespace Ip
open PySem PySem.Spec PyProof.Rows L2
/-- a clause: its class, the slot of its name, its suite -/
abbrev Cl := Value × Option Nat × (Addr → Value → Option Addr → TS)
/-- what is wanted where the suite of a clause with the slot i ends -/
def endsX (i : Option Nat) (D : Ends) : Ends := match i with
  | none => D
  | some i => { nx := fun σ' H' => D.nx (σ'.set i none) H', rt := D.rt, bk := fun σ' H' => D.bk (σ'.set i none) H', ct := fun σ' H' => D.ct (σ'.set i none) H' }
def slotX (i : Option Nat) (a : Addr) (σ : L2.St) : L2.St := match i with
  | none => σ
  | some i => σ.set i (some (.ref a))
def wMix (K : PySem.W.Frag) (Wout : WX) (D : Ends) : List Cl → WX
  | [] => Wout
  | (c, i, ts) :: r => fun cls d σ H => ∃ b, PySem.W.exmOne K cls c = some b ∧ (b = true → ∀ a, H a = none → ts a cls d (endsX i D) (slotX i a σ) H) ∧ (b = false → wMix K Wout D r cls d σ H)
/-- the clauses' texts and readings -/
inductive HdsX (X : Cx) : List ExceptHandler → List Cl → Prop
  | nil : HdsX X [] []
  | no {x : Str} {c : Value} {ts : Addr → Value → Option Addr → TS} {b₀ : Stmt} {suite : List Stmt} {np pos' : Pos} {hds : List ExceptHandler} {l : List Cl} (hc : Names X x c)
      (hsu : ∀ (a : Addr) (oe : Obj) (cls : Value) (d : Option Addr) (pn : List (Addr × Obj)), Zc cls d oe → (∃ vs, oe.data = .fields vs) → PSs (X.suite a ((a, oe) :: pn)) (b₀ :: suite) (ts a cls d)) (r : HdsX X hds l) :
      HdsX X (.ExceptHandler (some (.Name x np)) none (b₀ :: suite) pos' :: hds) ((c, none, ts) :: l)
  | as {x n : Str} {c : Value} {i : Nat} {ts : Addr → Value → Option Addr → TS} {b₀ : Stmt} {suite : List Stmt} {np pos' : Pos} {hds : List ExceptHandler} {l : List Cl} (hi : X.N[i]? = some n) (hln : X.env.kindOf n = some .local) (hc : Names X x c)
      (hsu : ∀ (a : Addr) (oe : Obj) (cls : Value) (d : Option Addr) (pn : List (Addr × Obj)), Zc cls d oe → (∃ vs, oe.data = .fields vs) → PSs (X.suite a ((a, oe) :: pn)) (b₀ :: suite) (ts a cls d)) (r : HdsX X hds l) :
      HdsX X (.ExceptHandler (some (.Name x np)) (some n) (b₀ :: suite) pos' :: hds) ((c, some i, ts) :: l)
section
variable {X : Cx} {body : List Stmt} {h₀ : ExceptHandler} {hds : List ExceptHandler} {l : List Cl} {pos : Pos} {tb : WX → TS} {Wout : WX}
theorem try_mix (hs : X.stack = X.env :: X.outer) (hf : X.env.frame = some X.env.locals) (hN : X.N.Nodup) (tk : Takes X Wout)
    (hb : ∀ (W : WX) (pn : List (Addr × Obj)) (xe : Value → Shared → Prop), Takes (X.tr pn xe) W → PassesOwn (model X.prog X.w) X.A X.env xe → PSs (X.tr pn xe) body (tb W))
    (hh : HdsX X (h₀ :: hds) l) : PS X (.Try body (h₀ :: hds) [] [] pos) (fun D σ H => tb (wMix X.K Wout D l) D σ H) := by
  refine ⟨fun pins s σ H D I h => ?_⟩
  have ok := I.ok
  have hfr : X.A.frames = some (X.env :: X.outer) := by rw [ok.frames, hs]
  refine wpAny_Try_except ?_
  refine wpAny_mono ((hb (wMix X.K Wout D l) (X.pn ++ pins) (fun e s₁ => wpAny (model X.prog X.w) X.A (noteFrame e X.env) (fun _ s₂ => wpAny (model X.prog X.w) X.A (setFlight e none) (fun _ s₃ =>
    wpAny (model X.prog X.w) X.A (handleBy e X.env (h₀ :: hds)) (SP X pins D) X.xe s₃) X.xe s₂) X.xe s₁) (fun u s' xx => ?_) PassesOwn.looking).run [] s σ H D (I.toTry _) h) (fun f s1 hsp => ?_) (fun e s1 he => he)
  · -- an exception of the body
    obtain ⟨a, B, sI, pins', σ', H', cls, d, rfl, J', nb, up, sky, na, os, ag, w⟩ := xx
    have J : Inv X pins σ' H' sI := J'.ofTry ok
    show wpAny (model X.prog X.w) X.A (noteFrame (.ref a) X.env) _ _ _
    refine Sky.land Zc.steady hfr hf (by rw [← hs]; exact sky) fun h3 fl3 up3 => ?_
    have J3 : Inv X pins σ' H' { s' with heap := h3 } := J.landed nb fl3.1 (up.trans up3) os ag
    obtain ⟨oe3, vs3, he3, hz3, hd3⟩ := fl3.there
    have nfr : a ∉ frs (X.env :: X.outer) := fun hm => by
      obtain ⟨_, o', e', hnf⟩ := fl3.2.2.1.mem hm
      rw [he3] at e'; cases e'
      exact hnf _ hd3
    have nL : a ≠ X.env.locals := fun z => nfr (List.mem_filterMap.mpr ⟨X.env, List.mem_cons_self, by rw [hf, z]⟩)
    have nF : a ∉ X.fs := fun hm => by
      obtain ⟨e, he, q⟩ := List.mem_filterMap.mp hm
      exact nfr (List.mem_filterMap.mpr ⟨e, List.mem_cons_of_mem _ he, q⟩)
    have S3 := J3.suite he3 hd3 na nL nF
    have LT : PySem.W.Looks (model X.prog X.w) h3 (typeOf (.ref a)) cls := fun A Q E s k q => wpAny_typeOf_ref (k _ _ he3) (by rw [hz3.1]; exact q)
    have test : ∀ {x : Str} {c : Value} {np : Pos} {Q : Value → Shared → Prop} {E : Value → Shared → Prop}, Names X x c → Q c { s' with heap := h3 } → wpAny (model X.prog X.w) (X.A.mark (some (.ref a))) (eval (.Name x np) X.env) Q E { s' with heap := h3 } := fun {x c np Q E} hc q => by
      obtain ⟨hg, hdbg, hm | ⟨hm, hv, hnn⟩⟩ := hc
      · exact ld_glob (X := X.suite a ((a, oe3) :: (X.pn ++ pins))) S3 hg hm q hdbg
      · exact ld_blt (X := X.suite a ((a, oe3) :: (X.pn ++ pins))) S3 hg hm hv q hnn hdbg
    have go : ∀ {hds' : List ExceptHandler} {l' : List Cl}, HdsX X hds' l' → wMix X.K Wout D l' cls d σ' H' → wpAny (model X.prog X.w) X.A (handleBy (.ref a) X.env hds') (SP X pins D) X.xe { s' with heap := h3 } := by
      intro hds' l' hk
      induction hk with
      | nil =>
        intro w
        refine wpAny_handleBy_nil ?_
        obtain ⟨k1, k2, k3, oe, vs, T, oT, ts', he, hz, hd, h1, hr⟩ := id fl3
        unfold PySem.passOn
        refine wpAny_bind (wpAny_field he hd h1 ?_)
        rw [if_neg (show ¬ ((Value.ref T == Value.none) = true) from by simp)]
        have fin : wpAny (model X.prog X.w) X.A (setFlight (.ref a) X.env.frame) (fun _ s4 => wpAny (model X.prog X.w) X.A (throw (.ref a) : Sem Flow) (SP X pins D) X.xe s4) X.xe { s' with heap := h3 } := by
          rw [hf]
          refine HandSPX.setFlight_upZ fl3 fun h4 hh4 up4 => wpAny_throw (tk _ _ ?_)
          exact ⟨a, B, sI, pins, σ', H', cls, d, rfl, J, nb, (up.trans up3).trans up4, .inr (.inr (by rw [hs]; exact hh4)), na, os, ag, w⟩
        first
          | exact wpAny_bind (wpAny_pure (wpAny_bind fin))
          | exact wpAny_bind fin
      | @no x c ts b₀ suite np pos' hds2 l2 hc hsu r ih =>
        intro w
        obtain ⟨b, hb1, hyes, hno⟩ := w
        refine wpAny_handleBy_cons (codeAny_handlers_test ?_) (by intro q; cases q)
        have LM := PySem.W.exm_one (M := model X.prog X.w) (J3.kIn) LT hb1
        refine test hc (LM.here ?_)
        cases b with
        | true =>
          refine codeAny_handlers_suite ?_
          refine HandSPX.lands_againZ fl3 fun h4 fl4 up4 => ?_
          have J4 : Inv X pins σ' H' { s' with heap := h4 } := J.landed nb fl4.1 ((up.trans up3).trans up4) os ag
          obtain ⟨oe4, vs4, he4, hz4, hd4⟩ := fl4.there
          have S4 := J4.suite he4 hd4 na nL nF
          refine wpAny_mono ((hsu a oe4 cls d (X.pn ++ pins) hz4 ⟨_, hd4⟩).run [] _ _ H' _ S4 (hyes rfl a na)) (fun f s6 hsp => ?_) (fun _ _ z => False.elim z)
          cases f with
          | next =>
            obtain ⟨σ6, H6, S6, q6⟩ := hsp
            exact ⟨_, _, S6.unsuite ok, q6⟩
          | brk =>
            obtain ⟨σ6, H6, S6, q6⟩ := hsp
            exact ⟨_, _, S6.unsuite ok, q6⟩
          | cont =>
            obtain ⟨σ6, H6, S6, q6⟩ := hsp
            exact ⟨_, _, S6.unsuite ok, q6⟩
          | ret u =>
            obtain ⟨v6, σ6, H6, S6, r6, q6⟩ := hsp
            exact ⟨_, _, _, S6.unsuite ok, r6, q6⟩
        | false => exact ih (hno rfl)
      | @as x n c i ts b₀ suite np pos' hds2 l2 hi hln hc hsu r ih =>
        intro w
        obtain ⟨b, hb1, hyes, hno⟩ := w
        have hloc : Loc X.env.scope n := .inl hln
        refine wpAny_handleBy_cons (codeAny_handlers_test ?_) (by intro q; cases q)
        have LM := PySem.W.exm_one (M := model X.prog X.w) (J3.kIn) LT hb1
        refine test hc (LM.here ?_)
        cases b with
        | true =>
          refine codeAny_handlers_suite_as ?_
          refine HandSPX.lands_againZ fl3 fun h4 fl4 up4 => ?_
          have J4 : Inv X pins σ' H' { s' with heap := h4 } := J.landed nb fl4.1 ((up.trans up3).trans up4) os ag
          obtain ⟨oe4, vs4, he4, hz4, hd4⟩ := fl4.there
          have S4 := J4.suite he4 hd4 na nL nF
          refine store_ok (X := X.suite a ((a, oe4) :: (X.pn ++ pins))) (v := .ref a) S4 hN hi hloc rfl (fun s5 S5 => ?_) (.inr hln)
          refine wpAny_mono ((hsu a oe4 cls d (X.pn ++ pins) hz4 ⟨_, hd4⟩).run [] s5 _ H' _ S5 (hyes rfl a na)) (fun f s6 hsp => ?_) (fun _ _ z => False.elim z)
          have end_ : ∀ {σ6 : L2.St} {H6 : Hp} {Q : Shared → Prop}, Inv (X.suite a ((a, oe4) :: (X.pn ++ pins))) [] σ6 H6 s6 → (∀ s7, Inv X pins (σ6.set i none) H6 s7 → Q s7) →
              wpAny (model X.prog X.w) X.A (do bindName X.env n .none; unbindBehindTheSuite X.env n pos') (fun _ s7 => Q s7) X.xe s6 := fun {σ6 H6 Q} S6 hq => gone_ok (S6.unsuite ok) hN hi hln hq
          cases f with
          | next =>
            obtain ⟨σ6, H6, S6, q6⟩ := hsp
            exact end_ S6 fun s7 J7 => ⟨_, _, J7, q6⟩
          | brk =>
            obtain ⟨σ6, H6, S6, q6⟩ := hsp
            exact end_ S6 fun s7 J7 => ⟨_, _, J7, q6⟩
          | cont =>
            obtain ⟨σ6, H6, S6, q6⟩ := hsp
            exact end_ S6 fun s7 J7 => ⟨_, _, J7, q6⟩
          | ret u =>
            obtain ⟨v6, σ6, H6, S6, r6, q6⟩ := hsp
            exact end_ S6 fun s7 J7 => ⟨_, _, _, J7, r6, q6⟩
        | false => exact ih (hno rfl)
    first
      | exact go hh w
      | exact wpAny_bind (go hh w)
  · cases f with
    | next =>
      obtain ⟨σ', H', J', q⟩ := hsp
      exact wpAny_execs_nil ⟨σ', H', J'.ofTry ok, q⟩
    | brk =>
      obtain ⟨σ', H', J', q⟩ := hsp
      exact ⟨σ', H', J'.ofTry ok, q⟩
    | cont =>
      obtain ⟨σ', H', J', q⟩ := hsp
      exact ⟨σ', H', J'.ofTry ok, q⟩
    | ret u =>
      obtain ⟨v, σ', H', J', r, q⟩ := hsp
      exact ⟨v, σ', H', J'.ofTry ok, r, q⟩
end
end Ip
set_option Elab.async false
set_option linter.all false
set_option maxRecDepth 100000
set_option maxHeartbeats 1000000
/-! Every statement. -/
namespace Ip
open PySem PySem.Spec PyProof.Rows L2
mutual
def okS (P : Nat → List D → Fn → Prop) (G : Nat → D → Prop) (R : Nat → MkF → Prop) (U : Nat → Prop) : IS → Prop
  | .expr e => okE P G e
  | .ret e => okE P G e
  | .asg _ e => okE P G e
  | .par _ es => okEs P G es
  | .setA _ o v => okE P G o ∧ okE P G v
  | .setI o i v => okE P G o ∧ okE P G i ∧ okE P G v
  | .aug _ _ e => okE P G e
  | .ite c a b => okE P G c ∧ okSs P G R U a ∧ okSs P G R U b
  | .whl _ c b => okE P G c ∧ okSs P G R U b
  | .for _ it b => okI P G it ∧ okSs P G R U b
  | .raise k mk es => R k mk ∧ okEs P G es
  | .try b hs => okSs P G R U b ∧ ∀ h ∈ hs, U h.k
  | _ => True
def okSs (P : Nat → List D → Fn → Prop) (G : Nat → D → Prop) (R : Nat → MkF → Prop) (U : Nat → Prop) : ISs → Prop
  | .nil => True
  | .cons s ss => okS P G R U s ∧ okSs P G R U ss
end
section
variable {T : Tb} {P : Nat → List D → Fn → Prop} {G : Nat → D → Prop} {R : Nat → MkF → Prop} {U : Nat → Prop}
theorem names_of {XW : WX} {c : Cfg} {X : Cx} (C : CondS T XW P G R U c X) {k : Nat} {n : Str} (hU : U k) (h1 : c.hn k = n) (h2 : glB c.sc n = true) (h3 : nmOk n = true) : Names X n (T.hc k) := by
  subst h1
  exact ⟨C.gl' h2, nmOk.l h3, C.hn k hU⟩
theorem PstS.ofTry {XW XW' : WX} {W : Wd} {o : OutS} {D : Ends} (h : PstS T XW W o D) (hn : ∀ x σ st, o ≠ .raise x σ st) : PstS T XW' W o D := by
  cases o with
  | raise x σ st => exact absurd rfl (hn x σ st)
  | nx _ _ => exact h
  | brk _ _ => exact h
  | cnt _ _ => exact h
  | ret _ _ => exact h
  | stuck => exact h
theorem s_tryAs {XW : WX} {c : Cfg} {X : Cx} (C : CondS T XW P G R U c X) {b : ISs} {body : List Stmt} {k i : Nat} {h : HE} {n m : Str} {e : Expr} {np rp hp pos : Pos} (hU : U k)
    (hb : ∀ (W : WX) (pn : List (Addr × Obj)) (xe : Value → Shared → Prop), Takes (X.tr pn xe) W → PassesOwn (model X.prog X.w) X.A X.env xe → PSs (X.tr pn xe) body (tSs T W b))
    (h1 : c.hn k = n) (h2 : glB c.sc n = true) (h3 : nmOk n = true) (h4 : chkN c none i m = true) (h5 : visB c.sc m = true) (h6 : nmOk m = true) (h7 : c.sc.names.lookup m = some .local) (h8 : chkH c k (some m) h e = true) :
    PS X (.Try body [.ExceptHandler (some (.Name n np)) (some m) [.Return (some e) rp] hp] [] [] pos) (tS T XW (.try b [⟨k, some i, h⟩])) := by
  obtain ⟨n1, n2, n3⟩ := chkN.at C.toCond h4
  refine PS.imp (ps_try_as (ts := fun a cls dd => tRet (tHe T (some i) a cls dd k h)) C.hs C.hf C.nd n1 (by show X.env.scope.names.lookup m = _; rw [C.sc]; exact h7) (names_of C hU h1 h2 h3) C.tk hb fun a oe cls dd pn hz hd => pss_one (ps_ret (he_ok C hU (fun j n' q1 q2 => by cases q1; cases q2; exact ⟨n1, C.vis h5, h6⟩) (fun _ _ => ⟨i, rfl⟩) hz hd h e h8))) ?_
  rintro D σ H ⟨W, st, σd, sim, rs, q⟩
  simp only [exec] at q
  refine ⟨W, st, σd, sim, rs, ?_⟩
  cases eo : execs T.xm b σd st with
  | raise x σ1 st1 =>
    rw [eo] at q
    intro W' σ' H' cls dd le sim' rs' rx
    refine ⟨T.xm x.c k, by rw [rx.1]; exact C.xm x.c k hU, fun hm a ha => ?_, fun hm => ?_⟩
    · have q2 : PstS T XW W (if T.xm x.c k = true then (match evh x h with
        | some d => if decide (i < σ1.length) = true then .ret d st1 else .stuck
        | none => .stuck) else handle T.xm x σ1 st1 []) D := q
      rw [if_pos hm] at q2
      cases ee : evh x h with
      | none => rw [ee] at q2; exact q2.elim
      | some dv =>
        rw [ee] at q2
        by_cases hl : i < σ1.length
        · simp only [decide_eq_true hl, if_true] at q2
          refine ⟨W', st1, x, dv, sim', rx, hm, fun j q => ?_, ee, fun v W'' H'' le'' sim'' r => q2 W'' v H'' (le.trans le'') sim'' r⟩
          cases q
          exact List.getElem?_set_self (by rw [← rs'.len]; exact hl)
        · simp only [decide_eq_false hl, Bool.false_eq_true, if_false] at q2
          exact q2.elim
    · have q2 : PstS T XW W (if T.xm x.c k = true then (match evh x h with
        | some d => if decide (i < σ1.length) = true then .ret d st1 else .stuck
        | none => .stuck) else handle T.xm x σ1 st1 []) D := q
      rw [if_neg (by rw [hm]; exact Bool.false_ne_true)] at q2
      exact q2 W' σ' H' cls dd le sim' rs' rx
  | nx _ _ => rw [eo] at q; exact q
  | brk _ _ => rw [eo] at q; exact q
  | cnt _ _ => rw [eo] at q; exact q
  | ret _ _ => rw [eo] at q; exact q
  | stuck => rw [eo] at q; exact q
/-- the clauses' readings -/
def hdl (T : Tb) (h : Hd) : Cl := (T.hc h.k, h.i, fun a cls dd => tRet (tHe T h.i a cls dd h.k h.h))
theorem hds_ok {XW : WX} {c : Cfg} {X : Cx} (C : CondS T XW P G R U c X) : ∀ {hs : List Hd} {ys : List ExceptHandler}, (∀ h ∈ hs, U h.k) → chkHds c hs ys = true → HdsX X ys (hs.map (hdl T))
  | [], ys, _, h => by
    cases ys with
    | nil => exact .nil
    | cons _ _ => exact absurd h Bool.false_ne_true
  | hh :: hs, ys, hU, h => by
    cases ys with
    | nil => exact absurd h Bool.false_ne_true
    | cons y ys =>
      simp only [chkHds, Bool.and_eq_true] at h
      have r1 := hds_ok C (fun h' z => hU h' (List.mem_cons_of_mem _ z)) h.2
      obtain ⟨k, i, he⟩ := hh
      replace h := h.1
      unfold chkHd at h
      split at h
      · rename_i e2
        cases e2
        simp only [Bool.and_eq_true, decide_eq_true_eq] at h
        obtain ⟨⟨⟨h1, h2⟩, h3⟩, h4⟩ := h
        have hU0 := hU _ List.mem_cons_self
        exact .no (names_of C hU0 h1 h2 h3) (fun a oe cls dd pn hz hd => pss_one (ps_ret (he_ok (i := none) (m := none) C hU0 (fun j n' q1 _ => nomatch q1) (fun _ q => nomatch q) hz hd _ _ h4))) r1
      · rename_i e2
        cases e2
        simp only [Bool.and_eq_true, decide_eq_true_eq] at h
        obtain ⟨⟨⟨⟨⟨⟨⟨h1, h2⟩, h3⟩, h4⟩, h5⟩, h6⟩, h7⟩, h8⟩ := h
        have hU0 := hU _ List.mem_cons_self
        obtain ⟨n1, n2, n3⟩ := chkN.at C.toCond h4
        exact .as n1 (by show X.env.scope.names.lookup _ = _; rw [C.sc]; exact h7) (names_of C hU0 h1 h2 h3) (fun a oe cls dd pn hz hd => pss_one (ps_ret (he_ok C hU0 (fun j n' q1 q2 => by cases q1; cases q2; exact ⟨n1, C.vis h5, h6⟩) (fun _ _ => ⟨_, rfl⟩) hz hd _ _ h8))) r1
      · exact absurd h Bool.false_ne_true
theorem s_tryMany {XW : WX} {c : Cfg} {X : Cx} (C : CondS T XW P G R U c X) {b : ISs} {body : List Stmt} {hs : List Hd} {y0 : ExceptHandler} {ys : List ExceptHandler} {pos : Pos} (hU : ∀ h ∈ hs, U h.k)
    (hb : ∀ (W : WX) (pn : List (Addr × Obj)) (xe : Value → Shared → Prop), Takes (X.tr pn xe) W → PassesOwn (model X.prog X.w) X.A X.env xe → PSs (X.tr pn xe) body (tSs T W b)) (h1 : chkHds c hs (y0 :: ys) = true) :
    PS X (.Try body (y0 :: ys) [] [] pos) (tS T XW (.try b hs)) := by
  have r1 := hds_ok C hU h1
  refine PS.imp (try_mix C.hs C.hf C.nd C.tk hb r1) ?_
  rintro D σ H ⟨W, st, σd, sim, rs, q⟩
  simp only [exec] at q
  refine ⟨W, st, σd, sim, rs, ?_⟩
  cases eo : execs T.xm b σd st with
  | raise x σ1 st1 =>
    rw [eo] at q
    intro W' σ' H' cls dd le sim' rs' rx
    have q' : PstS T XW W (handle T.xm x σ1 st1 hs) D := q
    clear q h1 r1 hb
    revert q' hU
    induction hs with
    | nil => intro _ q; exact q W' σ' H' cls dd le sim' rs' rx
    | cons h hs ih =>
      intro hU q
      rw [handle] at q
      refine ⟨T.xm x.c h.k, by rw [rx.1]; exact C.xm x.c h.k (hU h List.mem_cons_self), fun hm a ha => ?_, fun hm => ?_⟩
      · rw [if_pos hm] at q
        cases ee : evh x h.h with
        | none => rw [ee] at q; exact q.elim
        | some dv =>
          rw [ee] at q
          obtain ⟨hk, hi, hh⟩ := h
          cases hi with
          | none => exact ⟨W', st1, x, dv, sim', rx, hm, (fun j z => nomatch z), ee, fun v W'' H'' le'' sim'' r => q W'' v H'' (le.trans le'') sim'' r⟩
          | some i =>
            by_cases hl : i < σ1.length
            · simp only [Option.all_some, decide_eq_true hl, if_true] at q
              refine ⟨W', st1, x, dv, sim', rx, hm, fun j q => ?_, ee, fun v W'' H'' le'' sim'' r => q W'' v H'' (le.trans le'') sim'' r⟩
              cases q
              exact List.getElem?_set_self (by rw [← rs'.len]; exact hl)
            · simp only [Option.all_some, decide_eq_false hl, Bool.false_eq_true, if_false] at q
              exact q.elim
      · rw [if_neg (by rw [hm]; exact Bool.false_ne_true)] at q
        exact ih (fun h' z => hU h' (List.mem_cons_of_mem _ z)) q
  | nx _ _ => rw [eo] at q; exact q
  | brk _ _ => rw [eo] at q; exact q
  | cnt _ _ => rw [eo] at q; exact q
  | ret _ _ => rw [eo] at q; exact q
  | stuck => rw [eo] at q; exact q
mutual
theorem mS : ∀ (a : IS) {XW : WX} {c : Cfg} {X : Cx} (s : Stmt), CondS T XW P G R U c X → okS P G R U a → chkS c a s = true → PS X s (tS T XW a)
  | .pass, XW, c, X, s, C, ok, h => by
    cases s <;> first | (exact absurd h Bool.false_ne_true) | exact s_pass
  | .brk, XW, c, X, s, C, ok, h => by
    cases s <;> first | (exact absurd h Bool.false_ne_true) | exact s_brk
  | .cnt, XW, c, X, s, C, ok, h => by
    cases s <;> first | (exact absurd h Bool.false_ne_true) | exact s_cnt
  | .doc t, XW, c, X, s, C, ok, h => by
    cases s <;> first | (exact absurd h Bool.false_ne_true) | skip
    rename_i v p
    cases v <;> first | (exact absurd h Bool.false_ne_true) | skip
    rename_i k n p2
    cases k <;> first | (exact absurd h Bool.false_ne_true) | skip
    simp only [chkS, decide_eq_true_eq] at h
    subst h
    exact s_doc
  | .expr e, XW, c, X, s, C, ok, h => by
    cases s <;> first | (exact absurd h Bool.false_ne_true) | skip
    simp only [chkS, Bool.and_eq_true] at h
    exact s_expr (mE e _ C.toCond ok h.1).1 h.2
  | .ret e, XW, c, X, s, C, ok, h => by
    cases s <;> first | (exact absurd h Bool.false_ne_true) | skip
    rename_i v p
    cases v <;> first | (exact absurd h Bool.false_ne_true) | skip
    simp only [chkS] at h
    exact s_ret (mE e _ C.toCond ok h).1
  | .retN, XW, c, X, s, C, ok, h => by
    cases s <;> first | (exact absurd h Bool.false_ne_true) | skip
    rename_i v p
    cases v <;> first | (exact absurd h Bool.false_ne_true) | exact s_retN
  | .asg t e, XW, c, X, s, C, ok, h => by
    cases t with
    | nm i =>
      cases s <;> first | (exact absurd h Bool.false_ne_true) | skip
      rename_i ts v p
      rcases ts with _ | ⟨tg, _ | _⟩ <;> first | (exact absurd h Bool.false_ne_true) | (cases tg <;> first | (exact absurd h Bool.false_ne_true) | skip)
      simp only [chkS, Bool.and_eq_true, Bool.or_eq_true] at h
      obtain ⟨⟨h1, h2⟩, h3⟩ := h
      by_cases h4 : noComp v = true
      · exact s_asg C h1 (mE e _ C.toCond ok h2).1 h4
      · exact s_asgC C h1 ok h2 (h3.resolve_left h4)
    | tp is =>
      cases s <;> first | (exact absurd h Bool.false_ne_true) | skip
      rename_i ts v p
      rcases ts with _ | ⟨tg, _ | _⟩ <;> first | (exact absurd h Bool.false_ne_true) | (cases tg <;> first | (exact absurd h Bool.false_ne_true) | skip)
      simp only [chkS, Bool.and_eq_true] at h
      exact s_tup C h.1.1 (mE e _ C.toCond ok h.1.2).1 h.2
  | .par is es, XW, c, X, s, C, ok, h => by
    cases s <;> first | (exact absurd h Bool.false_ne_true) | skip
    rename_i ts v p
    rcases ts with _ | ⟨tg, _ | _⟩ <;> first | (exact absurd h Bool.false_ne_true) | (cases tg <;> cases v <;> first | (exact absurd h Bool.false_ne_true) | skip)
    simp only [chkS, Bool.and_eq_true, decide_eq_true_eq, Bool.not_eq_true'] at h
    obtain ⟨⟨⟨⟨⟨⟨⟨h1, h2⟩, h3⟩, h4⟩, h5⟩, h6⟩, h7⟩, h8⟩ := h
    exact s_par C h2 (mEs es _ C.toCond ok h2) h3 h4 h5 (names_len (env := X.env) h1).1.symm h6 h7 h8
  | .setI o i v, XW, c, X, s, C, ok, h => by
    cases s <;> first | (exact absurd h Bool.false_ne_true) | skip
    rename_i ts x p
    rcases ts with _ | ⟨tg, _ | _⟩ <;> first | (exact absurd h Bool.false_ne_true) | (cases tg <;> first | (exact absurd h Bool.false_ne_true) | skip)
    simp only [chkS, Bool.and_eq_true] at h
    obtain ⟨⟨⟨h1, h2⟩, h3⟩, h4⟩ := h
    exact s_setI C (mE v _ C.toCond ok.2.2 h1).1 (mE o _ C.toCond ok.1 h2).1 (mE i _ C.toCond ok.2.1 h3).1 h4
  | .stk, XW, c, X, s, C, ok, h => s_stk
  | .setA tab o v, XW, c, X, s, C, ok, h => by
    cases s <;> first | (exact absurd h Bool.false_ne_true) | skip
    rename_i ts x p
    rcases ts with _ | ⟨tg, _ | _⟩ <;> first | (exact absurd h Bool.false_ne_true) | (cases tg <;> first | (exact absurd h Bool.false_ne_true) | skip)
    simp only [chkS, Bool.and_eq_true] at h
    exact s_setA C (mE v _ C.toCond ok.2 h.1.1).1 (mE o _ C.toCond ok.1 h.1.2).1 h.2
  | .aug i o e, XW, c, X, s, C, ok, h => by
    cases s <;> first | (exact absurd h Bool.false_ne_true) | skip
    rename_i tg op v p
    cases tg <;> first | (exact absurd h Bool.false_ne_true) | skip
    simp only [chkS, Bool.and_eq_true, decide_eq_true_eq] at h
    obtain ⟨⟨⟨rfl, h1⟩, h2⟩, h3⟩ := h
    exact s_aug C h2 (mE e _ C.toCond ok h3).1 h1
  | .ite e a b, XW, c, X, s, C, ok, h => by
    cases s <;> first | (exact absurd h Bool.false_ne_true) | skip
    simp only [chkS, Bool.and_eq_true] at h
    exact s_ite (mE e _ C.toCond ok.1 h.1.1).2.1 (mSs a _ C ok.2.1 h.1.2) (mSs b _ C ok.2.2 h.2)
  | .whl n e b, XW, c, X, s, C, ok, h => by
    cases s <;> first | (exact absurd h Bool.false_ne_true) | skip
    rename_i u x y p
    cases y <;> first | (exact absurd h Bool.false_ne_true) | skip
    simp only [chkS, Bool.and_eq_true] at h
    exact s_whl C (mE e _ C.toCond ok.1 h.1).2.1 (mSs b _ C ok.2 h.2)
  | .for t it b, XW, c, X, s, C, ok, h => by
    cases s <;> first | (exact absurd h Bool.false_ne_true) | skip
    rename_i tg i x y p
    cases y <;> first | (exact absurd h Bool.false_ne_true) | skip
    simp only [chkS, Bool.and_eq_true] at h
    obtain ⟨⟨⟨h1, h2⟩, h3⟩, h4⟩ := h
    exact s_for C (mI it i C.toCond ok.1 h1 tg) h2 h3 (mSs b _ C ok.2 h4)
  | .raise k f es, XW, c, X, s, C, ok, h => by
    cases s <;> first | (exact absurd h Bool.false_ne_true) | skip
    rename_i v cs p
    cases v <;> first | (exact absurd h Bool.false_ne_true) | skip
    rename_i v
    cases v <;> first | (exact absurd h Bool.false_ne_true) | skip
    rename_i g as ks p2
    cases g <;> first | (exact absurd h Bool.false_ne_true) | skip
    rcases as with _ | ⟨y, ys⟩ <;> rcases ks with _ | _ <;> cases cs <;> first | (exact absurd h Bool.false_ne_true) | skip
    simp only [chkS, Bool.and_eq_true, decide_eq_true_eq] at h
    obtain ⟨⟨⟨h1, h2⟩, h3⟩, h4⟩ := h
    exact s_raise C ok.1 h1 h2 (mEs es _ C.toCond ok.2 h4) h4
  | .try b hs, XW, c, X, s, C, ok, h => by
    cases s <;> first | (exact absurd h Bool.false_ne_true) | skip
    rename_i body hds el fin p
    cases el <;> cases fin <;> first | (exact absurd h Bool.false_ne_true) | skip
    have hb : chkSs c b body = true → ∀ (W : WX) (pn : List (Addr × Obj)) (xe : Value → Shared → Prop), Takes (X.tr pn xe) W → PassesOwn (model X.prog X.w) X.A X.env xe → PSs (X.tr pn xe) body (tSs T W b) := fun h0 W pn xe tk hp => mSs b _ (C.tr tk hp) ok.1 h0
    have as : ∀ {hs : List Hd} {hds : List ExceptHandler}, (∀ h ∈ hs, U h.k) → chkSs c b body = true → hs ≠ [] → chkHds c hs hds = true → PS X (.Try body hds [] [] p) (tS T XW (.try b hs)) := by
      intro hs hds hU h1 h0 h2
      cases hds with
      | nil =>
        cases hs with
        | nil => exact absurd rfl h0
        | cons _ _ => exact absurd h2 Bool.false_ne_true
      | cons y ys => exact s_tryMany C hU (hb h1) h2
    unfold chkS at h
    rw [Bool.and_eq_true] at h
    obtain ⟨h1, h2⟩ := h
    split at h2
    · simp only [Bool.and_eq_true, decide_eq_true_eq] at h2
      obtain ⟨⟨⟨⟨⟨⟨⟨g1, g2⟩, g3⟩, g4⟩, g5⟩, g6⟩, g7⟩, g8⟩ := h2
      exact s_tryAs C (ok.2 _ List.mem_cons_self) (hb h1) g1 g2 g3 g4 g5 g6 g7 g8
    · exact absurd h2 Bool.false_ne_true
    · rename_i hne _
      exact as ok.2 h1 (fun z => hne z) h2
theorem mSs : ∀ (a : ISs) {XW : WX} {c : Cfg} {X : Cx} (ss : List Stmt), CondS T XW P G R U c X → okSs P G R U a → chkSs c a ss = true → PSs X ss (tSs T XW a)
  | .nil, XW, c, X, ss, C, ok, h => by
    cases ss <;> first | (exact absurd h Bool.false_ne_true) | skip
    refine PSs.imp pss_nil ?_
    rintro D σ H ⟨W, st, σd, sim, rs, q⟩
    simp only [execs] at q
    exact q W σ H (.refl _) sim rs
  | .cons a as, XW, c, X, ss, C, ok, h => by
    cases ss <;> first | (exact absurd h Bool.false_ne_true) | skip
    simp only [chkSs, Bool.and_eq_true] at h
    refine PSs.imp (pss_cons (mS a _ C ok.1 h.1) (mSs as _ C ok.2 h.2)) ?_
    rintro D σ H ⟨W, st, σd, sim, rs, q⟩
    simp only [execs] at q
    refine ⟨W, st, σd, sim, rs, ?_⟩
    have q2 := PstS.seq q
    cases eo : exec T.xm a σd st with
    | nx σ1 st1 =>
      rw [eo] at q2
      intro W' σ' H' le sim' rs'
      obtain ⟨W1, σd1, st2, le1, sim1, rs1, q3⟩ := q2 W' σ' H' le sim' rs'
      exact ⟨W1, st2, σd1, sim1, rs1, q3⟩
    | brk _ _ => rw [eo] at q2; exact q2
    | cnt _ _ => rw [eo] at q2; exact q2
    | ret _ _ => rw [eo] at q2; exact q2
    | raise _ _ _ => rw [eo] at q2; exact q2
    | stuck => rw [eo] at q2; exact q2
end
end
end Ip
set_option Elab.async false
set_option linter.all false
set_option maxRecDepth 100000
set_option maxHeartbeats 1000000
/-! A def by its term. -/
namespace Ip
open PySem PySem.Spec PyProof.Rows L2

/-! ### what a call lets go -/
section
variable {T : Tb}
mutual
/-- every cell that is told lies below n -/
def Lt (n : Nat) : D → Prop
  | .tup xs => Lts n xs
  | .lst xs => Lts n xs
  | .dct ks vs => Lts n ks ∧ Lts n vs
  | .obj _ fs => Lts n fs
  | .ref k => k < n
  | _ => True
def Lts (n : Nat) : List D → Prop
  | [] => True
  | x :: xs => Lt n x ∧ Lts n xs
end
mutual
theorem noRef_lt {n : Nat} : ∀ {d : D}, noRef d = true → Lt n d
  | .non, _ => trivial
  | .bl _, _ => trivial
  | .int _, _ => trivial
  | .str _, _ => trivial
  | .tup xs, h => noRefs_lt (by simpa [noRef] using h)
  | .lst xs, h => noRefs_lt (by simpa [noRef] using h)
  | .dct ks vs, h => by
    simp only [noRef, Bool.and_eq_true] at h
    exact ⟨noRefs_lt h.1, noRefs_lt h.2⟩
  | .obj _ fs, h => noRefs_lt (by simpa [noRef] using h)
  | .cls _, _ => trivial
  | .ref _, h => by simp [noRef] at h
theorem noRefs_lt {n : Nat} : ∀ {ds : List D}, noRefs ds = true → Lts n ds
  | [], _ => trivial
  | x :: xs, h => by
    simp only [noRefs, Bool.and_eq_true] at h
    exact ⟨noRef_lt h.1, noRefs_lt h.2⟩
end
mutual
theorem Rep.lt {W : Wd} : ∀ {d : D} {v : V}, Rep T W d v → Lt W.φ.length d
  | _, _, .non => trivial
  | _, _, .bl _ => trivial
  | _, _, .int _ => trivial
  | _, _, .str _ => trivial
  | _, _, .tup _ r => RepA.lt r
  | _, _, .lst _ r => RepA.lt r
  | _, _, .ref h => (List.getElem?_eq_some_iff.mp h).1
  | _, _, .cls _ => trivial
  | _, _, .dct0 _ => ⟨trivial, trivial⟩
  | _, _, .obj _ _ _ _ r => RepA.lt r
theorem RepA.lt {W : Wd} : ∀ {ds : List D} {vs : List V}, RepA T W ds vs → Lts W.φ.length ds
  | _, _, .nil => trivial
  | _, _, .cons h r => ⟨Rep.lt h, RepA.lt r⟩
end
mutual
/-- a value that tells cells of W alone, back in W -/
theorem Rep.back {W W' : Wd} (sub : W.Sub W') {h : List (Addr × HO)} : ∀ {d : D} {v : V}, Rep T W' d v → Lt W.φ.length d → Rep T ⟨W'.F, W.φ, h⟩ d v
  | _, _, .non, _ => .non
  | _, _, .bl b, _ => .bl b
  | _, _, .int i, _ => .int i
  | _, _, .str x, _ => .str x
  | _, _, .tup q r, l => .tup q (RepA.back sub r l)
  | _, _, .lst q r, l => .lst q (RepA.back sub r l)
  | _, _, .ref (n := n) (p := p) q, l => .ref (by
    obtain ⟨_, r, e⟩ := sub
    rw [e, List.getElem?_append_left l] at q
    exact q)
  | _, _, .cls c, _ => .cls c
  | _, _, .dct0 q, _ => .dct0 q
  | _, _, .obj h1 h2 h3 h4 r, l => .obj h1 h2 h3 h4 (RepA.back sub r l)
theorem RepA.back {W W' : Wd} (sub : W.Sub W') {h : List (Addr × HO)} : ∀ {ds : List D} {vs : List V}, RepA T W' ds vs → Lts W.φ.length ds → RepA T ⟨W'.F, W.φ, h⟩ ds vs
  | _, _, .nil, _ => .nil
  | _, _, .cons q r, l => .cons (Rep.back sub q l.1) (RepA.back sub r l.2)
end
def LtC (n : Nat) : Cell → Prop
  | .lst ds => Lts n ds
  | .ins _ fs => ∀ (i : Nat) d, fs[i]? = some (some d) → Lt n d
  | _ => True
theorem keepB_lt {W : Wd} : ∀ {st st' : Store} {H : Hp}, keepB st st' = true → (∀ (i : Nat) c, st[i]? = some c → LtC W.φ.length c) → st.length ≤ st'.length ∧ ∀ (i : Nat) c, i < st.length → st'[i]? = some c → LtC W.φ.length c
  | [], _, _, _, _ => ⟨Nat.zero_le _, fun i c h => absurd h (Nat.not_lt_zero i)⟩
  | c :: cs, [], _, h, _ => by simp [keepB] at h
  | c :: cs, d :: ds, H, h, k => by
    simp only [keepB, Bool.and_eq_true, Bool.or_eq_true] at h
    obtain ⟨h1, h2⟩ := keepB_lt (H := H) h.2 (fun i c' e => k (i + 1) c' (by simpa using e))
    refine ⟨by simp; exact h1, fun i c' hi e => ?_⟩
    cases i with
    | zero =>
      simp at e
      subst e
      rcases h.1 with h0 | h0
      · rw [← sameC_eq h0]; exact k 0 c (by simp)
      · cases d with
        | lst xs => exact noRefs_lt h0
        | ins k fs =>
          intro j e he
          have hm := List.all_eq_true.mp h0 _ (List.mem_of_getElem? he)
          exact noRef_lt hm
        | _ => trivial
    | succ i => exact h2 i c' (by simpa using hi) (by simpa using e)
/-- the store behind a call: the world falls back to the caller's cells -/
theorem Sim.close {W W' : Wd} {st st' : Store} {H H' : Hp} (s : Sim T W st H) (le : W.le W') (s' : Sim T W' st' H') : ∃ W2, W.le W2 ∧ Sim T W2 (closeSt st st') H' ∧ (∀ {d : D} {v : V}, noRef d = true → Rep T W' d v → Rep T W2 d v) ∧ W2.F = W'.F := by
  unfold closeSt
  split
  · rename_i hk
    have cells : ∀ (i : Nat) c, st[i]? = some c → LtC W.φ.length c := fun i c e => by
      obtain ⟨p, hp⟩ : ∃ p, W.φ[i]? = some p := by
        have : i < W.φ.length := by rw [s.len]; exact (List.getElem?_eq_some_iff.mp e).1
        exact ⟨_, List.getElem?_eq_getElem this⟩
      have := s.cell i c p e hp
      cases c with
      | lst ds => obtain ⟨xs, _, r, _⟩ := this; exact r.lt
      | ins k fs =>
        obtain ⟨vs, _, _, _, hf⟩ := this
        intro j e he
        obtain ⟨v, _, r⟩ := hf j e he
        exact r.lt
      | _ => trivial
    obtain ⟨hl, hc⟩ := keepB_lt (W := W) (H := H) hk cells
    obtain ⟨r, hr⟩ := le.1.2
    have old : ∀ {i : Nat} {c : Cell} {p : Addr × Addr}, (st'.take st.length)[i]? = some c → W.φ[i]? = some p → i < st.length ∧ st'[i]? = some c ∧ W'.φ[i]? = some p := fun {i c p} h1 h2 => by
      have hi : i < st.length := by rw [← s.len]; exact (List.getElem?_eq_some_iff.mp h2).1
      rw [List.getElem?_take_of_lt hi] at h1
      exact ⟨hi, h1, le.1.at h2⟩
    refine ⟨⟨W'.F, W.φ, W'.h⟩, ⟨⟨le.1.1, [], by simp⟩, le.2⟩, ⟨s'.sub, ?_, fun i c p h1 h2 => ?_, fun i c p h1 h2 h3 => ?_, fun q hq => ⟨(s'.held q hq).1, (s'.held q hq).2.1, fun i c p h1 h2 h3 => ?_⟩, s'.hnd, fun i j c d p q hij h1 h2 h3 h4 h5 h6 => ?_⟩, fun h r => r.back le.1 (noRef_lt h), rfl⟩
    · rw [List.length_take, Nat.min_eq_left hl]; exact s.len
    · obtain ⟨hi, g1, g2⟩ := old h1 h2
      have cr := s'.cell i c p g1 g2
      have hlt := hc i c hi g1
      cases c with
      | dead => trivial
      | lst ds => obtain ⟨xs, a1, a2, a3⟩ := cr; exact ⟨xs, a1, a2.back le.1 hlt, a3⟩
      | dct _ _ => exact cr
      | ins k fs =>
        obtain ⟨vs, a1, a2, a3, a4⟩ := cr
        refine ⟨vs, a1, a2, a3, fun j e he => ?_⟩
        obtain ⟨v, b1, b2⟩ := a4 j e he
        exact ⟨v, b1, b2.back le.1 (hlt j e he)⟩
    · obtain ⟨_, g1, g2⟩ := old h1 h2
      exact s'.own i c p g1 g2 h3
    · obtain ⟨_, g1, g2⟩ := old h1 h2
      exact (s'.held q hq).2.2 i c p g1 g2 h3
    · obtain ⟨_, g1, g2⟩ := old h1 h5
      obtain ⟨_, g3, g4⟩ := old h2 h6
      exact s'.sep i j c d p q hij g1 g3 h3 h4 g2 g4
  · exact ⟨W', le, s', fun _ r => r, rfl⟩
theorem noRefs_one {d : D} (h : noRefs [d] = true) : noRef d = true := by simpa [noRefs] using h
end

/-! ### a def -/
/-- what holds around every body of the written part -/
structure Glob (T : Tb) (Pg : Program) (w : World) (K : PySem.W.Frag) (mg : Str → Option Value) (base : Heap) (G : Nat → D → Prop) (U : Nat → Prop) (c : Cfg) : Prop where
  hK : T.K = K
  bl : ∀ b : Blt, c.bk b = true → if b = .gcd then mg b.nm = some b.val else mg b.nm = none
  isi : c.ik = true → mg "isinstance" = none
  ty : ∀ t : Ty, c.tk t = true → mg t.nm = none
  rg : c.rk = true → mg "range" = none
  gl : ∀ i d, G i d → ∃ u v, mg (c.gl i) = some u ∧ RelV v u ∧ ∀ W, Rep T W d v
  cl : c.nc ≤ T.nc ∧ (∀ k, k < c.nc → T.sl k = c.sl k) ∧ ∀ k, k < c.nc → mg (c.cn k) = some (.ref (T.ca k))
  hn : ∀ k, U k → mg (c.hn k) = some (T.hc k) ∨ (mg (c.hn k) = none ∧ bootBuiltins (c.hn k) = some (T.hc k) ∧ c.hn k ≠ "__name__")
  xm : ∀ x k, U k → PySem.W.exmOne K (T.xa x) (T.hc k) = some (T.xm x k)
  xf : ∀ x k, U k → T.xm x k = true → c.hf k ≠ "" → ∃ C, T.xa x = .ref C ∧ T.xf x = c.hf k ∧ XfC K C ∧ PySem.W.findIn K (.ref C) (c.hf k) = some none
/-- a def that may be called k frames deep -/
def FnAt (T : Tb) (Pg : Program) (w : World) (K : PySem.W.Frag) (mg : Str → Option Value) (base : Heap) (kd : FK) (nm : Str) (k : Nat) (dv : List D) (sm : Fn) : Prop :=
  ∃ (j : Nat) (f : Addr) (fd : FuncData) (ps : List Str) (ds : List Value) (dvs : List V), j + 2 ≤ k ∧ FnG Pg w K mg base j f fd ps (spOf T sm) ∧ AtK K T.ca mg nm f kd ∧ Binds K fd ps ds ∧ Vals dvs ds ∧ ∀ W, RepA T W dv dvs
theorem FnAt.mono {T : Tb} {Pg : Program} {w : World} {K : PySem.W.Frag} {mg : Str → Option Value} {base : Heap} {kd : FK} {nm : Str} {j k : Nat} {dv : List D} {sm : Fn} (h : FnAt T Pg w K mg base kd nm j dv sm) (le : j ≤ k) : FnAt T Pg w K mg base kd nm k dv sm := by
  obtain ⟨i, f, fd, ps, ds, dvs, hi, r⟩ := h
  exact ⟨i, f, fd, ps, ds, dvs, by omega, r⟩
/-- an exception class that may be called -/
def MkAt (T : Tb) (Pg : Program) (w : World) (K : PySem.W.Frag) (mg : Str → Option Value) (base : Heap) (nm : Str) (k : Nat) (mk : MkF) : Prop :=
  ∀ X : Cx, X.prog = Pg → X.w = w → X.K = K → X.mg = mg → X.base = base → X.calm = true → X.A.guards = some [] → Room k X.A → MkOk T nm X mk
theorem MkAt.mono {T : Tb} {Pg : Program} {w : World} {K : PySem.W.Frag} {mg : Str → Option Value} {base : Heap} {nm : Str} {j k : Nat} {mk : MkF} (h : MkAt T Pg w K mg base nm j mk) (le : j ≤ k) : MkAt T Pg w K mg base nm k mk :=
  fun X e1 e2 e3 e4 e5 hc hg hr => h X e1 e2 e3 e4 e5 hc hg (hr.mono le)
theorem repS_start {T : Tb} {W : Wd} {ds : List D} {vs : List V} {N : List Str} {np : Nat} (r : RepA T W ds vs) (hl : ds.length = np) : RepS T W (L2.start N vs) (ds.map some ++ List.replicate (N.length - np) none) := by
  have hv := r.length
  refine ⟨?_, fun i d e => ?_⟩
  · unfold L2.start
    simp only [List.length_append, List.length_map, List.length_replicate]
    omega
  · by_cases hi : i < ds.length
    · rw [List.getElem?_append_left (by simpa using hi), List.getElem?_map] at e
      obtain ⟨d0, e0, e1⟩ := Option.map_eq_some_iff.mp e
      cases e1
      obtain ⟨v, hv2, rv⟩ := r.get e0
      refine ⟨v, ?_, rv⟩
      unfold L2.start
      rw [List.getElem?_append_left (by simp; omega), List.getElem?_map, hv2]
      rfl
    · rw [List.getElem?_append_right (by simpa using hi)] at e
      rw [List.getElem?_replicate] at e
      split at e <;> cases e
section
variable {T : Tb} {Pg : Program} {w : World} {K : PySem.W.Frag} {mg : Str → Option Value} {base : Heap} {G : Nat → D → Prop} {U : Nat → Prop} {c : Cfg} {k : Nat} {P : Nat → List D → Fn → Prop} {R : Nat → MkF → Prop}
theorem fn_by {f : Addr} {name qual : Str} {params : Arguments} {stmts : List Stmt} {scope : Scope} {dV kV doc pm cdv ct oc : Value} {an od : Option Addr} {osl : Array (Option Value)} {N ps : List Str} {body : ISs}
    (Gl0 : Glob T Pg w K mg base G U c) (hsc : c.sc = scope) (hwr : c.wr = scope) (hN : c.N = N) (fns : ∀ i dv sm, P i dv sm → FnAt T Pg w K mg base (c.kd i) (c.fn i) k dv sm) (mks : ∀ x mk, R x mk → MkAt T Pg w K mg base (c.xn x) k mk)
    (lk : K.lookup f = some ⟨oc, od, .func (PySem.W.fnOf name qual params stmts scope dV kV doc pm an cdv ct), osl⟩) (hcd : PySem.W.codeIn K cdv qual = true) (S : FnScope N ps scope)
    (ok : okSs P G R U body) (h : chkSs c body stmts = true) :
    FnG Pg w K mg base (k + 1) f (PySem.W.fnOf name qual params stmts scope dV kV doc pm an cdv ct) ps (spOf T (callD T.xm ps.length (N.length - ps.length) body)) := by
  refine fn_ofG lk hcd S (fun vs H Q E hq => ?_) fun A out s H vs Q E hr hg hq => ?_
  · obtain ⟨W, st, ds, sim, ra, hq⟩ := hq
    rw [← ra.length]
    unfold callD at hq
    split at hq
    · assumption
    · exact hq.elim
  · obtain ⟨W, st, ds, sim, ra, hq⟩ := hq
    refine ⟨tSs T (fun cls dd _ H => E cls dd H) body, mSs (P := P) (G := G) (R := R) (U := U) (c := c) body stmts ?_ ok h, ?_⟩
    · refine { toCond := { hK := Gl0.hK, sc := hsc.symm, N := hN.symm, nd := S.nd, calm := rfl, gd := hg, room := hr.mono (Nat.zero_le _), tk := takes_of rfl rfl rfl rfl, wr := ?_, bl := Gl0.bl, isi := Gl0.isi, ty := Gl0.ty, rg := Gl0.rg, fn := ?_, gl := Gl0.gl, cl := Gl0.cl }, pw := passes_of rfl, hs := rfl, hf := rfl, kd := S.kind, mkx := ?_, hn := Gl0.hn, xm := Gl0.xm, xf := Gl0.xf }
      · intro x hx
        rw [hwr] at hx
        exact ⟨locB.loc hx, .inl rfl⟩
      · intro i dv sm hp
        obtain ⟨j', f', fd', ps', ds', dvs', a0, a1, a2, a4, a5, a6⟩ := fns i dv sm hp
        exact ⟨⟨j', f', fd', ps', ds', dvs', a1, a2, a4, a5, a6, hr.mono a0⟩⟩
      · intro x mk hx pn xe
        exact mks x mk hx _ rfl rfl rfl rfl rfl rfl hg hr
    · unfold callD at hq
      split at hq
      case isFalse => exact hq.elim
      rename_i hl
      refine ⟨W, st, _, sim, repS_start ra hl, ?_⟩
      cases eo : execs T.xm body (ds.map some ++ List.replicate (N.length - ps.length) none) st with
      | nx σ1 st1 =>
        rw [eo] at hq
        intro W' σ' H' le sim' rs'
        obtain ⟨W2, le2, sim2, _, _⟩ := sim.close le sim'
        exact hq .non W2 H' le2 sim2 .non
      | ret d st1 =>
        rw [eo] at hq
        intro W' v H' le sim' r
        replace hq : Pst T (fun cls dd _ H => E cls dd H) [] W (Rep T) (if noRef d = true then .ok d (closeSt st st1) else .ok d st1) Q := hq
        split at hq
        · rename_i hn
          obtain ⟨W2, le2, sim2, back, _⟩ := sim.close le sim'
          exact hq v W2 H' le2 sim2 (back hn r)
        · exact hq v W' H' le sim' r
      | raise x σ1 st1 =>
        rw [eo] at hq
        intro W' σ' H' cls dd le sim' rs' rx
        replace hq : Pst T (fun cls dd _ H => E cls dd H) [] W (Rep T) (if noRefs x.vs = true then .raise x (closeSt st st1) else .raise x st1) Q := hq
        split at hq
        · rename_i hn
          obtain ⟨W2, le2, sim2, back, hF⟩ := sim.close le sim'
          refine hq cls dd W2 H' le2 sim2 ⟨rx.1, ?_⟩
          have r2 := rx.2
          split at r2
          · trivial
          · rename_i d hvs
            obtain ⟨a, v, q1, q2, q3⟩ := r2
            rw [hvs] at hn
            exact ⟨a, v, q1, by rw [hF]; exact q2, back (noRefs_one hn) q3⟩
          · exact r2.elim
        · exact hq cls dd W' H' le sim' rx
      | brk _ _ => rw [eo] at hq; exact hq.elim
      | cnt _ _ => rw [eo] at hq; exact hq.elim
      | stuck => rw [eo] at hq; exact hq.elim
end
end Ip
set_option Elab.async false
set_option linter.all false
set_option maxRecDepth 100000
set_option maxHeartbeats 1000000
/-! An own exception class whose __init__ says super().__init__(x); self.f = p: how it is made. -/
namespace Ip
open PySem PySem.Spec PyProof.Rows

/-- the text of such an __init__ -/
def XBody (env : Addr → Env) (body : List Stmt) (slf par fld : Str) (a : Expr) : Prop :=
  ∃ (p1 p2 p3 p4 p5 p6 p7 p8 p9 : Pos), body = [.Expr (.Call (.Attribute (.Call (.Name "super" p1) [] [] p2) "__init__" p3) [a] [] p4) p5, .Assign [.Attribute (.Name slf p6) fld p7] (.Name par p8) p9] ∧
    ∀ L, ∃ pl : PySem.Sem Bool, PySem.eval (.Call (.Attribute (.Call (.Name "super" p1) [] [] p2) "__init__" p3) [a] [] p4) (env L) = (do
      let o ← attributeBase (.Call (.Name "super" p1) [] [] p2) "__init__" (env L) (PySem.eval (.Call (.Name "super" p1) [] [] p2) (env L))
      standAt p3.atName
      let (f, first) ← holding [o] (getMethod o "__init__" pl)
      callWith p4 f first (backTo p4 (starEach [a] (env L))) [])
/-- what such a class is, in the written part -/
structure XCls (pg : Program) (K : PySem.W.Frag) (C : Addr) (B initId newId : String) (bmB : List Value) (fI cda cc : Addr) (qual slf par fld : Str) (scope : Scope) (body : List Stmt) (a : Expr) : Prop where
  FB : ExcBaseFacts B newId initId bmB
  KF : PySem.W.KxsFacts B initId
  SF : StoreFacts B bmB "object.__setattr__" "object"
  q : PySem.W.excInitIn K C bmB newId = true
  init : PySem.W.findIn K (.ref C) "__init__" = some (some (.ref fI))
  fn : ∃ (oc : Value) (od : Option Addr) (name : Str) (params : Arguments) (dV kV doc pm ct : Value) (an : Option Addr) (osl : Array (Option Value)) (ar : Arg),
    K.lookup fI = some ⟨oc, od, .func (PySem.W.ksFn name qual params body scope dV kV doc pm an (.ref cda) ct cc), osl⟩ ∧ oc = .type "function" ∧ (params.posonlyargs ++ params.args).head? = some ar ∧ ar.arg = slf ∧
      ∀ (s : Shared) (x y : Value), BindsTo s (PySem.W.ksFn name qual params body scope dV kV doc pm an (.ref cda) ct cc) ⟨[x, y], []⟩ [(slf, x), (par, y)]
  code : PySem.W.codeIn K (.ref cda) qual = true
  file : ∃ (oc : Value) (od : Option Addr) (vs : Array Value) (sl : Array (Option Value)) (fl : Str) (tk : Tok), K.lookup cda = some ⟨oc, od, .fields vs, sl⟩ ∧ vs[2]? = some (.str fl tk) ∧ ((pg.main.file : Str) == fl) = true
  cell : ∃ (oc : Value) (od : Option Addr) (sl : Array (Option Value)), K.lookup cc = some ⟨oc, od, .cell (some (.ref C)), sl⟩
  cls : ∃ cd, PySem.W.clsIn K C = some cd
  mro : PySem.W.mroIn K C (.ref C) = some true
  sup : PySem.W.ks_superIn K C C "__init__" = some (some (.builtin initId))
  sub : PySem.W.subIn K (.ref C) (.type B) = some true
  third : PySem.W.nsIn K cStatics "thirdparty.any" = some none
  sa : PySem.W.findIn K (.ref C) "__setattr__" = some (some (.builtin "object.__setattr__"))
  over : PySem.W.excOver K C bmB = true
  taker : PySem.W.takerIn K C fld = some none
  hd : PySem.W.hasDictIn K C = true
  exC : PySem.W.subIn K (.ref C) (.type "BaseException") = some true
  tyC : PySem.W.typeIn K (.ref C) = some (.type "type")
  kC : PySem.W.keepIn K (.ref C) = true
  top : (pg.main.scope.names.lookup ("super" : Str)).isSome = false
  txt : XBody (fun L => PySem.W.ksEnv qual scope L fI (.ref cda) cc) body slf par fld a
  ks : scope.names.lookup ("super" : Str) = some .globalImplicit
  kc : scope.names.lookup ("__class__" : Str) = some .free
  kslf : scope.names.lookup slf = some .local
  kpar : scope.names.lookup par = some .local
  hne : slf ≠ par
  dslf : (slf == ("__debug__" : Str)) = false
  dpar : (par == ("__debug__" : Str)) = false
  nocell : ∀ x ∈ scope.names, x.2 ≠ .cell
  kind : scope.kind = .function
  co : scope.isCoroutine = false
  gen : scope.isGenerator = false

theorem ne_big {h : Heap} {b : Addr} {o : Obj} (z : h.get? b = some o) (n : Nat) : b ≠ h.objs.size + n := fun e => by
  have q := Heap.lt_size z
  rw [e] at q
  exact absurd q (Nat.not_lt.mpr (Nat.le_add_right _ _))
theorem objOk_some {P : Program} {w : World} {H : L2.Hp} {h : Heap} {a : Addr} {o : L2.HO} (x : L2.ObjOk P w H h a o) : ∃ u, h.get? a = some u := by
  cases o with
  | lst xs => obtain ⟨_, _, _, _, e⟩ := x; exact ⟨_, e⟩
  | tup xs =>
    obtain ⟨_, _, _, p⟩ := x
    obtain ⟨o, e, _⟩ := p
    exact ⟨o, e⟩
  | dK kvs => obtain ⟨_, _, _, _, o, _, _, e, _⟩ := x; exact ⟨_, e⟩
  | dT kvs => obtain ⟨_, _, _, _, o, _, _, e, _⟩ := x; exact ⟨_, e⟩
  | set S n => obtain ⟨o, _, _, _, e, _⟩ := x; exact ⟨_, e⟩
  | ins C dx fs => obtain ⟨_, _, _, e, _⟩ := x; exact ⟨_, e⟩
  | own y => obtain ⟨_, e⟩ := x; exact ⟨_, e⟩
  | xd fs => obtain ⟨_, ⟨_, _, _, e, _⟩, _⟩ := x; exact ⟨_, e⟩
  | rng lo hi => obtain ⟨_, _, _, e⟩ := x; exact ⟨_, e⟩
  | frz ob u => obtain ⟨e, _⟩ := x; exact ⟨_, e⟩
  | tbl ps => exact ⟨_, (show h.get? a = some _ from x)⟩
  | met f y => exact ⟨_, (show h.get? a = some _ from x)⟩
  | ext φ => obtain ⟨_, ⟨_, e⟩, _⟩ := x; exact ⟨_, e⟩
theorem ns1_one {h : Heap} {d : Addr} {o : Obj} {name : Str} {hs : Int} {tk : Tok} {v : Value} {n : Nat} (ho : h.get? d = some o) (hd : o.data = .dict #[⟨hs, .str name tk, v⟩] n) : h.Ns1 d (fun y => if y = name then some v else none) := by
  refine ⟨o, _, _, ho, hd, fun e he => ?_, ?_, fun y => ?_⟩
  · have : e = ⟨hs, .str name tk, v⟩ := by simpa using he
    subst this
    exact ⟨name, tk, rfl⟩
  · unfold UniqKeys
    simp
  · unfold nsFind findBy
    by_cases hy : y = name
    · subst hy
      simp [Value.isStr]
    · have : ¬ name = y := fun z => hy z.symm
      simp [Value.isStr, hy, this]
section
variable {pg : Program} {wd : World} {A : Around} {E : Value → Shared → Prop} {s : Shared} {h₀ : Heap} {L : Addr} {m mg : Str → Option Value} {K : PySem.W.Frag} {C : Addr} {B initId newId : String} {bmB : List Value} {fI cda cc : Addr} {qual slf par fld : Str} {scope : Scope} {body : List Stmt} {a : Expr} {e t0 : Addr} {u : Value}
/-- the walk of the body, by the ledger; Φ: where the argument's text is done -/
theorem xc_body (X : XCls pg K C B initId newId bmB fI cda cc qual slf par fld scope body a) (F : Fr h₀ L s.heap m) (X₀ : K.In h₀) (he : s.heap.get? e = some (PySem.W.excObj C t0 none .none)) (heL : e ≠ L) (he0 : h₀.get? e = none) (hm1 : m slf = some (.ref e)) (hm2 : m par = some u)
    (hg : h₀.Ns mainGlobals mg) (hsup : mg "super" = none) (hb : ∃ mb, h₀.Ns builtinsNs mb ∧ ∀ x : Str, x ≠ "__name__" → mb x = bootBuiltins x) (Φ : Shared → Prop)
    (hA : ∀ (pos : Pos) (s1 : Shared) (Q : List Value → Shared → Prop), s1.os = s.os → s1.gens = s.gens → s1.heap.Ns L m → (∀ b o, b ≠ L → s.heap.get? b = some o → s1.heap.get? b = some o) →
      (∀ v s3, Φ s3 → s3.heap.Ns L m → (∀ b o, (s.heap.objs.size ≤ b ∨ b = e) → b ≠ L → s1.heap.get? b = some o → s3.heap.get? b = some o) → (∀ b o, h₀.get? b = some o → s3.heap.get? b = some o) → Q [v] s3) →
      wpAny (model pg wd) A (spliced (backTo pos (starEach [a] (PySem.W.ksEnv qual scope L fI (.ref cda) cc)))) Q E s1)
    (hst : noStar a = true) :
    PySem.wpAt (model pg wd) A (.func body (PySem.W.ksEnv qual scope L fI (.ref cda) cc)) (PySem.execs body (PySem.W.ksEnv qual scope L fI (.ref cda) cc)) (fun fl s' => fl = .next ∧ ∃ (s3 : Shared) (h' : Heap) (tk : Nat) (dx t1 : Addr) (hs : Int) (t2 : Tok), Φ s3 ∧ s' = { s3 with heap := h', toks := tk } ∧
      (∀ b o, b ≠ L → b ≠ e → s3.heap.get? b = some o → h'.get? b = some o) ∧ h'.get? e = some (PySem.W.excObj C t1 (some dx) .none) ∧ h'.get? dx = some (PySem.W.dictOf [⟨hs, .str fld t2, u⟩] 1) ∧ s3.heap.get? dx = none ∧ e < dx ∧ dx ≠ L) E s := by
  obtain ⟨p1, p2, p3, p4, p5, p6, p7, p8, p9, hbody, hmeth⟩ := X.txt
  obtain ⟨pl, hmeth⟩ := hmeth L
  obtain ⟨oc, od, name, params, dV, kV, doc, pm, ct, an, osl, ar, lk, hoc, har, hars, hbind⟩ := X.fn
  subst hbody
  subst hars
  have N := L2.news_at heL he0 he
  have hk : (PySem.W.ksEnv qual scope L fI (.ref cda) cc).scope.kind = .function := X.kind
  have hint : interactive (PySem.W.ksEnv qual scope L fI (.ref cda) cc) = false := by unfold interactive; rw [hk]; rfl
  have hstar : starEach [a] (PySem.W.ksEnv qual scope L fI (.ref cda) cc) = (false, PySem.eval a (PySem.W.ksEnv qual scope L fI (.ref cda) cc)) :: starEach [] (PySem.W.ksEnv qual scope L fI (.ref cda) cc) := star_cons hst
  obtain ⟨fc, fo, vs, fsl, fl, ftk, hfk, hfv, hff⟩ := X.file
  obtain ⟨clc, cld, clsl, hcell⟩ := X.cell
  obtain ⟨cdC, hcd⟩ := X.cls
  -- super()
  refine PySem.ks_wpAt_execs_cons (PySem.ks_wpAt_Expr_any (PySem.ks_wpAt_MethodCall (pl := pl) ?_ hmeth) hint rfl)
  have XK : K.In s.heap := X₀.keeps F.keep
  have Ie : PySem.W.InstAt s.heap e (PySem.W.excObj C t0 none .none) C none := ⟨he, rfl, rfl, trivial⟩
  obtain ⟨hh, g, dr, tk, os⟩ := s
  obtain ⟨oD, hD1, hD2⟩ : ∃ oD, hh.get? C = some oD ∧ oD.data = .cls cdC := by
    unfold PySem.W.clsIn at hcd
    split at hcd
    · rename_i ho
      cases hcd
      exact ⟨_, XK _ _ ho, rfl⟩
    · cases hcd
  obtain ⟨mb, hb1, hb2⟩ := hb
  refine PySem.ks_wpAt_super_base (env := PySem.W.ksEnv qual scope L fI (.ref cda) cc) X.ks X.kc rfl rfl (XK _ _ lk) rfl har rfl (XK _ _ hfk) rfl hfv hff X.top ?_
  refine PySem.W.ks_loadName_global hk X.ks (Calls.loadGlobal_builtin (hg.keeps F.keep) hsup (hb1.keeps F.keep) ((hb2 _ (by decide)).trans (by decide +kernel)) ⟨rfl, ?_⟩)
  refine wpAny_loadName_free hk X.kc rfl ⟨_, XK _ _ hcell, rfl⟩ ?_
  refine wpAny_loadName_local hk X.kslf F.ns hm1 ?_
  refine PySem.ks_wpAny_isType_cls hD1 hD2 ⟨rfl, ?_⟩
  refine PySem.ks_wpAny_call_super hD1 hD2 Ie.at_ Ie.cls (fun c z => by cases z) (PySem.W.looks_mroIn XK X.mro) (fun h1 e1 k1 => ?_)
  obtain ⟨F1, N1, l1⟩ := PySem.W.ks_newsPush (s := ⟨hh, g, dr, tk, os⟩) F N rfl e1 k1
  have ne1 : hh.objs.size ≠ e := fun z => absurd (l1 (e, _) List.mem_cons_self) (by rw [z]; exact Nat.lt_irrefl _)
  have I1 : PySem.W.InstAt h1 e (PySem.W.excObj C t0 none .none) C none := ⟨k1 _ _ Ie.at_, rfl, rfl, trivial⟩
  -- .__init__
  refine PySem.W.kxs_method (s := ⟨h1, g, dr, tk, os⟩) X.KF F1 X₀ N1 List.mem_cons_self I1 X.third X.sup X.sub rfl (fun w h2 F2 N2 l2 => ?_)
  have lwe : e < w := l2 (e, PySem.W.excObj C t0 none .none) (List.mem_cons_of_mem _ List.mem_cons_self)
  have lws : hh.objs.size < w := l2 (hh.objs.size, PySem.W.ks_superObj C e C) List.mem_cons_self
  have ext2 : ∀ b o, b ≠ L → hh.get? b = some o → h2.get? b = some o := fun b o hb z => by
    by_cases hbe : b = e
    · rw [hbe] at z ⊢
      rw [he] at z
      cases z
      exact (N2 (e, PySem.W.excObj C t0 none .none) (by simp)).1
    · exact L2.kept_of_news F.keep F2 (fun p hp => N2 p (List.mem_cons_of_mem _ (List.mem_cons_of_mem _ (List.mem_cons_of_mem _ hp)))) b o hb hbe z
  refine PySem.W.kxs_callWith1 N2 List.mem_cons_self (hA p4 _ _ rfl rfl F2.ns ext2 fun v s3 hΦ ns3 k3 kb3 => ?_) hstar rfl
  obtain ⟨h3, g3, dr3, tk3, os3⟩ := s3
  have F3 : Fr h₀ L h3 m := ⟨ns3, kb3, F2.above⟩
  have q1 : h3.get? w = some (PySem.W.kxs_mw initId e) := k3 w _ (.inl (Nat.le_of_lt lws)) (N2 (w, PySem.W.kxs_mw initId e) (by simp)).2.1 (N2 (w, PySem.W.kxs_mw initId e) (by simp)).1
  have q2 : h3.get? hh.objs.size = some (PySem.W.ks_superObj C e C) := k3 _ _ (.inl (Nat.le_refl _)) (N2 (hh.objs.size, PySem.W.ks_superObj C e C) (by simp)).2.1 (N2 (hh.objs.size, PySem.W.ks_superObj C e C) (by simp)).1
  have q3 : h3.get? e = some (PySem.W.excObj C t0 none .none) := k3 _ _ (.inr rfl) heL (N2 (e, PySem.W.excObj C t0 none .none) (by simp)).1
  have N3 : News h₀ L h3 ((w, PySem.W.kxs_mw initId e) :: (hh.objs.size, PySem.W.ks_superObj C e C) :: (e, PySem.W.excObj C t0 none .none) :: L2.rest h₀ h3 L e) := fun p hp => by
    rcases List.mem_cons.mp hp with rfl | hp
    · exact ⟨q1, (N2 (w, PySem.W.kxs_mw initId e) (by simp)).2⟩
    rcases List.mem_cons.mp hp with rfl | hp
    · exact ⟨q2, (N2 (hh.objs.size, PySem.W.ks_superObj C e C) (by simp)).2⟩
    exact L2.news_at heL he0 q3 p hp
  refine ⟨q1, ?_⟩
  refine PySem.W.kxs_call (s := ⟨h3, g3, dr3, tk3, os3⟩) F3 X₀ N3 X.FB X.q List.mem_cons_self (.tail (Nat.ne_of_gt lwe) (.tail ne1 (.head L2.rest_ne))) (by show 1 ≤ sizeLine; rw [sizeLine_eq]; omega) (fun t4 h4 F4 N4 l4 => ?_)
  -- self.f = p
  refine PySem.ks_wpAt_execs_cons (PySem.ks_wpAt_Assign_Attr (wpAt_of_wpAny (wpAny_Name (wpAny_loadName_local hk X.kpar F4.ns hm2 (wpAny_Name (wpAny_loadName_local hk X.kslf F4.ns hm1 ?_) X.dslf)) X.dpar)) rfl)
  have ne4 : t4 ≠ e := fun z => absurd (l4 (e, PySem.W.excObj C t0 none .none) (by simp)) (by rw [z]; exact Nat.lt_irrefl _)
  refine PySem.W.set_exc0 (s := ⟨h4, g3, dr3, tk3, os3⟩) X.SF F4 X₀ N4 (by simp) X.sa X.over X.taker X.hd rfl (.tail ne4 (.tail (Nat.ne_of_gt lwe) (.tail ne1 (.head L2.rest_ne)))) (by show 1 ≤ 1000; decide) (fun dx h5 F5 N5 l5 => ?_)
  have hdL := (N5 _ List.mem_cons_self).2.1
  have hde : e < dx := l5 (e, PySem.W.excObj C t4 none .none) (by simp)
  have kept5 : ∀ b o, b ≠ L → b ≠ e → h3.get? b = some o → h5.get? b = some o := L2.kept_of_news kb3 F5 fun p hp => N5 p (by simp [hp])
  have hd3 : h3.get? dx = none := by
    cases z : h3.get? dx with
    | none => rfl
    | some o =>
      exact absurd (l5 (dx, o) (by simp [L2.mem_rest hdL (N5 _ List.mem_cons_self).2.2 z (Nat.ne_of_gt hde)])) (Nat.lt_irrefl _)
  exact wpAt_of_wpAny (wpAny_execs_nil ⟨rfl, ⟨h3, g3, dr3, tk3, os3⟩, h5, _, dx, t4, PyData.keyHash wd.params fld, _, hΦ, rfl, kept5, (N5 (e, PySem.W.excObj C t4 (some dx) .none) (by simp)).1, (N5 _ List.mem_cons_self).1, hd3, hde, hdL⟩)
end
section
variable {K : PySem.W.Frag} {C : Addr} {B initId newId : String} {bmB : List Value} {fI cda cc : Addr} {qual slf par fld : Str} {scope : Scope} {body : List Stmt} {a : Expr}
/-- the call of the class, from a def's body; Ψ: the abstract heap where the argument's text is done -/
theorem xc_call {Y : L2.Cx} {pins : List (Addr × Obj)} {σ : L2.St} {H : L2.Hp} {s : Shared} {Q : L2.XK} {v : L2.V} {u : Value} (X : XCls Y.prog Y.K C B initId newId bmB fI cda cc qual slf par fld scope body a) (I : L2.Inv Y pins σ H s) (r : L2.RelV v u) (hr : L2.Room 3 Y.A) (hsup : Y.mg "super" = none) (hst : noStar a = true) (Ψ : L2.Hp → Prop)
    (hA : ∀ (A : Around) (E : Value → Shared → Prop) (L : Addr) (m : Str → Option Value) (out : List Env) (pos : Pos) (s1 : Shared) (Q : List Value → Shared → Prop), A.guards = Y.A.guards → A.units ≤ Y.A.units + 16 → (∀ k, L2.Room (k + 2) Y.A → L2.Room k A) → L2.Env0 Y.prog Y.w Y.K Y.mg Y.base A out s1 H → s1.heap.Ns L m → m par = some u →
      (∀ b o, s.heap.get? b = some o → s1.heap.get? b = some o) →
      (∀ v s3 H2, Ψ H2 → s3.os = s1.os → AllBare s3.gens → L2.Un (L2.frs out) [] H H2 s1.heap s3.heap → L2.HOk Y.prog Y.w H2 s3.heap → Q [v] s3) →
      wpAny (model Y.prog Y.w) A (spliced (backTo pos (starEach [a] (PySem.W.ksEnv qual scope L fI (.ref cda) cc)))) Q E s1)
    (q : ∀ H2 d, Ψ H2 → H2 d = none → Q (.ref C) (some d) (L2.upd H2 d (.xd [(fld, v)]))) : wpAny (model Y.prog Y.w) Y.A (call (.ref C) [u]) (L2.MkP Y pins σ Q) Y.xe s := by
  obtain ⟨nm, N', qn, bs, bm, hdct, sn, sub, ab, col, dd, k0, k1, k2, k3, k5, hC, hT⟩ := PySem.W.excInit_of I.kIn X.q
  obtain ⟨oc, od, name, params, dV, kV, doc, pm, ct, an, osl, ar, lk, hoc, har, hars, hbind⟩ := X.fn
  obtain ⟨hp, g, dr, tk, os⟩ := s
  have hfo := I.kIn _ _ lk
  refine wpAny_call (PySem.HandSPX.call_own X.FB hT hC (PySem.W.looks_findIn I.kIn X.init) (fun self => PySem.W.exc_bind hfo hoc self) (by show 1 ≤ sizeLine; rw [sizeLine_eq]; omega) ?_)
  generalize hhc : (hp.push (PySem.W.kdv_tup [u])).push (PySem.HandSPX.excO C hp.objs.size) = hc
  have kc : ∀ b o, hp.get? b = some o → hc.get? b = some o := fun b o z => by rw [← hhc]; exact Heap.get?_push_of_some _ (Heap.get?_push_of_some _ z)
  have he : hc.get? (hp.objs.size + 1) = some (PySem.HandSPX.excO C hp.objs.size) := by rw [← hhc]; heap_get
  have hsz : hc.objs.size = hp.objs.size + 2 := by rw [← hhc, Heap.size_push, Heap.size_push]
  have lim : hc.NoLimit := (I.ok.mod.nolimit.keeps I.bk).keeps kc
  refine PySem.ks_codeAny_call_defAt (s := ⟨hc, g, dr, tk, os⟩) (by show Y.A.depth + 1 < recursionLimit; have := hr.dp; omega) (kc _ _ hfo) rfl lim (PySem.W.codeRec_of (fun b o z => kc _ _ (I.kIn b o z)) X.code) rfl (hbind _ _ _) X.nocell ?_ (fun h₁ hns kn => ?_) X.co X.gen X.kind
  · intro x hx
    simp only [List.mem_cons, List.not_mem_nil, or_false] at hx
    rcases hx with rfl | rfl
    · exact X.kslf
    · exact X.kpar
  have bsz : Y.base.objs.size ≤ hp.objs.size := Nat.le_trans I.ok.bsz I.sz
  have kp1 : ∀ b o, hp.get? b = some o → h₁.get? b = some o := fun b o z => kn b o (kc b o z)
  have F : Fr Y.base hc.objs.size h₁ (fun x => ([(slf, Value.ref (hp.objs.size + 1)), (par, u)].reverse).lookup x) := ⟨hns, fun b o z => kp1 _ _ (I.bk b o z), by rw [hsz]; omega⟩
  have hm1 : ([(slf, Value.ref (hp.objs.size + 1)), (par, u)].reverse).lookup slf = some (.ref (hp.objs.size + 1)) := by
    have : (slf == par) = false := by simpa using X.hne
    simp [List.lookup, this]
  have hm2 : ([(slf, Value.ref (hp.objs.size + 1)), (par, u)].reverse).lookup par = some u := by simp [List.lookup]
  have lt1 : hc.objs.size < h₁.objs.size := hns.lt
  have lt : ∀ {b : Addr} {o : Obj}, hp.get? b = some o → b < hp.objs.size := fun z => Heap.lt_size z
  have eL : hp.objs.size + 1 ≠ hc.objs.size := by rw [hsz]; omega
  have nE : ∀ {b : Addr} {o : Obj}, hp.get? b = some o → b ≠ hp.objs.size + 1 := fun z => Nat.ne_of_lt (Nat.lt_succ_of_lt (lt z))
  have nL : ∀ {b : Addr} {o : Obj}, hp.get? b = some o → b ≠ hc.objs.size := fun z => by rw [hsz]; exact Nat.ne_of_lt (Nat.lt_succ_of_lt (Nat.lt_succ_of_lt (lt z)))
  have none_of : ∀ {b : Addr}, hp.objs.size ≤ b → Y.base.get? b = none := fun {b} hb => by
    cases z : Y.base.get? b with
    | none => rfl
    | some o => exact absurd (lt (I.bk _ _ z)) (Nat.not_lt.mpr hb)
  have hfrs : ∀ b, b ∈ L2.frs (PySem.W.ksEnv qual scope hc.objs.size fI (.ref cda) cc :: Y.stack) ↔ b = hc.objs.size ∨ b ∈ L2.frs Y.stack := fun b => by
    unfold L2.frs
    rw [List.filterMap_cons]
    exact List.mem_cons
  have nfr : ∀ {b : Addr}, hp.objs.size ≤ b → b ∉ L2.frs Y.stack := fun {b} hb hm => by
    rcases List.mem_cons.mp (I.stkSub b hm) with e | hm
    · exact absurd I.lt (by rw [← e]; exact Nat.not_lt.mpr hb)
    · exact I.nofs hb hm
  have bfr : ∀ {b : Addr} {o : Obj}, Y.base.get? b = some o → b ∉ L2.frs Y.stack := fun {b o} z hm => by
    rcases List.mem_cons.mp (I.stkSub b hm) with e | hm
    · exact absurd (Heap.lt_size z) (by rw [e]; exact Nat.not_lt.mpr (Nat.le_trans I.ok.bsz I.ok.above))
    · exact I.ok.nofr z hm
  have fr0 : ∀ {b : Addr}, hp.objs.size ≤ b → H b = none := fun hb => I.hok.fresh hb
  refine PySem.ks_wpAt_mono (xc_body (s := ⟨h₁, g, dr, _, os⟩) X F I.ok.mod.kin (kn _ _ he) eL (none_of (Nat.le_succ _)) hm1 hm2 I.ok.mod.glob hsup I.ok.mod.blt
    (fun s3 => ∃ H2, Ψ H2 ∧ s3.os = os ∧ AllBare s3.gens ∧ H2 (hp.objs.size + 1) = none ∧ H2 hc.objs.size = none ∧ L2.HOk Y.prog Y.w H2 s3.heap ∧ L2.Un (L2.frs Y.stack) [] H H2 hp s3.heap)
    (fun pos s1 Q' o1 g1 ns1 k1 hq => ?_) hst) (fun fl s' hs => ?_) fun _ _ z => z
  · have k01 : ∀ b o, hp.get? b = some o → s1.heap.get? b = some o := fun b o z => k1 b o (nL z) (kp1 _ _ z)
    have sL : hc.objs.size < s1.heap.objs.size := ns1.lt
    refine hA _ _ _ _ (PySem.W.ksEnv qual scope hc.objs.size fI (.ref cda) cc :: Y.stack) pos s1 Q' rfl ?_ (fun k hk => (L2.Room.make hk C [u] []).deeper _) ?_ ns1 hm2 k01 fun v' s3 H2 hΨ os3 bare3 un hok3 => ?_
    · show Y.A.units + 1 + 3 ≤ Y.A.units + 16
      omega
    · refine ⟨Around.frames_deeper (I.env0.make C [u] []).frames, I.ok.mod, fun b o z => ⟨k01 _ _ (I.bs b o z).1, (I.bs b o z).2⟩, by rw [hsz] at sL; omega, .cons (by show scope.kind ≠ _; rw [X.kind]; decide) rfl ns1 (none_of (by rw [hsz]; omega)) (Heap.FunFrames.of_keeps (fun b o z _ => ⟨o, k01 b o z, rfl⟩) I.stack), fun b hb => ?_, I.hok.kept k01, by rw [g1]; exact I.bare⟩
      rcases (hfrs b).mp hb with rfl | hb
      · exact fr0 (by rw [hsz]; omega)
      · exact I.stkFree b hb
    · have e1 : s1.heap.get? (hp.objs.size + 1) = some _ := k1 _ _ eL (kn _ _ he)
      obtain ⟨oL, es, ep, hoL, rL⟩ := ns1
      obtain ⟨sl, hL3⟩ := un.any hoL (fr0 (by rw [hsz]; omega)) (by simp)
      refine hq v' s3 ⟨H2, hΨ, os3.trans o1, bare3, un.free _ _ e1 (fr0 (Nat.le_succ _)) (by simp), un.free _ _ hoL (fr0 (by rw [hsz]; omega)) (by simp), hok3, ?_⟩ ⟨_, es, ep, hL3, rL⟩ (fun b o hb hbL z => ?_) fun b o z => ?_
      · refine ⟨fun b o z n hf hx => un.keep b o (k01 _ _ z) n (fun y => ((hfrs b).mp y).elim (nL z) hf) hx, fun b o z n hf hx => un.slot b o (k01 _ _ z) n ((hfrs b).mpr (.inr hf)) hx, fun b o z n hx => un.free b o (k01 _ _ z) n hx, fun b o z hx => un.there b o (k01 _ _ z) hx, un.tups, un.frzs, un.tbls⟩
      · have hb' : hp.objs.size ≤ b := by
          rcases hb with hb | rfl
          · have hb2 : h₁.objs.size ≤ b := hb
            rw [hsz] at lt1; omega
          · exact Nat.le_succ _
        exact un.keep b o z (fr0 hb') (fun y => ((hfrs b).mp y).elim hbL (nfr hb')) (by simp)
      · exact un.keep b o (k01 _ _ (I.bs b o z).1) (I.bs b o z).2 (fun y => ((hfrs b).mp y).elim (nL (I.bs b o z).1) (bfr z)) (by simp)
  · obtain ⟨rfl, s3, h', tk', dx, t1, hsh, t2, ⟨H2, hΨ, os3, bare3, hE, hL, hok3, un3⟩, rfl, k5, ge, gd, hd3, elt, hdL⟩ := hs
    refine ⟨rfl, ?_⟩
    obtain ⟨h3, g3, dr3, tk3, os3'⟩ := s3
    obtain rfl : os3' = os := os3
    obtain ⟨G3, a1, a2⟩ := L2.restrict h3 fun b => decide (b ≠ hp.objs.size + 1 ∧ b ≠ hc.objs.size)
    obtain ⟨G, b1, b2⟩ := L2.restrict h' fun b => decide (b ≠ hp.objs.size + 1 ∧ b ≠ hc.objs.size)
    have A1 : ∀ {b : Addr}, b ≠ hp.objs.size + 1 → b ≠ hc.objs.size → G3.get? b = h3.get? b := fun z y => a1 _ (decide_eq_true ⟨z, y⟩)
    have B1 : ∀ {b : Addr}, b ≠ hp.objs.size + 1 → b ≠ hc.objs.size → G.get? b = h'.get? b := fun z y => b1 _ (decide_eq_true ⟨z, y⟩)
    have two : ∀ b, (b = hp.objs.size + 1 ∨ b = hc.objs.size) ∨ (b ≠ hp.objs.size + 1 ∧ b ≠ hc.objs.size) := fun b => by
      by_cases h1 : b = hp.objs.size + 1
      · exact .inl (.inl h1)
      · by_cases h2 : b = hc.objs.size
        · exact .inl (.inr h2)
        · exact .inr ⟨h1, h2⟩
    have k3 : ∀ b o, G3.get? b = some o → G.get? b = some o := fun b o z => by
      rcases two b with h | ⟨h1, h2⟩
      · rw [a2 b (decide_eq_false fun y => h.elim y.1 y.2)] at z; cases z
      · rw [A1 h1 h2] at z
        rw [B1 h1 h2]
        exact k5 b o h2 h1 z
    have lo : ∀ {b : Addr} {o : Obj}, hp.get? b = some o → G3.get? b = h3.get? b := fun z => A1 (nE z) (nL z)
    have un4 : L2.Un (L2.frs Y.stack) [] H H2 hp G3 := ⟨fun b o z n hf hx => by rw [lo z]; exact un3.keep b o z n hf hx, fun b o z n hf hx => by rw [lo z]; exact un3.slot b o z n hf hx, un3.free, fun b o z hx => by rw [lo z]; exact un3.there b o z hx, un3.tups, un3.frzs, un3.tbls⟩
    have tr : ∀ {b : Addr} {o : L2.HO}, H2 b = some o → b ≠ hp.objs.size + 1 ∧ b ≠ hc.objs.size := fun z => ⟨fun y => (by rw [y, hE] at z; cases z), fun y => (by rw [y, hL] at z; cases z)⟩
    have hok4 : L2.HOk Y.prog Y.w H2 G3 := fun b o z => (hok3 b o z).stay (fun c w hc' y => by
      have t := hc'.elim (fun e => by rw [e]; exact tr z) (fun e => tr e)
      rw [A1 t.1 t.2]; exact y) (fun _ y => y) fun _ _ y => y
    have hdE : dx ≠ hp.objs.size + 1 := Nat.ne_of_gt elt
    have hdn : H2 dx = none := by
      cases z : H2 dx with
      | none => rfl
      | some o =>
        obtain ⟨w, y⟩ := objOk_some (hok3 dx o z)
        rw [hd3] at y; cases y
    have J1 := I.call (h' := G3) (g' := g3) (d' := dr3) (t' := tk') (ch := []) un4 hok4 bare3 (fun b z => absurd z (by simp))
    have J := L2.Inv.laidN (t' := tk') (h' := G) (a := dx) (o := .xd [(fld, v)]) J1 k3 (by show G3.get? dx = none; rw [A1 hdE hdL]; exact hd3) hdn (by
      refine ⟨_, ns1_one (o := PySem.W.dictOf [⟨hsh, .str fld t2, u⟩] 1) (by rw [B1 hdE hdL]; exact gd) rfl, fun y => ?_⟩
      by_cases hy : y = fld
      · subst hy
        simp [List.lookup]
        exact r
      · have hyb : (y == fld) = false := by simpa using hy
        rw [if_neg hy]
        simp only [List.lookup, hyb]
        trivial)
    have gn : G.get? (hp.objs.size + 1) = none := b2 _ (by simp)
    refine ⟨hp.objs.size + 1, _, _, _, _, .ref C, some dx, rfl, J, fun b o z => ?_, gn, ge, ⟨rfl, rfl⟩, rfl, rfl, ?_, rfl, bare3, L2.raises_own X.exC X.tyC, q H2 dx hΨ hdn⟩
    · rcases two b with h | ⟨h1, h2⟩
      · have z' : G.get? b = some o := z
        rw [b2 b (decide_eq_false fun y => h.elim y.1 y.2)] at z'; cases z'
      · have z' : G.get? b = some o := z
        rw [B1 h1 h2] at z'
        exact z'
    · rw [L2.upd_ne (Ne.symm hdE)]
      exact hE
end

/-! ### as the interpreter has it -/
/-- the argument's text is made: what is held behind it -/
def XArg (T : Tb) (Pg : Program) (w : World) (K : PySem.W.Frag) (mg : Str → Option Value) (base : Heap) (k : Nat) (par : Str) (a : Expr) (env : Addr → Env) (mk : MkF) : Prop :=
  ∀ (Y : L2.Cx) (pins : List (Addr × Obj)) (σ : L2.St) (H : L2.Hp) (s : Shared) (W : Wd) (d : D) (st : Store) (x : Ex) (v : L2.V) (u : Value), Y.prog = Pg → Y.w = w → Y.K = K → Y.mg = mg → Y.base = base → L2.Inv Y pins σ H s → Sim T W st H → mk [d] st = some x → Rep T W d v → L2.RelV v u → Y.A.guards = some [] → L2.Room k Y.A →
    ∀ (A : Around) (E : Value → Shared → Prop) (L : Addr) (m : Str → Option Value) (out : List Env) (pos : Pos) (s1 : Shared) (Q : List Value → Shared → Prop), A.guards = Y.A.guards → A.units ≤ Y.A.units + 16 → (∀ k, L2.Room (k + 2) Y.A → L2.Room k A) → L2.Env0 Y.prog Y.w Y.K Y.mg Y.base A out s1 H → s1.heap.Ns L m → m par = some u →
      (∀ b o, s.heap.get? b = some o → s1.heap.get? b = some o) →
      (∀ v s3 H2 W2, W.le W2 → Sim T W2 st H2 → s3.os = s1.os → AllBare s3.gens → L2.Un (L2.frs out) [] H H2 s1.heap s3.heap → L2.HOk Y.prog Y.w H2 s3.heap → Q [v] s3) →
      wpAny (model Y.prog Y.w) A (spliced (backTo pos (starEach [a] (env L)))) Q E s1
theorem XArg.or {T : Tb} {Pg : Program} {w : World} {K : PySem.W.Frag} {mg : Str → Option Value} {base : Heap} {j k l : Nat} {par : Str} {a : Expr} {env : Addr → Env} {mk1 mk2 : MkF} (h1 : XArg T Pg w K mg base j par a env mk1) (h2 : XArg T Pg w K mg base k par a env mk2) (hj : j ≤ l) (hk : k ≤ l) :
    XArg T Pg w K mg base l par a env (mkAlt mk1 mk2) := by
  intro Y pins σ H s W d st x v u e1 e2 e3 e4 e5 I sim ex rv ru hg hr
  unfold mkAlt at ex
  split at ex
  · rename_i y hy
    exact h1 Y pins σ H s W d st y v u e1 e2 e3 e4 e5 I sim hy rv ru hg (hr.mono hj)
  · exact h2 Y pins σ H s W d st x v u e1 e2 e3 e4 e5 I sim ex rv ru hg (hr.mono hk)
section
variable {T : Tb} {Pg : Program} {w : World} {K : PySem.W.Frag} {mg : Str → Option Value} {base : Heap} {C : Addr} {B initId newId : String} {bmB : List Value} {fI cda cc : Addr} {qual slf par fld nm : Str} {scope : Scope} {body : List Stmt} {a : Expr} {k : Nat}
theorem mk_any {xi : Nat} {mk : MkF} (hK : T.K = K) (X : XCls Pg K C B initId newId bmB fI cda cc qual slf par fld scope body a) (hxa : T.xa xi = .ref C) (hxf : T.xf xi = fld) (hm : mg nm = some (.ref C)) (hn : nmOk nm = true) (hsup : mg "super" = none) (hst : noStar a = true) (hk : 3 ≤ k)
    (hmk : ∀ ds st x, mk ds st = some x → ∃ d, ds = [d] ∧ x = ⟨xi, [d]⟩)
    (hA : XArg T Pg w K mg base k par a (fun L => PySem.W.ksEnv qual scope L fI (.ref cda) cc) mk) :
    MkAt T Pg w K mg base nm k mk := by
  intro Y e1 e2 e3 e4 e5 hc hg hr XW x es is p pos ha hstar hpl hgl
  subst e1 e2 e3 e4 e5
  intro pins s σ H Q I ⟨W, st, σd, sim, rs, h⟩
  refine wpAny_Call_Name_kw (L2.ld_glob I hgl hm ?_ (nmOk.l hn))
  refine PySem.W.callWith_K (h₀ := Y.base) I.ok.mod.kin X.kC (L2.thn (ha.run pos pins s σ H _ I ⟨W, st, σd, sim, rs, h.bind (RepA T)⟩) fun us s1 ⟨vs, H1, I1, r, q⟩ => ⟨I1.kIn, ?_⟩) hstar hpl
  obtain ⟨W1, ds, st1, le1, sim1, r1, h1⟩ := q
  obtain ⟨xx, ex, h2⟩ := ofO_ok h1
  obtain ⟨d, rfl, rfl⟩ := hmk _ _ _ ex
  obtain ⟨v, rfl, rv⟩ := repA1 r1
  obtain ⟨u, rfl, ru⟩ := L2.Vals.one r
  show wpAny _ _ (call (.ref C) [u]) _ _ _
  refine xc_call X I1 ru (hr.mono hk) hsup hst (fun H2 => ∃ W2, W1.le W2 ∧ Sim T W2 st1 H2) (fun A E L m out pos' s2 Q' g1 g2 g3 g4 g5 g6 g7 g8 => hA Y pins σ H1 s1 W1 d st1 _ v u rfl rfl rfl rfl rfl I1 sim1 ex rv ru hg hr A E L m out pos' s2 Q' g1 g2 g3 g4 g5 g6 g7 fun v' s3 H2 W2 a1 a2 a3 a4 a5 a6 => g8 v' s3 H2 ⟨W2, a1, a2⟩ a3 a4 a5 a6) fun H2 dd ⟨W2, lw, sim2⟩ hdd => ?_
  obtain ⟨le2, sim3⟩ := sim2.new (o := .xd [(fld, v)]) hdd
  refine h2 (.ref C, some dd) _ _ (lw.trans le2) sim3 ⟨hxa.symm, dd, v, rfl, ?_, rv.mono (lw.trans le2)⟩
  show L2.upd W2.F dd _ dd = _
  rw [L2.upd_same, hxf]
/-- str(the parameter), as it is called -/
theorem str_par {c1 c2 c3 : Pos} {Y : L2.Cx} {pins : List (Addr × Obj)} {σ : L2.St} {H : L2.Hp} {s s1 : Shared} {A : Around} {E : Value → Shared → Prop} {L : Addr} {m : Str → Option Value} {u : Value} {pos : Pos} {Q : List Value → Shared → Prop} (I : L2.Inv Y pins σ H s) (hkd : scope.kind = .function) (hks : scope.names.lookup ("str" : Str) = some .globalImplicit) (hkp : scope.names.lookup par = some .local)
    (hdp : (par == ("__debug__" : Str)) = false) (hstr : Y.mg "str" = none) (ns : s1.heap.Ns L m) (hp : m par = some u) (kp : ∀ b o, s.heap.get? b = some o → s1.heap.get? b = some o)
    (q : wpAny (model Y.prog Y.w) A (call (.type "str") [u]) (fun v s3 => Q [v] s3) E s1) :
    wpAny (model Y.prog Y.w) A (spliced (backTo pos (starEach [.Call (.Name "str" c1) [.Name par c2] [] c3] (PySem.W.ksEnv qual scope L fI (.ref cda) cc)))) Q E s1 := by
  have hk : (PySem.W.ksEnv qual scope L fI (.ref cda) cc).scope.kind = .function := hkd
  have kb : ∀ b o, Y.base.get? b = some o → s1.heap.get? b = some o := fun b o z => kp _ _ (I.bk b o z)
  obtain ⟨mb, hb1, hb2⟩ := I.ok.mod.blt
  show wpAny _ _ (spliced ((false, PySem.eval (.Call (.Name "str" c1) [.Name par c2] [] c3) _) :: backTo pos (starEach [] _))) _ _ _
  refine Calls.spliced_cons ?_
  refine wpAny_Call_Name_kw (Calls.Name_function_global hk hks (Calls.loadGlobal_builtin (I.ok.mod.glob.keeps kb) hstr (hb1.keeps kb) ((hb2 _ (by decide)).trans (by decide +kernel : bootBuiltins "str" = some (.type "str"))) ?_))
  refine callWith_type1 ?_ rfl rfl
  show wpAny _ _ (spliced ((false, PySem.eval (.Name par c2) _) :: backTo c3 (starEach [] _))) _ _ _
  exact Calls.spliced_cons (wpAny_Name (wpAny_loadName_local hk hkp ns hp (Calls.spliced_nil (wpAny_mono q (fun v s3 z => Calls.spliced_nil z) fun _ _ z => z))) hdp)
/-- the text of data -/
theorem xa_str {xi : Nat} {c1 c2 c3 : Pos} (hK : T.K = K) (hkd : scope.kind = .function) (hks : scope.names.lookup ("str" : Str) = some .globalImplicit) (hkp : scope.names.lookup par = some .local) (hdp : (par == ("__debug__" : Str)) = false) (hstr : mg "str" = none) :
    XArg T Pg w K mg base 1 par (.Call (.Name "str" c1) [.Name par c2] [] c3) (fun L => PySem.W.ksEnv qual scope L fI (.ref cda) cc) (mkStr xi) := by
  intro Y pins σ H s W d st x v u e1 e2 e3 e4 e5 I sim ex rv ru hg hr A E L m out pos s1 Q g1 g2 g3 g4 ns hp kp q
  subst e1 e2 e3 e4 e5
  unfold mkStr at ex
  simp only at ex
  split at ex
  case isFalse => cases ex
  rename_i hz
  obtain ⟨t, ht⟩ := Option.isSome_iff_exists.mp hz.2
  refine str_par I hkd hks hkp hdp hstr ns hp kp ?_
  exact str_any hK I sim.sub ht hz.1 rv ru (by rw [g1]; exact hg) (by have := hr.un; omega) kp fun h' tk tk2 kk => q _ _ H W (.refl _) sim rfl g4.bare (L2.Un.kept kk) (g4.hok.kept kk)
/-- a constant text -/
theorem xa_con {xi : Nat} {t : Str} {j : Nat} {c1 : Pos} : XArg T Pg w K mg base 0 par (.Constant (.str t) j c1) (fun L => PySem.W.ksEnv qual scope L fI (.ref cda) cc) (mkCon xi) := by
  intro Y pins σ H s W d st x v u e1 e2 e3 e4 e5 I sim ex rv ru hg hr A E L m out pos s1 Q g1 g2 g3 g4 ns hp kp q
  show wpAny _ _ (spliced ((false, PySem.eval (.Constant (.str t) j c1) _) :: backTo pos (starEach [] _))) _ _ _
  exact Calls.spliced_cons (Calls.Constant_str (Calls.spliced_nil (q _ _ H W (.refl _) sim rfl g4.bare (L2.Un.kept fun _ _ z => z) (g4.hok.kept fun _ _ z => z))))
/-- the text of an own object, by its own def -/
theorem xa_own {xi cl : Nat} {al : Alt} {c1 c2 c3 : Pos} (hK : T.K = K) (hkd : scope.kind = .function) (hks : scope.names.lookup ("str" : Str) = some .globalImplicit) (hkp : scope.names.lookup par = some .local) (hdp : (par == ("__debug__" : Str)) = false) (hstr : mg "str" = none)
    (hF : FnAt T Pg w K mg base (.meth cl) "__str__" k al.dv al.sm) :
    XArg T Pg w K mg base (k + 3) par (.Call (.Name "str" c1) [.Name par c2] [] c3) (fun L => PySem.W.ksEnv qual scope L fI (.ref cda) cc) (mkOwn xi cl al) := by
  intro Y pins σ H s W d st x v u e1 e2 e3 e4 e5 I sim ex rv ru hg hr A E L m out pos s1 Q g1 g2 g3 g4 ns hp kp q
  subst e1 e2 e3 e4 e5
  obtain ⟨c, fs, rfl, hcl, y, hy⟩ := mkOwn_some ex
  subst hcl
  refine str_par I hkd hks hkp hdp hstr ns hp kp ?_
  obtain ⟨e, dx, vs, xs, rfl, hc, h1, h2, _, _⟩ := rep_obj rv
  obtain ⟨sl, od, _, J0, _⟩ := SlX.slt_inst I (obj_slt sim h1 h2)
  have J : PySem.W.InstAt s1.heap e _ (T.ca c) (some od) := ⟨kp _ _ J0.1, J0.2, J0.3, kp _ _ J0.4⟩
  obtain ⟨j, g, fd, ps, ds, dvs, hj, F, M, hb, hd, hdv⟩ := hF
  have M' : L2.Meth Y.K (T.ca c) "__str__" g := M
  obtain rfl : u = Value.ref e := ru
  have kI : Y.K.In s1.heap := fun b o z => kp _ _ (I.kIn b o z)
  have hr1 : L2.Room (j + 2) A := (g3 _ (hr.mono (by omega : j + 2 + 2 ≤ k + 3)))
  have hr2 : L2.Room j A.in1.in1 := (show L2.Room (j + 1) A.in1 from hr1.in1).in1
  refine PySem.W.kso_call (by have := hr2.un; omega) kI J M'.at_ M'.fn ?_
  have spec : spOf T al.sm ([L2.V.ref e] ++ dvs) H (fun z H' => ∃ W' x, W.le W' ∧ Sim T W' st H' ∧ z = L2.V.str x) (fun _ _ _ => False) := ⟨W, st, .obj c fs :: al.dv, sim, .cons rv (hdv W), by
    rw [hy]
    exact fun b W' H' le s' r' => ⟨W', _, le, s', rep_str r'⟩⟩
  have rr : L2.Vals ([L2.V.ref e] ++ dvs) ([Value.ref e] ++ ds) := L2.Vals.append (.cons rfl .nil) hd
  have ll : ([Value.ref e] ++ ds).length = ps.length := rr.length ▸ F.len _ _ _ _ spec
  refine wpAny_call (codeAny_mono (F.run A.in1.in1 out s1 H ⟨[.ref e], []⟩ _ _ _ (fun _ _ _ => False) hr2 (show A.guards = some [] from g1.trans hg) g4.in1.in1 (hb _ [.ref e] kI ll) rr spec) fun r s' hq2 => ?_)
  cases r with
  | error e =>
    obtain ⟨_, _, _, _, _, _, _, _, _, _, _, _, z⟩ := hq2
    exact z.elim
  | ok fl =>
    cases fl with
    | ret w' =>
      obtain ⟨z, H', os, bare, un, hok, r, W', x', le', sim', e'⟩ := hq2
      subst e'
      obtain ⟨tk, rfl⟩ := (show ∃ t, w' = Value.str _ t from r)
      exact q _ _ H' W' le' sim' os bare un hok
    | next => exact False.elim hq2
    | brk => exact False.elim hq2
    | cont => exact False.elim hq2
theorem mkOne_str {xi : Nat} : ∀ ds st x, mkStr xi ds st = some x → ∃ d, ds = [d] ∧ x = ⟨xi, [d]⟩ := fun ds st x e => by
  unfold mkStr at e
  split at e
  · split at e
    · cases e; exact ⟨_, rfl, rfl⟩
    · cases e
  · cases e
theorem mkOne_con {xi : Nat} : ∀ ds st x, mkCon xi ds st = some x → ∃ d, ds = [d] ∧ x = ⟨xi, [d]⟩ := fun ds st x e => by
  unfold mkCon at e
  split at e
  · cases e; exact ⟨_, rfl, rfl⟩
  · cases e
theorem mkOne_own {xi cl : Nat} {al : Alt} : ∀ ds st x, mkOwn xi cl al ds st = some x → ∃ d, ds = [d] ∧ x = ⟨xi, [d]⟩ := fun ds st x e => by
  unfold mkOwn at e
  split at e
  · split at e
    · split at e
      · split at e
        · cases e; exact ⟨_, rfl, rfl⟩
        · cases e
      · cases e
    · cases e
  · cases e
theorem mkOne_alt {xi : Nat} {mk1 mk2 : MkF} (h1 : ∀ ds st x, mk1 ds st = some x → ∃ d, ds = [d] ∧ x = ⟨xi, [d]⟩) (h2 : ∀ ds st x, mk2 ds st = some x → ∃ d, ds = [d] ∧ x = ⟨xi, [d]⟩) : ∀ ds st x, mkAlt mk1 mk2 ds st = some x → ∃ d, ds = [d] ∧ x = ⟨xi, [d]⟩ := fun ds st x e => by
  unfold mkAlt at e
  split at e
  · cases e
    rename_i hy
    exact h1 _ _ _ hy
  · exact h2 _ _ _ e
theorem mk_str {xi : Nat} {c1 c2 c3 : Pos} (hK : T.K = K) (X : XCls Pg K C B initId newId bmB fI cda cc qual slf par fld scope body (.Call (.Name "str" c1) [.Name par c2] [] c3)) (hxa : T.xa xi = .ref C) (hxf : T.xf xi = fld) (hm : mg nm = some (.ref C)) (hn : nmOk nm = true) (hsup : mg "super" = none)
    (hstr : mg "str" = none) (hks : scope.names.lookup ("str" : Str) = some .globalImplicit) : MkAt T Pg w K mg base nm 3 (mkStr xi) :=
  mk_any hK X hxa hxf hm hn hsup rfl (Nat.le_refl _) mkOne_str (fun Y pins σ H s W d st x v u e1 e2 e3 e4 e5 I sim ex rv ru hg hr => xa_str hK X.kind hks X.kpar X.dpar hstr Y pins σ H s W d st x v u e1 e2 e3 e4 e5 I sim ex rv ru hg (hr.mono (by omega)))
theorem mk_strOwn {xi cl : Nat} {al : Alt} {c1 c2 c3 : Pos} (hK : T.K = K) (X : XCls Pg K C B initId newId bmB fI cda cc qual slf par fld scope body (.Call (.Name "str" c1) [.Name par c2] [] c3)) (hxa : T.xa xi = .ref C) (hxf : T.xf xi = fld) (hm : mg nm = some (.ref C)) (hn : nmOk nm = true) (hsup : mg "super" = none)
    (hstr : mg "str" = none) (hks : scope.names.lookup ("str" : Str) = some .globalImplicit) (hF : FnAt T Pg w K mg base (.meth cl) "__str__" k al.dv al.sm) : MkAt T Pg w K mg base nm (k + 3) (mkAlt (mkStr xi) (mkOwn xi cl al)) :=
  mk_any hK X hxa hxf hm hn hsup rfl (Nat.le_add_left _ _) (mkOne_alt mkOne_str mkOne_own) (XArg.or (xa_str hK X.kind hks X.kpar X.dpar hstr) (xa_own hK X.kind hks X.kpar X.dpar hstr hF) (by omega) (Nat.le_refl _))
theorem mk_con {xi : Nat} {t : Str} {j : Nat} {c1 : Pos} (hK : T.K = K) (X : XCls Pg K C B initId newId bmB fI cda cc qual slf par fld scope body (.Constant (.str t) j c1)) (hxa : T.xa xi = .ref C) (hxf : T.xf xi = fld) (hm : mg nm = some (.ref C)) (hn : nmOk nm = true) (hsup : mg "super" = none) : MkAt T Pg w K mg base nm 3 (mkCon xi) :=
  mk_any hK X hxa hxf hm hn hsup rfl (Nat.le_refl _) mkOne_con (fun Y pins σ H s W d st x v u e1 e2 e3 e4 e5 I sim ex rv ru hg hr => xa_con Y pins σ H s W d st x v u e1 e2 e3 e4 e5 I sim ex rv ru hg (hr.mono (Nat.zero_le _)))
/-- an exception class without own __init__ -/
theorem mk_no {xi : Nat} (hK : T.K = K) (FB : ExcBaseFacts B newId initId bmB) (q : PySem.W.excIn K C bmB newId = true) (hxa : T.xa xi = .ref C) (hm : mg nm = some (.ref C)) (hn : nmOk nm = true) (kC : PySem.W.keepIn K (.ref C) = true)
    (exC : PySem.W.subIn K (.ref C) (.type "BaseException") = some true) (tyC : PySem.W.typeIn K (.ref C) = some (.type "type")) : MkAt T Pg w K mg base nm 0 (mkNo xi) := by
  intro Y e1 e2 e3 e4 e5 hc hg hr XW x es is p pos ha hstar hpl hgl
  subst e1 e2 e3 e4 e5
  intro pins s σ H Q I ⟨W, st, σd, sim, rs, h⟩
  refine L2.pmk_ownA FB q hm kC (L2.raises_own exC tyC) hgl ha (nmOk.l hn) hstar hpl pins s σ H Q I ?_
  refine ⟨W, st, σd, sim, rs, (h.bind (RepA T)).imp ?_⟩
  rintro vs H1 ⟨W1, ds, st1, le1, sim1, r1, h1⟩
  obtain ⟨xx, ex, h2⟩ := ofO_ok h1
  unfold mkNo at ex
  split at ex
  · rename_i hz
    cases ex
    exact ⟨by rw [← r1.length]; exact szOk.le hz, h2 (.ref C, none) W1 H1 (.refl _) sim1 ⟨hxa.symm, trivial⟩⟩
  · cases ex
end
end Ip
set_option Elab.async false
set_option linter.all false
set_option maxRecDepth 100000
set_option maxHeartbeats 1000000
/-! The law's end: a def's promise by its term, at the heap that the top leaves. -/
namespace Ip
open PySem PySem.Spec PyProof.Rows L2

section
variable {P : Program} {w : World} {K : PySem.W.Frag} {mg mb : Str → Option Value} {k : Nat} {fa a : Addr} {fd : FuncData} {x : Str} {T : Tb} {sm : Fn} {s₁ : Shared} {vs : List Value} {ns : List Int}
/-- where the script is tracked as H says -/
theorem law_at {H : Hp} (hK : T.K = K) (KX : K.In s₁.heap) (hns : s₁.heap.Ns mainGlobals mg) (hb : s₁.heap.Ns builtinsNs mb) (hbb : ∀ x : Str, x ≠ "__name__" → mb x = bootBuiltins x) (hlim : s₁.heap.NoLimit) (hg : s₁.gens = #[])
    (ha : s₁.heap.get? a = some { cls := .type "list", data := .seq vs.toArray }) (hr : Room k callerA)
    (F : ∀ base : Heap, K.In base → base.Ns mainGlobals mg → FnG P w K mg base k fa fd [x] (spOf T sm)) (hbind : ∀ (s : Shared) (u : Value), BindsTo s fd ⟨[u], []⟩ [(x, u)])
    (hsm : ∃ st, sm [.lst (ns.map D.int)] [] = .ok (.bl true) st)
    (hO : ∀ b u, H b = some u → b = a ∧ ∃ o xs, u = .frz o (.lst xs)) (hS : SqL K H a (ns.map V.int)) (hok : HOk P w H s₁.heap) (hKa : H a ≠ none → K.lookup a = none) :
    codeAny (model P w) callerA (.call (.ref fa) ⟨[.ref a], []⟩) (fun r s' => r = .ok (.ret (.bool true)) ∧ OldK s₁.heap s'.heap ∧ s'.os = s₁.os ∧ AllBare s'.gens) s₁ := by
  have low : ∀ {b : Addr} {o : Obj}, s₁.heap.get? b = some o → (b = a → False) → (hidT s₁.heap H).get? b = some o := fun {b o} e n => hidT_get e (by
    cases q : H b with
    | none => rfl
    | some u => exact (n (hO b u q).1).elim)
  have nsOf : ∀ {b : Addr} {m : Str → Option Value}, s₁.heap.Ns b m → (hidT s₁.heap H).Ns b m := by
    rintro b m ⟨o, es, ep, e, d, r⟩
    refine ⟨o, es, ep, low e fun z => ?_, d, r⟩
    rw [z, ha] at e
    cases e
    cases d
  have kb : K.In (hidT s₁.heap H) := fun b o e => hidT_get (KX b o e) (by
    cases q : H b with
    | none => rfl
    | some u =>
      have z := (hO b u q).1
      rw [z] at e q
      rw [hKa (by rw [q]; exact fun y => nomatch y)] at e
      cases e)
  have hM : Mod K mg (hidT s₁.heap H) := ⟨kb, nsOf hns, ⟨mb, nsOf hb, hbb⟩, by
    obtain ⟨mc, z1, z2⟩ := hlim
    exact ⟨mc, nsOf z1, z2⟩⟩
  have none0 : ∀ {b : Addr} {R : Prop}, b ∈ ([] : List Addr) → R := fun z => nomatch z
  have e0 : Env0 P w K mg (hidT s₁.heap H) callerA [] s₁ H := { frames := rfl, mod := hM, bs := fun b o e => of_hidT e, bsz := Nat.le_of_eq (hidT_size _ _), funs := trivial, frf := fun b z => none0 z, hok := hok, bare := .of_eq hg }
  obtain ⟨st, hst⟩ := hsm
  have sp : spOf T sm [.ref a] H (fun v _ => v = .bl true) (fun _ _ _ => False) := by
    refine ⟨⟨H, [], []⟩, [], [.lst (ns.map D.int)], ⟨Same.refl _, rfl, ?_, ?_, ?_, List.nodup_nil, ?_⟩, .cons (.lst (by rw [hK]; exact hS) ?_) .nil, ?_⟩
    · intro n c p h1; simp at h1
    · intro n c p h1; simp at h1
    · intro q hq; cases hq
    · intro n m c d p q hnm h1; simp at h1
    · clear hst hS
      induction ns with
      | nil => exact .nil
      | cons n ns ih => exact .cons (.int n) ih
    · rw [hst]
      intro b W' H' _ _ r
      exact rep_bl r
  refine codeAny_mono ((F _ kb (nsOf hns)).run callerA [] s₁ H ⟨[.ref a], []⟩ [.ref a] [.ref a] _ _ hr rfl e0 (hbind s₁ (.ref a)) (.cons rfl .nil) sp) fun r s' h => ?_
  match r, h with
  | .error _, h =>
    obtain ⟨_, _, _, _, _, _, _, _, _, _, _, _, z⟩ := h
    exact z.elim
  | .ok .next, h => exact False.elim h
  | .ok .brk, h => exact False.elim h
  | .ok .cont, h => exact False.elim h
  | .ok (.ret u), h =>
    obtain ⟨v, H', os, bare, un, hok', r', q⟩ := h
    cases (show v = .bl true from q)
    cases (show u = Value.bool true from r')
    refine ⟨rfl, OldK.of_keep fun b o e => ?_, os, bare⟩
    cases q : H b with
    | none => exact un.keep b o e q (fun z => none0 z) (fun z => none0 z)
    | some u =>
      obtain ⟨_, ob, xs, rfl⟩ := hO b u q
      obtain ⟨g1, _⟩ := hok b _ q
      obtain ⟨g2, _⟩ := hok' b _ (un.frzs b ob _ q)
      rw [e] at g1
      cases g1
      exact g2
theorem law_go (hK : T.K = K) (KX : K.In s₁.heap) (hns : s₁.heap.Ns mainGlobals mg) (hb : s₁.heap.Ns builtinsNs mb) (hbb : ∀ x : Str, x ≠ "__name__" → mb x = bootBuiltins x) (hlim : s₁.heap.NoLimit) (hg : s₁.gens = #[])
    (ha : s₁.heap.get? a = some { cls := .type "list", data := .seq vs.toArray }) (hi : IntsAre vs ns) (hl : ns.length ≤ sizeLine) (hr : Room k callerA)
    (F : ∀ base : Heap, K.In base → base.Ns mainGlobals mg → FnG P w K mg base k fa fd [x] (spOf T sm)) (hbind : ∀ (s : Shared) (u : Value), BindsTo s fd ⟨[u], []⟩ [(x, u)])
    (hsm : ∃ st, sm [.lst (ns.map D.int)] [] = .ok (.bl true) st) :
    codeAny (model P w) callerA (.call (.ref fa) ⟨[.ref a], []⟩) (fun r s' => r = .ok (.ret (.bool true)) ∧ OldK s₁.heap s'.heap ∧ s'.os = s₁.os ∧ AllBare s'.gens) s₁ := by
  have rv := vals_ints hi
  have hlen := hi.length
  by_cases hk : ∃ o, K.lookup a = some o
  · obtain ⟨o, hk⟩ := hk
    have e := KX a o hk
    rw [ha] at e
    cases e
    refine law_at (H := fun _ => none) hK KX hns hb hbb hlim hg ha hr F hbind hsm (fun b u z => nomatch z) (.inr ⟨_, vs.toArray, 0, hk, rfl, rfl, rfl, ?_, ?_⟩) (fun b u z => nomatch z) fun z => absurd rfl z
    · rw [List.size_toArray, hlen]; exact hl
    · simpa using rv
  · have hk : K.lookup a = none := by
      cases q : K.lookup a with
      | none => rfl
      | some o => exact absurd ⟨o, q⟩ hk
    refine law_at (H := upd (fun _ => none) a (.frz { cls := .type "list", data := .seq vs.toArray } (.lst (ns.map V.int)))) hK KX hns hb hbb hlim hg ha hr F hbind hsm (fun b u z => ?_) (.inl (.inr ⟨_, upd_same⟩)) (fun b u z => ?_) fun _ => hk
    · by_cases hb : b = a
      · subst hb
        rw [upd_same] at z
        cases z
        exact ⟨rfl, _, _, rfl⟩
      · rw [upd_ne hb] at z
        cases z
    · by_cases hb : b = a
      · subst hb
        rw [upd_same] at z
        cases z
        exact ⟨ha, by rw [List.length_map]; exact hl, vs, _, rv, ha⟩
      · rw [upd_ne hb] at z
        cases z
end
/-- what k_head leaves, from the law's def by its term -/
theorem walk_G {l : PySem.W.OpenLaw} {n k : Nat} {q : Program} {loose : List Str} {XP : (Str → Option Value) → Heap → Prop} {YP : World → Heap → Prop} {d : DefRec} {K : Params → PySem.W.Frag} {x : Str} {sm : Fn}
    (hn : l.most = some n) (hn2 : n ≤ sizeLine) (hdf : d.params.defaults = []) (hr : Room k callerA) (hY : ∀ (w : World) (h : Heap), YP w h → (K w.params).In h)
    (F : ∀ (w : World) (mg : Str → Option Value) (fa : Addr) (h : Heap), (K w.params).In h → h.Ns mainGlobals mg → mg d.name = some (.ref fa) →
      ∃ (T : Tb) (fd : FuncData), T.K = K w.params ∧ (∀ (s : Shared) (u : Value), BindsTo s fd ⟨[u], []⟩ [(x, u)]) ∧
        ∀ base : Heap, (K w.params).In base → base.Ns mainGlobals mg → FnG l.prog w (K w.params) mg base k fa fd [x] (spOf T sm))
    (hsm : ∀ ns : List Int, ns.length ≤ n → ∃ st, sm [.lst (ns.map D.int)] [] = .ok (.bl true) st) :
    PySem.W.WalkO q loose XP YP l.row.toRowW d [] (fun f vs => PySem.call f vs) := by
  refine Att.attach_call hn hdf fun w s₀ s₁ mg mb fa o pm cd doc a vs ns G Y ho hd hcd hmg hobj hints hlen hg => ?_
  obtain ⟨T, fd, hK, hbd, hF⟩ := F w mg fa _ (hY w _ Y) G.T.g hmg
  exact law_go hK (hY w _ Y) G.T.g G.T.b G.T.builtins G.T.nolimit hg hobj hints (Nat.le_trans hlen hn2) hr hF hbd (hsm ns hlen)

/-! ### for the printed link -/
theorem all0 {α : Type} {Q : α → Prop} : ∀ p ∈ ([] : List α), Q p := fun _ h => nomatch h
theorem all1 {α : Type} {Q : α → Prop} {a : α} {l : List α} (h : Q a) (r : ∀ p ∈ l, Q p) : ∀ p ∈ a :: l, Q p := fun p hp => by
  rcases List.mem_cons.mp hp with rfl | hp
  · exact h
  · exact r p hp
theorem allU {n : Nat} {hs : List Hd} (h : (hs.all fun h => decide (h.k < n)) = true) : ∀ h ∈ hs, h.k < n := fun x hx => of_decide_eq_true (List.all_eq_true.mp h x hx)
theorem exm_by {K : PySem.W.Frag} {x S : Addr} {cd : ClassData} {b : Bool} (h1 : PySem.W.subIn K (.ref S) (.type "BaseException") = some true) (h2 : PySem.W.clsIn K S = some cd) (h3 : PySem.W.typeIn K (.ref S) = some (.type "type")) (h4 : PySem.W.subIn K (.ref x) (.ref S) = some b) :
    PySem.W.exmOne K (.ref x) (.ref S) = some b := by
  have e1 : (PySem.W.subIn K (.ref S) (.type "BaseException") == some true) = true := by rw [h1]; rfl
  have e2 : ((PySem.W.clsIn K S).isSome && PySem.W.typeIn K (.ref S) == some (.type "type")) = true := by rw [h2, h3]; rfl
  unfold PySem.W.exmOne
  rw [if_pos e1]
  show (if ((PySem.W.clsIn K S).isSome && PySem.W.typeIn K (.ref S) == some (.type "type")) = true then _ else _) = _
  rw [if_pos e2]
  exact h4
theorem fn_byF {T : Tb} {Pg : Program} {w : World} {K : PySem.W.Frag} {mg : Str → Option Value} {base : Heap} {G : Nat → D → Prop} {U : Nat → Prop} {c : Cfg} {k : Nat} {P : Nat → List D → Fn → Prop} {R : Nat → MkF → Prop} {x qual : Str} {st : Stmt} {f : Addr} {fd : FuncData} {N ps : List Str} {body : ISs}
    (Gl0 : Glob T Pg w K mg base G U c) (hsc : c.sc = defScope st) (hwr : c.wr = defScope st) (hN : c.N = N) (fns : ∀ i dv sm, P i dv sm → FnAt T Pg w K mg base (c.kd i) (c.fn i) k dv sm) (mks : ∀ x mk, R x mk → MkAt T Pg w K mg base (c.xn x) k mk)
    (F : Fun K x qual st f fd) (S : FnScope N ps (defScope st)) (ok : okSs P G R U body) (h : chkSs c body (defBody st) = true) :
    FnG Pg w K mg base (k + 1) f fd ps (spOf T (callD T.xm ps.length (N.length - ps.length) body)) := by
  obtain ⟨oc, od, kV, doc, pm, an, cdv, ct, osl, rfl, lk, hcd⟩ := F.ex
  exact fn_by Gl0 hsc hwr hN fns mks lk hcd S ok h
end Ip
set_option Elab.async false
set_option linter.all false
set_option maxRecDepth 100000
set_option maxHeartbeats 400000
/-! Plain laws: loops over items that stand, stores behind calls. -/
namespace Ip
open PySem (Str)

theorem closeSt_self (st : Store) : closeSt st st = st := by
  unfold closeSt
  split
  · exact List.take_length
  · rfl
/-- a loop over items that stand -/
def forL (t : IT) (b : EnvD → Store → OutS) : List D → EnvD → Store → OutS
  | [], σ, st => .nx σ st
  | x :: xs, σ, st => match asgT st t x σ with
    | none => .stuck
    | some σ => match b σ st with
      | .nx σ st => forL t b xs σ st
      | .cnt σ st => forL t b xs σ st
      | .brk σ st => .nx σ st
      | o => o
theorem forRun_seq (t : IT) (b : EnvD → Store → OutS) (xs : List D) : ∀ (n i : Nat) (σ : EnvD) (st : Store), xs.length < n + i → i ≤ xs.length → forRun t b (.seq xs) n i σ st = forL t b (xs.drop i) σ st
  | 0, i, σ, st, h, h2 => by omega
  | n + 1, i, σ, st, h, h2 => by
    rw [forRun]
    simp only [nextD]
    by_cases hi : i < xs.length
    · rw [List.getElem?_eq_getElem hi, List.drop_eq_getElem_cons hi, forL]
      simp only
      cases asgT st t xs[i] σ with
      | none => rfl
      | some σ2 =>
        simp only
        cases b σ2 st with
        | nx σ3 st3 => exact forRun_seq t b xs n (i + 1) σ3 st3 (by omega) (by omega)
        | cnt σ3 st3 => exact forRun_seq t b xs n (i + 1) σ3 st3 (by omega) (by omega)
        | brk _ _ => rfl
        | ret _ _ => rfl
        | raise _ _ _ => rfl
        | stuck => rfl
    · rw [List.getElem?_eq_none (by omega), List.drop_eq_nil_of_le (by omega), forL]
theorem forRun_all (t : IT) (b : EnvD → Store → OutS) (xs : List D) (σ : EnvD) (st : Store) (h : xs.length < fuelD) : forRun t b (.seq xs) fuelD 0 σ st = forL t b xs σ st := by
  rw [forRun_seq t b xs fuelD 0 σ st (by omega) (Nat.zero_le _), List.drop_zero]
/-- a comprehension over items that stand -/
def compL (g : D → Store → Out (Option D)) : List D → List D → Store → Out (List D)
  | [], acc, st => .ok acc st
  | x :: xs, acc, st => (g x st).bind fun r st1 => match r with
    | some y => if acc.length < 1000000 then compL g xs (acc ++ [y]) st1 else .stuck
    | none => compL g xs acc st1
theorem compRun_seq (g : D → Store → Out (Option D)) (xs : List D) : ∀ (n i : Nat) (acc : List D) (st : Store), xs.length < n + i → i ≤ xs.length → compRun g (.seq xs) n i acc st = compL g (xs.drop i) acc st
  | 0, i, acc, st, h, h2 => by omega
  | n + 1, i, acc, st, h, h2 => by
    rw [compRun]
    simp only [nextD]
    by_cases hi : i < xs.length
    · rw [List.getElem?_eq_getElem hi, List.drop_eq_getElem_cons hi, compL]
      simp only
      congr 1
      funext r st1
      cases r with
      | none => exact compRun_seq g xs n (i + 1) acc st1 (by omega) (by omega)
      | some y =>
        simp only
        split
        · exact compRun_seq g xs n (i + 1) _ st1 (by omega) (by omega)
        · rfl
    · rw [List.getElem?_eq_none (by omega), List.drop_eq_nil_of_le (by omega), compL]
theorem compRun_all (g : D → Store → Out (Option D)) (xs : List D) (st : Store) (h : xs.length < fuelD) : compRun g (.seq xs) fuelD 0 [] st = compL g xs [] st := by
  rw [compRun_seq g xs fuelD 0 [] st (by omega) (Nat.zero_le _), List.drop_zero]
/-- the loops, over items that stand -/
theorem exec_range {xm : Nat → Nat → Bool} {t : IT} {es : IEs} {b : ISs} {σ : EnvD} {st st1 : Store} {ds xs : List D} (h : evs es σ st = .ok ds st1) (hr : rangeD ds = some xs) (hl : xs.length < fuelD) :
    exec xm (.for t (.range es) b) σ st = forL t (execs xm b) xs σ st1 := by
  rw [exec, evi, h, Out.bind, hr, Option.map_some, ofO, Out.andS]
  exact forRun_all _ _ _ _ _ hl
theorem exec_items {xm : Nat → Nat → Bool} {t : IT} {e : IE} {b : ISs} {σ : EnvD} {st st1 : Store} {d : D} {xs : List D} (h : ev e σ st = .ok d st1) (hr : itemsD st1 d = some (.seq xs)) (hl : xs.length < fuelD) :
    exec xm (.for t (.val e) b) σ st = forL t (execs xm b) xs σ st1 := by
  rw [exec, evi, h, Out.bind, hr, ofO, Out.andS]
  exact forRun_all _ _ _ _ _ hl
end Ip
set_option Elab.async false
set_option linter.all false
set_option maxRecDepth 100000
set_option maxHeartbeats 1000000
/-! Plain laws: each equation by its name; loops, comprehensions, stores. -/
namespace Ip
open PySem (Str)

/-! ### terms -/
section
variable (σ : EnvD) (st : Store)
theorem ev_con (d : D) : ev (.con d) σ st = .ok d st := by rw [ev]
theorem ev_glob (x : Nat) (d : D) : ev (.glob x d) σ st = .ok d st := by rw [ev]
theorem ev_var (i : Nat) : ev (.var i) σ st = (match σ[i]? with
    | some (some d) => .ok d st
    | _ => .stuck) := by first | (rw [ev]; done) | (rw [ev]; rfl)
theorem ev_bin (o : BO) (a b : IE) : ev (.bin o a b) σ st = (ev a σ st).bind fun x st => (ev b σ st).bind fun y st => ofO (binD o st x y) st := by rw [ev]
theorem ev_un (o : UO) (a : IE) : ev (.un o a) σ st = (ev a σ st).bind fun x st => ofO (unD o x) st := by rw [ev]
theorem ev_cmp (o : CO) (a b : IE) : ev (.cmp o a b) σ st = (ev a σ st).bind fun x st => (ev b σ st).bind fun y st => ofO ((cmpD o st x y).map .bl) st := by rw [ev]
theorem ev_chain (o1 o2 : CO) (a b c : IE) : ev (.chain o1 o2 a b c) σ st = (ev a σ st).bind fun x st => (ev b σ st).bind fun y st => (ofO (cmpD o1 st x y) st).bind fun k st =>
      if k = true then (ev c σ st).bind fun z st => ofO ((cmpD o2 st y z).map .bl) st else .ok (.bl false) st := by rw [ev]
theorem ev_and (a b : IE) : ev (.and a b) σ st = (ev a σ st).bind fun x st => (ofO (truD st x) st).bind fun k st => if k = true then ev b σ st else .ok x st := by rw [ev]
theorem ev_or (a b : IE) : ev (.or a b) σ st = (ev a σ st).bind fun x st => (ofO (truD st x) st).bind fun k st => if k = true then .ok x st else ev b σ st := by rw [ev]
theorem ev_not (a : IE) : ev (.not a) σ st = (ev a σ st).bind fun x st => (ofO (truD st x) st).bind fun k st => .ok (.bl (!k)) st := by rw [ev]
theorem ev_ife (c a b : IE) : ev (.ife c a b) σ st = (ev c σ st).bind fun x st => (ofO (truD st x) st).bind fun k st => if k = true then ev a σ st else ev b σ st := by rw [ev]
theorem ev_tup (es : IEs) : ev (.tup es) σ st = (evs es σ st).bind fun xs st => if szOk xs.length then .ok (.tup xs) st else .stuck := by rw [ev]
theorem ev_lst (t : Bool) (es : IEs) : ev (.lst t es) σ st = (evs es σ st).bind fun xs st => if szOk xs.length then newLst t xs st else .stuck := by rw [ev]
theorem ev_sub (a b : IE) : ev (.sub a b) σ st = (ev a σ st).bind fun x st => (ev b σ st).bind fun y st => ofO (subD st x y) st := by rw [ev]
theorem ev_slice (a lo hi : IE) : ev (.slice a lo hi) σ st = (ev a σ st).bind fun x st => (evo lo σ st).bind fun i st => (evo hi σ st).bind fun j st => ofO (sliceD st x i j) st := by rw [ev]
def revD (st : Store) : D → Option D
  | .lst xs => some (.lst xs.reverse)
  | .ref n => match st[n]? with
    | some (.lst xs) => some (.lst xs.reverse)
    | _ => none
  | _ => none
theorem ev_rev (a : IE) : ev (.rev a) σ st = (ev a σ st).bind fun x st => ofO (revD st x) st := by
  rw [ev]
  congr 1
  funext x st
  cases x <;> try rfl
  rename_i n
  simp only [revD]
  rcases st[n]? with _ | c
  · rfl
  · cases c <;> rfl
theorem ev_dct0 : ev .dct0 σ st = .ok (.dct [] []) st := by rw [ev]
theorem ev_call (f : Nat) (dv : List D) (sm : Fn) (es : IEs) : ev (.call f dv sm es) σ st = (evs es σ st).bind fun xs st => sm (xs ++ dv) st := by rw [ev]
theorem ev_blt (b : Blt) (es : IEs) : ev (.blt b es) σ st = (evs es σ st).bind fun xs st => ofO (bltD b st xs) st := by rw [ev]
theorem ev_isi (t : Ty) (e : IE) : ev (.isi t e) σ st = (ev e σ st).bind fun x st => ofO ((isiD t x).map .bl) st := by rw [ev]
def mthO (m : Mth) (st : Store) (x : D) (xs : List D) : Out D := match mthD m st x xs with
    | some (d, st) => .ok d st
    | none => .stuck
theorem ev_mth (m : Mth) (o : IE) (es : IEs) : ev (.mth m o es) σ st = (ev o σ st).bind fun x st => if isLst st x = true then (evs es σ st).bind fun xs st => mthO m st x xs else .stuck := by rw [ev]; rfl
def compG (own : List Nat) (tg : IT) (cond elt : IE) (σ : EnvD) (x : D) (st : Store) : Out (Option D) := match asgT st tg x (wipeD σ own) with
        | none => .stuck
        | some σ' => noRaise ((ev cond σ' st).bind fun c st => (ofO (truD st c) st).bind fun k st => if k = true then (ev elt σ' st).bind fun y st => .ok (some y) st else .ok none st)
def compB (cond elt : IE) (σ : EnvD) (st : Store) : Out (Option D) := (ev cond σ st).bind fun c st => (ofO (truD st c) st).bind fun k st => if k = true then (ev elt σ st).bind fun y st => .ok (some y) st else .ok none st
theorem compG_nm (own : List Nat) (i : Nat) (cond elt : IE) (σ : EnvD) (x : D) (st : Store) : compG own (.nm i) cond elt σ x st = noRaise (compB cond elt ((wipeD σ own).set i (some x)) st) := rfl
def compO (cond elt : IE) (o : Option EnvD) (st : Store) : Out (Option D) := match o with
  | some σ => noRaise (compB cond elt σ st)
  | none => .stuck
theorem compO_some (cond elt : IE) (σ : EnvD) (st : Store) : compO cond elt (some σ) st = noRaise (compB cond elt σ st) := rfl
theorem compG_tp (own is : List Nat) (cond elt : IE) (σ : EnvD) (xs : List D) (st : Store) : compG own (.tp is) cond elt σ (.tup xs) st = compO cond elt (setAll is xs (wipeD σ own)) st := by
  unfold compG compO
  rw [show asgT st (.tp is) (.tup xs) (wipeD σ own) = setAll is xs (wipeD σ own) from rfl]
  cases setAll is xs (wipeD σ own) <;> rfl
theorem noR_ok {α : Type} (a : α) (st : Store) : noRaise (.ok a st) = .ok a st := rfl
theorem wipe_nil (σ : EnvD) : wipeD σ [] = σ := rfl
theorem wipe_cons (σ : EnvD) (v : Nat) (vs : List Nat) : wipeD σ (v :: vs) = (wipeD σ vs).set v none := rfl
theorem ev_comp (t : Bool) (own : List Nat) (it : IIt) (tg : IT) (cond elt : IE) : ev (.comp t own it tg cond elt) σ st = (evi it σ st).bind fun its st =>
      (compRun (compG own tg cond elt σ) its fuelD 0 [] st).bind fun ys st => newLst t ys st := by rw [ev]; rfl
def fzO (st : Store) (x : D) : Out D := match freeze st x with
    | some (d, st) => .ok d st
    | none => .stuck
theorem ev_fz (e : IE) : ev (.fz e) σ st = (ev e σ st).bind fun x st => fzO st x := by rw [ev]; rfl
theorem evs_nil : evs .nil σ st = .ok [] st := by rw [evs]
theorem evs_cons (e : IE) (es : IEs) : evs (.cons e es) σ st = (ev e σ st).bind fun x st => (evs es σ st).bind fun xs st => .ok (x :: xs) st := by rw [evs]
theorem evi_val (e : IE) : evi (.val e) σ st = (ev e σ st).bind fun x st => ofO (itemsD st x) st := by rw [evi]
theorem evi_range (es : IEs) : evi (.range es) σ st = (evs es σ st).bind fun xs st => ofO ((rangeD xs).map .seq) st := by rw [evi]
def evoK (x : D) (st : Store) : Out (Option Int) := match x with
    | .int i => .ok (some i) st
    | _ => .stuck
theorem evo_var (i : Nat) : evo (.var i) σ st = (ev (.var i) σ st).bind evoK := by rw [evo]; rfl; intro h; cases h
theorem evo_con (d : D) : evo (.con d) σ st = (ev (.con d) σ st).bind evoK := by rw [evo]; rfl; intro h; cases h
theorem evo_bin (o : BO) (a b : IE) : evo (.bin o a b) σ st = (ev (.bin o a b) σ st).bind evoK := by rw [evo]; rfl; intro h; cases h
theorem evo_un (o : UO) (a : IE) : evo (.un o a) σ st = (ev (.un o a) σ st).bind evoK := by rw [evo]; rfl; intro h; cases h
theorem evo_no : evo .no σ st = .ok none st := by rw [evo]
/-! ### statements -/
variable (xm : Nat → Nat → Bool)
theorem ex_pass : exec xm .pass σ st = .nx σ st := by rw [exec]
theorem ex_brk : exec xm .brk σ st = .brk σ st := by rw [exec]
theorem ex_cnt : exec xm .cnt σ st = .cnt σ st := by rw [exec]
theorem ex_doc (s : Str) : exec xm (.doc s) σ st = .nx σ st := by rw [exec]
theorem ex_expr (e : IE) : exec xm (.expr e) σ st = (ev e σ st).andS σ fun _ st => .nx σ st := by rw [exec]
theorem ex_ret (e : IE) : exec xm (.ret e) σ st = (ev e σ st).andS σ fun d st => .ret d st := by rw [exec]
theorem ex_retN : exec xm .retN σ st = .ret .non st := by rw [exec]
def nxO (o : Option EnvD) (st : Store) : OutS := match o with
    | some σ => .nx σ st
    | none => .stuck
theorem ex_asg (t : IT) (e : IE) : exec xm (.asg t e) σ st = (ev e σ st).andS σ fun d st => nxO (asgT st t d σ) st := by rw [exec]; rfl
theorem ex_par (is : List Nat) (es : IEs) : exec xm (.par is es) σ st = (evs es σ st).andS σ fun ds st => nxO (setAll is.reverse ds.reverse σ) st := by rw [exec]; rfl
def nxS (σ : EnvD) (o : Option Store) : OutS := match o with
    | some st => .nx σ st
    | none => .stuck
theorem ex_setI (o i v : IE) : exec xm (.setI o i v) σ st = (ev v σ st).andS σ fun d st => (ev o σ st).andS σ fun x st => (ev i σ st).andS σ fun y st => nxS σ (setD st x y d) := by rw [exec]; rfl
theorem ex_aug (i : Nat) (o : BO) (e : IE) : exec xm (.aug i o e) σ st = (match σ[i]? with
    | some (some a) => (ev e σ st).andS σ fun b st => nxO ((augD o a b).map fun d => σ.set i (some d)) st
    | _ => .stuck) := by
  rw [exec]
  rcases σ[i]? with _ | (_ | a)
  · rfl
  · rfl
  · show (ev e σ st).andS σ _ = (ev e σ st).andS σ _
    congr 1
    funext b st
    cases augD o a b <;> rfl
theorem ex_ite (c : IE) (a b : ISs) : exec xm (.ite c a b) σ st = (evt c σ st).andS σ fun k st => if k = true then execs xm a σ st else execs xm b σ st := by rw [exec]
theorem ex_whl (n : Nat) (c : IE) (b : ISs) : exec xm (.whl n c b) σ st = whlRun (evt c) (execs xm b) n σ st := by rw [exec]
theorem ex_for (t : IT) (it : IIt) (b : ISs) : exec xm (.for t it b) σ st = (evi it σ st).andS σ fun its st => forRun t (execs xm b) its fuelD 0 σ st := by rw [exec]
def raiseO (mk : MkF) (ds : List D) (σ : EnvD) (st : Store) : OutS := match mk ds st with
    | some x => .raise x σ st
    | none => .stuck
theorem ex_raise (k : Nat) (mk : MkF) (es : IEs) : exec xm (.raise k mk es) σ st = (evs es σ st).andS σ fun ds st => raiseO mk ds σ st := by rw [exec]; rfl
def tryO (xm : Nat → Nat → Bool) (hs : List Hd) (o : OutS) : OutS := match o with
    | .raise x σ st => handle xm x σ st hs
    | o => o
theorem ex_try (b : ISs) (hs : List Hd) : exec xm (.try b hs) σ st = tryO xm hs (execs xm b σ st) := by
  rw [exec]
  cases execs xm b σ st <;> rfl
theorem exs_nil : execs xm .nil σ st = .nx σ st := by rw [execs]
theorem exs_cons (s : IS) (ss : ISs) : execs xm (.cons s ss) σ st = (exec xm s σ st).seq (execs xm ss) := by rw [execs]
theorem evt_eq (e : IE) : evt e σ st = (ev e σ st).bind fun x st => ofO (truD st x) st := rfl
end
theorem bnd_ok {α β : Type} (a : α) (st : Store) (f : α → Store → Out β) : (Out.ok a st).bind f = f a st := rfl
theorem bnd_raise {α β : Type} (x : Ex) (st : Store) (f : α → Store → Out β) : (Out.raise x st).bind f = .raise x st := rfl
theorem andS_ok {α : Type} (a : α) (st : Store) (σ : EnvD) (f : α → Store → OutS) : (Out.ok a st).andS σ f = f a st := rfl
theorem andS_raise {α : Type} (x : Ex) (st : Store) (σ : EnvD) (f : α → Store → OutS) : (Out.raise x st).andS σ f = .raise x σ st := rfl
theorem seq_nx (σ : EnvD) (st : Store) (f : EnvD → Store → OutS) : (OutS.nx σ st).seq f = f σ st := rfl
theorem seq_ret (d : D) (st : Store) (f : EnvD → Store → OutS) : (OutS.ret d st).seq f = .ret d st := rfl
theorem seq_raise (x : Ex) (σ : EnvD) (st : Store) (f : EnvD → Store → OutS) : (OutS.raise x σ st).seq f = .raise x σ st := rfl
theorem seq_brk (σ : EnvD) (st : Store) (f : EnvD → Store → OutS) : (OutS.brk σ st).seq f = .brk σ st := rfl
theorem seq_cnt (σ : EnvD) (st : Store) (f : EnvD → Store → OutS) : (OutS.cnt σ st).seq f = .cnt σ st := rfl
theorem try_raise (xm : Nat → Nat → Bool) (hs : List Hd) (x : Ex) (σ : EnvD) (st : Store) : tryO xm hs (.raise x σ st) = handle xm x σ st hs := rfl
theorem try_ret (xm : Nat → Nat → Bool) (hs : List Hd) (d : D) (st : Store) : tryO xm hs (.ret d st) = .ret d st := rfl
theorem try_nx (xm : Nat → Nat → Bool) (hs : List Hd) (σ : EnvD) (st : Store) : tryO xm hs (.nx σ st) = .nx σ st := rfl
theorem ofO_some {α : Type} (a : α) (st : Store) : ofO (some a) st = .ok a st := rfl
theorem nxO_some (σ : EnvD) (st : Store) : nxO (some σ) st = .nx σ st := rfl
theorem nxS_some (σ : EnvD) (st : Store) : nxS σ (some st) = .nx σ st := rfl
theorem asgT_nm (st : Store) (i : Nat) (d : D) (σ : EnvD) : asgT st (.nm i) d σ = some (σ.set i (some d)) := rfl
theorem asgT_tp (st : Store) (is : List Nat) (ds : List D) (σ : EnvD) : asgT st (.tp is) (.tup ds) σ = setAll is ds σ := rfl
theorem setAll_nil (σ : EnvD) : setAll [] [] σ = some σ := rfl
theorem setAll_cons (i : Nat) (is : List Nat) (d : D) (ds : List D) (σ : EnvD) : setAll (i :: is) (d :: ds) σ = setAll is ds (σ.set i (some d)) := rfl
/-! ### operations -/
section
variable (st : Store)
theorem tru_bl (b : Bool) : truD st (.bl b) = some b := rfl
theorem tru_int (i : Int) : truD st (.int i) = some (i != 0) := rfl
theorem tru_non : truD st .non = some false := rfl
theorem tru_lst (xs : List D) : truD st (.lst xs) = some !xs.isEmpty := rfl
theorem tru_tup (xs : List D) : truD st (.tup xs) = some !xs.isEmpty := rfl
theorem add_int (i j : Int) : binD .add st (.int i) (.int j) = some (.int (i + j)) := rfl
theorem sub_int (i j : Int) : binD .sub st (.int i) (.int j) = some (.int (i - j)) := rfl
theorem mul_int (i j : Int) : binD .mul st (.int i) (.int j) = if mulOk i j then some (.int (i * j)) else none := rfl
theorem fdiv_int (i j : Int) : binD .fdiv st (.int i) (.int j) = if divOk j then some (.int (i.fdiv j)) else none := rfl
theorem mod_int (i j : Int) : binD .mod st (.int i) (.int j) = if j ≠ 0 then some (.int (i.fmod j)) else none := rfl
theorem pow_int (i j : Int) : binD .pow st (.int i) (.int j) = if powOk i j then some (.int (i ^ j.toNat)) else none := rfl
theorem neg_int (i : Int) : unD .neg (.int i) = some (.int (-i)) := rfl
theorem lt_int (i j : Int) : cmpD .lt st (.int i) (.int j) = some (decide (i < j)) := rfl
theorem le_int (i j : Int) : cmpD .le st (.int i) (.int j) = some (decide (i ≤ j)) := rfl
theorem gt_int (i j : Int) : cmpD .gt st (.int i) (.int j) = some (decide (j < i)) := rfl
theorem ge_int (i j : Int) : cmpD .ge st (.int i) (.int j) = some (decide (j ≤ i)) := rfl
theorem eq_int (i j : Int) : cmpD .eq st (.int i) (.int j) = some (i == j) := rfl
theorem ne_int (i j : Int) : cmpD .ne st (.int i) (.int j) = some (!(i == j)) := rfl
theorem eq_str (x y : Str) : cmpD .eq st (.str x) (.str y) = some (x == y) := rfl
theorem ne_str (x y : Str) : cmpD .ne st (.str x) (.str y) = some (!(x == y)) := rfl
theorem is_bl (a b : Bool) : cmpD .is st (.bl a) (.bl b) = some (decide (a = b)) := rfl
theorem isnot_bl (a b : Bool) : cmpD .isnot st (.bl a) (.bl b) = some (!decide (a = b)) := rfl
theorem abs_int (i : Int) : bltD .abs st [.int i] = some (.int (i.natAbs : Int)) := by
  unfold bltD
  simp only [Option.some.injEq, D.int.injEq]
  split <;> omega
theorem int_int (i : Int) : bltD .int st [.int i] = some (.int i) := rfl
theorem int_bl (k : Bool) : bltD .int st [.bl k] = some (.int (if k then 1 else 0)) := rfl
theorem bool_bl (k : Bool) : bltD .bool st [.bl k] = some (.bl k) := rfl
theorem max_int (i j : Int) : bltD .max st [.int i, .int j] = some (.int (max i j)) := by
  unfold bltD
  simp only [Option.some.injEq, D.int.injEq]
  split <;> omega
theorem min_int (i j : Int) : bltD .min st [.int i, .int j] = some (.int (min i j)) := by
  unfold bltD
  simp only [Option.some.injEq, D.int.injEq]
  split <;> omega
theorem gcd_int (i j : Int) : bltD .gcd st [.int i, .int j] = some (.int ((Nat.gcd i.natAbs j.natAbs : Nat) : Int)) := rfl
theorem len_lst (xs : List D) : bltD .len st [.lst xs] = some (.int (xs.length : Int)) := rfl
theorem len_tup (xs : List D) : bltD .len st [.tup xs] = some (.int (xs.length : Int)) := rfl
theorem tuple_lst (xs : List D) : bltD .tuple st [.lst xs] = some (.tup xs) := rfl
theorem sum_lst (xs : List D) : bltD .sum st [.lst xs] = (intsOf xs).map fun ns => .int ns.sum := rfl
theorem sub_lst (xs : List D) (i : Int) : subD st (.lst xs) (.int i) = L2.atI xs i := rfl
theorem sub_tup (xs : List D) (i : Int) : subD st (.tup xs) (.int i) = L2.atI xs i := rfl
theorem items_lst (xs : List D) : itemsD st (.lst xs) = some (.seq xs) := rfl
theorem items_tup (xs : List D) : itemsD st (.tup xs) = some (.seq xs) := rfl
theorem rev_lst (xs : List D) : revD st (.lst xs) = some (.lst xs.reverse) := rfl
theorem newLst_f (xs : List D) : newLst false xs st = .ok (.lst xs) st := rfl
theorem newLst_t (xs : List D) : newLst true xs st = .ok (.ref st.length) (st ++ [.lst xs]) := rfl
theorem add_lst (xs ys : List D) : binD .add st (.lst xs) (.lst ys) = if szOk (xs.length + ys.length) then some (.lst (xs ++ ys)) else none := rfl
theorem add_tup (xs ys : List D) : binD .add st (.tup xs) (.tup ys) = if szOk (xs.length + ys.length) then some (.tup (xs ++ ys)) else none := rfl
theorem add_str (x y : Str) : binD .add st (.str x) (.str y) = if szOk (x.length + y.length) then some (.str (x ++ y)) else none := rfl
end
theorem evoK_int (i : Int) (st : Store) : evoK (.int i) st = .ok (some i) st := rfl
theorem slice_lst (st : Store) (xs : List D) (lo hi : Option Int) : sliceD st (.lst xs) lo hi = some (.lst (cutD xs lo hi)) := rfl
theorem slice_tup (st : Store) (xs : List D) (lo hi : Option Int) : sliceD st (.tup xs) lo hi = some (.tup (cutD xs lo hi)) := rfl
theorem pow_at {i j c : Int} (h : powOk i j = true) (e : i ^ j.toNat = c) (st : Store) : binD .pow st (.int i) (.int j) = some (.int c) := by rw [pow_int, if_pos h, e]
theorem mem_cut {α : Type} {xs : List α} {lo hi : Option Int} {x : α} (h : x ∈ cutD xs lo hi) : x ∈ xs := by
  unfold cutD at h
  exact List.mem_of_mem_drop (List.mem_of_mem_take h)
theorem int_beq (i j : Int) : (i == j) = decide (i = j) := by
  by_cases h : i = j <;> simp [h]
theorem ixN_nat {n i : Nat} (h : i < n) : L2.ixN n (i : Int) = some i := by
  unfold L2.ixN
  rw [if_pos (by omega), if_pos (by omega)]; simp
theorem atI_nat {α : Type} (xs : List α) (i : Nat) : L2.atI xs (i : Int) = xs[i]? := by
  unfold L2.atI
  by_cases h : i < xs.length
  · rw [ixN_nat h]; rfl
  · unfold L2.ixN
    rw [if_pos (by omega), if_neg (by omega), List.getElem?_eq_none (by omega)]; rfl
/-! ### ints: sizes -/
theorem log2_le' {n k : Nat} (h : n < 2 ^ k) (hk : 0 < k) : n.log2 < k := by
  by_cases h0 : n = 0
  · subst h0; simpa using hk
  · exact (Nat.log2_lt h0).mpr h
theorem mul_ok {i j : Int} (a b : Nat) (ha : i.natAbs < 2 ^ a) (hb : j.natAbs < 2 ^ b) (h0 : 0 < a) (h1 : 0 < b) (h : a + b ≤ 1000000) : mulOk i j = true := by
  unfold mulOk
  have := log2_le' ha h0
  have := log2_le' hb h1
  exact decide_eq_true (by omega)
theorem div_ok {j : Int} (b : Nat) (h : j ≠ 0) (hb : j.natAbs < 2 ^ b) (h0 : 0 < b) (h9 : b ≤ 9000) : divOk j = true := by
  unfold divOk
  have := log2_le' hb h0
  exact decide_eq_true ⟨h, by omega⟩
/-! ### a call -/
def endO (st : Store) (o : OutS) : Out D := match o with
  | .nx _ st' => .ok .non (closeSt st st')
  | .ret d st' => if noRef d = true then .ok d (closeSt st st') else .ok d st'
  | .raise x _ st' => if noRefs x.vs = true then .raise x (closeSt st st') else .raise x st'
  | _ => .stuck
theorem callD_eq (xm : Nat → Nat → Bool) (np n : Nat) (b : ISs) (ds : List D) (st : Store) (h : ds.length = np) : callD xm np n b ds st = endO st (execs xm b (ds.map some ++ List.replicate n none) st) := by
  unfold callD
  rw [if_pos h]
  cases execs xm b (ds.map some ++ List.replicate n none) st <;> rfl
theorem end_nx (σ : EnvD) (st st' : Store) : endO st (.nx σ st') = .ok .non (closeSt st st') := rfl
theorem end_ret {d : D} {st st' : Store} (h : noRef d = true) : endO st (.ret d st') = .ok d (closeSt st st') := if_pos h
theorem end_ref {d : D} {st st' : Store} (h : noRef d = false) : endO st (.ret d st') = .ok d st' := if_neg (by rw [h]; decide)
theorem end_raise {x : Ex} {σ : EnvD} {st st' : Store} (h : noRefs x.vs = true) : endO st (.raise x σ st') = .raise x (closeSt st st') := if_pos h
/-! ### loops -/
theorem forL_inv {t : IT} {b : EnvD → Store → OutS} (I : Nat → EnvD → Store → Prop) (xs : List D)
    (turn : ∀ (i : Nat) (x : D) (σ : EnvD) (st : Store), xs[i]? = some x → I i σ st → ∃ σ1, asgT st t x σ = some σ1 ∧ ((∃ σ2 st2, b σ1 st = .nx σ2 st2 ∧ I (i + 1) σ2 st2) ∨ (∃ σ2 st2, b σ1 st = .cnt σ2 st2 ∧ I (i + 1) σ2 st2))) :
    ∀ (σ : EnvD) (st : Store), I 0 σ st → ∃ σ' st', forL t b xs σ st = .nx σ' st' ∧ I xs.length σ' st' := by
  have key : ∀ (ys : List D) (i : Nat) (σ : EnvD) (st : Store), ys = xs.drop i → I i σ st → ∃ σ' st', forL t b ys σ st = .nx σ' st' ∧ I (i + ys.length) σ' st' := by
    intro ys
    induction ys with
    | nil => intro i σ st _ h; exact ⟨σ, st, rfl, h⟩
    | cons y ys ih =>
      intro i σ st e h
      have hi : xs[i]? = some y := by
        have := congrArg (fun l => l[0]?) e
        simpa using this.symm
      have e2 : ys = xs.drop (i + 1) := by
        have := congrArg List.tail e
        simpa [List.tail_drop] using this
      obtain ⟨σ1, h1, h2⟩ := turn i y σ st hi h
      rw [forL]
      simp only [h1]
      have el : i + (y :: ys).length = i + 1 + ys.length := by simp; omega
      rw [el]
      rcases h2 with ⟨σ2, st2, h3, h4⟩ | ⟨σ2, st2, h3, h4⟩ <;> simp only [h3] <;> exact ih (i + 1) σ2 st2 e2 h4
  intro σ st h
  have := key xs 0 σ st (by simp) h
  simpa using this
/-- a while by a number that falls -/
theorem whl_inv {c : EnvD → Store → Out Bool} {b : EnvD → Store → OutS} (I : EnvD → Store → Prop) (m : EnvD → Store → Nat) (Q : EnvD → Store → Prop)
    (turn : ∀ σ st, I σ st → (∃ st1, c σ st = .ok false st1 ∧ Q σ st1) ∨ (∃ st1 σ2 st2, c σ st = .ok true st1 ∧ b σ st1 = .nx σ2 st2 ∧ I σ2 st2 ∧ m σ2 st2 < m σ st)) :
    ∀ (n : Nat) (σ : EnvD) (st : Store), m σ st < n → I σ st → ∃ σ' st', whlRun c b n σ st = .nx σ' st' ∧ Q σ' st' := by
  intro n
  induction n with
  | zero => intro σ st h; omega
  | succ n ih =>
    intro σ st hn h
    rw [whlRun]
    rcases turn σ st h with ⟨st1, h1, h2⟩ | ⟨st1, σ2, st2, h1, h2, h3, h4⟩
    · refine ⟨σ, st1, ?_, h2⟩
      simp [h1, Out.andS]
    · obtain ⟨σ', st', h5, h6⟩ := ih σ2 st2 (by omega) h3
      refine ⟨σ', st', ?_, h6⟩
      simp [h1, h2, Out.andS, h5]
/-! ### comprehensions -/
theorem compL_map {g : D → Store → Out (Option D)} {st : Store} (f : D → D) : ∀ (xs acc : List D), (∀ x ∈ xs, g x st = .ok (some (f x)) st) → acc.length + xs.length ≤ 1000000 → compL g xs acc st = .ok (acc ++ xs.map f) st
  | [], acc, _, _ => by simp [compL]
  | x :: xs, acc, h, hl => by
    rw [compL, h x (by simp)]
    simp only [Out.bind]
    simp at hl
    rw [if_pos (by omega), compL_map f xs _ (fun y hy => h y (by simp [hy])) (by simp; omega)]
    simp
theorem compL_filterMap {g : D → Store → Out (Option D)} {st : Store} (f : D → Option D) : ∀ (xs acc : List D), (∀ x ∈ xs, g x st = .ok (f x) st) → acc.length + xs.length ≤ 1000000 → compL g xs acc st = .ok (acc ++ xs.filterMap f) st
  | [], acc, _, _ => by simp [compL]
  | x :: xs, acc, h, hl => by
    rw [compL, h x (by simp)]
    simp only [Out.bind]
    simp at hl
    cases hf : f x with
    | none =>
      simp only []
      rw [compL_filterMap f xs _ (fun y hy => h y (by simp [hy])) (by omega)]
      simp [hf]
    | some y =>
      simp only []
      rw [if_pos (by omega), compL_filterMap f xs _ (fun y hy => h y (by simp [hy])) (by simp; omega)]
      simp [hf]
theorem comp_map {g : D → Store → Out (Option D)} {st : Store} (f : D → D) (xs : List D) (h : ∀ x ∈ xs, g x st = .ok (some (f x)) st) (hl : xs.length ≤ 1000000) : compRun g (.seq xs) fuelD 0 [] st = .ok (xs.map f) st := by
  rw [compRun_all _ _ _ (by unfold fuelD; omega), compL_map f xs [] h (by simpa using hl)]; simp
theorem comp_filterMap {g : D → Store → Out (Option D)} {st : Store} (f : D → Option D) (xs : List D) (h : ∀ x ∈ xs, g x st = .ok (f x) st) (hl : xs.length ≤ 1000000) : compRun g (.seq xs) fuelD 0 [] st = .ok (xs.filterMap f) st := by
  rw [compRun_all _ _ _ (by unfold fuelD; omega), compL_filterMap f xs [] h (by simpa using hl)]; simp
/-! ### stores -/
theorem isLst_at {st : Store} {n : Nat} {zs : List D} (h : st[n]? = some (.lst zs)) : isLst st (.ref n) = true := by simp [isLst, h]
theorem append_at {st : Store} {n : Nat} {zs : List D} (h : st[n]? = some (.lst zs)) (hl : zs.length < 1000000) (y : D) : mthO .append st (.ref n) [y] = .ok .non (st.set n (.lst (zs ++ [y]))) := by
  simp [mthO, mthD, h, hl]
theorem tuple_at {st : Store} {n : Nat} {zs : List D} (h : st[n]? = some (.lst zs)) : bltD .tuple st [.ref n] = some (.tup zs) := by simp [bltD, seqOf, h]
theorem rev_at {st : Store} {n : Nat} {zs : List D} (h : st[n]? = some (.lst zs)) : revD st (.ref n) = some (.lst zs.reverse) := by simp [revD, h]
theorem get_last (st : Store) (l : Store) (i : Nat) : (st ++ l)[st.length + i]? = l[i]? := by
  rw [List.getElem?_append_right (by omega)]
  congr 1; omega
theorem get_last0 (st : Store) (l : Store) : (st ++ l)[st.length]? = l[0]? := get_last st l 0
theorem set_last (st : Store) (l : Store) (i : Nat) (x : Cell) : (st ++ l).set (st.length + i) x = st ++ l.set i x := by
  rw [List.set_append_right _ _ (by omega)]
  congr 2; omega
theorem set_last0 (st : Store) (l : Store) (x : Cell) : (st ++ l).set st.length x = st ++ l.set 0 x := set_last st l 0 x
theorem closeSt_len {st st' : Store} (h : st'.length = st.length) : closeSt st st' = st' := by
  unfold closeSt
  split
  · exact List.take_of_length_le (by omega)
  · rfl
/-- no object is being made -/
def notIns : Cell → Bool
  | .ins _ _ => false
  | _ => true
def Calm (st : Store) : Prop := ∀ c ∈ st, notIns c = true
theorem sameC_refl {c : Cell} (h : notIns c = true) : sameC c c = true := by
  cases c <;> first | rfl | (simp only [sameC]; exact sameDs_refl _) | (simp only [sameC, sameDs_refl, Bool.and_self]; done) | cases h
theorem keepB_of : ∀ {st st' : Store}, st.length ≤ st'.length → (∀ (i : Nat) c d, st[i]? = some c → st'[i]? = some d → (sameC c d || noRefC d) = true) → keepB st st' = true
  | [], _, _, _ => by simp [keepB]
  | c :: cs, [], h, _ => by simp at h
  | c :: cs, d :: ds, h, k => by
    rw [keepB, k 0 c d rfl rfl, keepB_of (by simpa using h) fun i c' d' h1 h2 => k (i + 1) c' d' (by simpa using h1) (by simpa using h2)]
    rfl
theorem closeSt_app {st : Store} (h : Calm st) (l : Store) : closeSt st (st ++ l) = st := by
  unfold closeSt
  rw [if_pos]
  · simp
  · refine keepB_of (by simp) fun i c d h1 h2 => ?_
    have hi : i < st.length := (List.getElem?_eq_some_iff.mp h1).1
    rw [List.getElem?_append_left hi, h1] at h2
    cases h2
    rw [sameC_refl (h c (List.mem_of_getElem? h1))]; rfl
/-- a call that turns one cell into one of ints, and lays some that are let go -/
theorem closeSt_set {st : Store} (h : Calm st) (r : Nat) {x : Cell} (hx : noRefC x = true) (l : Store) : closeSt st (st.set r x ++ l) = st.set r x := by
  unfold closeSt
  rw [if_pos]
  · simp
  · refine keepB_of (by simp) fun i c d h1 h2 => ?_
    have hi : i < st.length := (List.getElem?_eq_some_iff.mp h1).1
    rw [List.getElem?_append_left (by simpa using hi)] at h2
    rw [List.getElem?_set] at h2
    split at h2
    · split at h2
      · cases h2; simp [hx]
      · cases h2
    · rw [h1] at h2
      cases h2
      rw [sameC_refl (h c (List.mem_of_getElem? h1))]; rfl
theorem Calm.set {st : Store} (h : Calm st) (r : Nat) {x : Cell} (hx : notIns x = true) : Calm (st.set r x) := by
  intro c hc
  rcases List.mem_or_eq_of_mem_set hc with h1 | h1
  · exact h c h1
  · subst h1; exact hx
theorem Calm.app {st : Store} (h : Calm st) {x : Cell} (hx : notIns x = true) : Calm (st ++ [x]) := by
  intro c hc
  rcases List.mem_append.mp hc with h1 | h1
  · exact h c h1
  · simp at h1; subst h1; exact hx
theorem Calm.nil : Calm [] := fun c hc => by cases hc
end Ip
set_option Elab.async false
set_option linter.all false
set_option maxRecDepth 100000
set_option maxHeartbeats 1000000
/-! Plain laws: objects, texts, stores: more equations by their names. -/
namespace Ip
open PySem (Str)

section
variable (σ : EnvD) (st : Store)
theorem ev_ext (k : XO) (es : IEs) : ev (.ext k es) σ st = (evs es σ st).bind fun xs st => extD k xs st := by rw [ev]
theorem ev_fstr (ps : List (Option Str)) (es : IEs) : ev (.fstr ps es) σ st = (noRaise (evs es σ st)).bind fun xs st => ofO ((fstrD ps xs "").map .str) st := by rw [ev]
def methO (alts : List (Nat × Alt)) (es : IEs) (σ : EnvD) (x : D) (st : Store) : Out D := match (clsD st x).bind fun c => alts.lookup c with
    | some a => (evs es σ st).bind fun xs st => a.sm (x :: (xs ++ a.dv)) st
    | none => .stuck
theorem ev_meth (alts : List (Nat × Alt)) (o : IE) (es : IEs) : ev (.meth alts o es) σ st = (ev o σ st).bind fun x st => methO alts es σ x st := by rw [ev]; rfl
theorem lookup_self {α : Type} (c : Nat) (a : α) (r : List (Nat × α)) : List.lookup c ((c, a) :: r) = some a := by simp [List.lookup]
theorem lookup_ne {α : Type} {c k : Nat} (h : (c == k) = false) (a : α) (r : List (Nat × α)) : List.lookup c ((k, a) :: r) = List.lookup c r := by simp [List.lookup, h]
theorem meth_obj (c : Nat) (a : Alt) (r : List (Nat × Alt)) (es : IEs) (fs : List D) : methO ((c, a) :: r) es σ (.obj c fs) st = (evs es σ st).bind fun xs st => a.sm (.obj c fs :: (xs ++ a.dv)) st := by
  unfold methO
  simp only [clsD, Option.bind, lookup_self]
theorem fld_obj (c i : Nat) (r : List (Nat × Nat)) (fs : List D) : extD (.fld ((c, i) :: r)) [.obj c fs] st = ofO fs[i]? st := by
  unfold extD
  simp only [fldD, lookup_self, Option.bind]
theorem prop_obj (c : Nat) (a : Alt) (r : List (Nat × Alt)) (fs : List D) : extD (.prop ((c, a) :: r)) [.obj c fs] st = noRaise (a.sm (.obj c fs :: a.dv) st) := by
  unfold extD
  simp only [clsD, lookup_self, Option.bind]
theorem own2_obj (o : BO) (c : Nat) (a : Alt) (fs gs : List D) : extD (.own2 o c a) [.obj c fs, .obj c gs] st = a.sm (.obj c fs :: .obj c gs :: a.dv) st := by
  unfold extD
  simp [isObj]
theorem own2_int (o : BO) (c : Nat) (a : Alt) (fs : List D) (i : Int) : extD (.own2 o c a) [.obj c fs, .int i] st = a.sm (.obj c fs :: .int i :: a.dv) st := by
  unfold extD
  simp [isObj, isIntD]
theorem ownU_obj (o : UO) (c : Nat) (a : Alt) (fs : List D) : extD (.ownU o c a) [.obj c fs] st = a.sm (.obj c fs :: a.dv) st := by
  unfold extD
  simp [isObj]
def eqEnd (o : CO) (r : D) (st : Store) : Out D := match r with
  | .bl b => .ok (.bl (if o = .ne then !b else b)) st
  | _ => .stuck
theorem ownC_obj (o : CO) (c : Nat) (a : Alt) (fs : List D) {y : D} (h : (isCD c y).isSome = true) : extD (.ownC o c a) [.obj c fs, y] st = (a.sm (.obj c fs :: y :: a.dv) st).bind (eqEnd o) := by
  unfold extD
  simp only [isObj, beq_self_eq_true, h, and_self, if_true]
  rfl
theorem ownC_int (o : CO) (c : Nat) (a : Alt) (i j : Int) : extD (.ownC o c a) [.int i, .int j] st = ofO ((cmpD o st (.int i) (.int j)).map .bl) st := rfl
theorem bool_int (i : Int) : bltD .bool st [.int i] = some (.bl (!(i == 0))) := rfl
theorem eqEnd_eq (b : Bool) : eqEnd .eq (.bl b) st = .ok (.bl b) st := rfl
theorem eqEnd_ne (b : Bool) : eqEnd .ne (.bl b) st = .ok (.bl (!b)) st := rfl
theorem isC_obj (c : Nat) (k : Nat) (fs : List D) : extD (.isC c) [.obj k fs] st = .ok (.bl (k == c)) st := rfl
theorem isC_non (c : Nat) : extD (.isC c) [.non] st = .ok (.bl false) st := rfl
theorem isC_bl (c : Nat) (b : Bool) : extD (.isC c) [.bl b] st = .ok (.bl false) st := rfl
theorem isC_int (c : Nat) (i : Int) : extD (.isC c) [.int i] st = .ok (.bl false) st := rfl
theorem isC_str (c : Nat) (x : Str) : extD (.isC c) [.str x] st = .ok (.bl false) st := rfl
theorem isC_tup (c : Nat) (xs : List D) : extD (.isC c) [.tup xs] st = .ok (.bl false) st := rfl
theorem isC_lst (c : Nat) (xs : List D) : extD (.isC c) [.lst xs] st = .ok (.bl false) st := rfl
theorem isC_dct (c : Nat) (xs ys : List D) : extD (.isC c) [.dct xs ys] st = .ok (.bl false) st := rfl
def strEnd (r : D) (st : Store) : Out D := match r with
  | .str x => .ok (.str x) st
  | _ => .stuck
theorem ownB_str (c : Nat) (a : Alt) (fs : List D) : extD (.ownB .str c a) [.obj c fs] st = (noRaise (a.sm (.obj c fs :: a.dv) st)).bind strEnd := by
  unfold extD
  simp only [isObj, beq_self_eq_true, if_true]
  congr 1
  funext r st1
  cases r <;> rfl
theorem strEnd_str (x : Str) : strEnd (.str x) st = .ok (.str x) st := rfl
def blEnd (r : D) (st : Store) : Out D := match r with
  | .bl x => .ok (.bl x) st
  | _ => .stuck
theorem ownB_bool (c : Nat) (a : Alt) (fs : List D) : extD (.ownB .bool c a) [.obj c fs] st = (noRaise (a.sm (.obj c fs :: a.dv) st)).bind blEnd := by
  unfold extD
  simp only [isObj, beq_self_eq_true, if_true]
  congr 1
  funext r st1
  cases r <;> rfl
theorem blEnd_bl (x : Bool) : blEnd (.bl x) st = .ok (.bl x) st := rfl
def mkEnd (n : Nat) (r : D) (st1 : Store) : Out D := match r with
    | .non => match doneD st1 n with
      | some (d, st2) => .ok d st2
      | none => .stuck
    | _ => .stuck
theorem ext_mk (n c : Nat) (a : Alt) (xs : List D) : extD (.mk n c a) xs st = (a.sm (.ref st.length :: (xs ++ a.dv)) (st ++ [.ins c (List.replicate n none)])).bind (mkEnd st.length) := rfl
theorem allSome_map : ∀ fs : List D, allSome (fs.map some) = some fs
  | [] => rfl
  | d :: r => by rw [List.map_cons, allSome, allSome_map r]; rfl
theorem mkEnd_ok (c : Nat) (d : D) (fs : List D) (l : Store) : mkEnd st.length .non (st ++ .ins c ((d :: fs).map some) :: l) = .ok (.obj c (d :: fs)) (st ++ .dead :: l) := by
  unfold mkEnd
  have e : doneD (st ++ .ins c ((d :: fs).map some) :: l) st.length = some (.obj c (d :: fs), st ++ .dead :: l) := by
    unfold doneD
    rw [get_last0]
    simp only [List.getElem?_cons_zero, allSome_map, set_last0, List.set_cons_zero]
  simp only [e]
theorem ex_stk (xm : Nat → Nat → Bool) : exec xm .stk σ st = .stuck := by rw [exec]
theorem ex_setA (xm : Nat → Nat → Bool) (tab : List (Nat × Nat)) (o v : IE) : exec xm (.setA tab o v) σ st = (ev v σ st).andS σ fun d st => (ev o σ st).andS σ fun x st => nxS σ (setAD tab st x d) := by rw [exec]; rfl
theorem setA_last (c i : Nat) (r : List (Nat × Nat)) (fs : List (Option D)) (l : Store) (d : D) : setAD ((c, i) :: r) (st ++ .ins c fs :: l) (.ref st.length) d = if i < fs.length then some (st ++ .ins c (fs.set i (some d)) :: l) else none := by
  simp only [setAD, get_last0, List.getElem?_cons_zero, lookup_self, set_last0, List.set_cons_zero]
theorem mkEnd_1 (c : Nat) (a : D) (l : Store) : mkEnd st.length .non (st ++ .ins c [some a] :: l) = .ok (.obj c [a]) (st ++ .dead :: l) := mkEnd_ok st c a [] l
theorem mkEnd_2 (c : Nat) (a b : D) (l : Store) : mkEnd st.length .non (st ++ .ins c [some a, some b] :: l) = .ok (.obj c [a, b]) (st ++ .dead :: l) := mkEnd_ok st c a [b] l
theorem mkEnd_3 (c : Nat) (a b d : D) (l : Store) : mkEnd st.length .non (st ++ .ins c [some a, some b, some d] :: l) = .ok (.obj c [a, b, d]) (st ++ .dead :: l) := mkEnd_ok st c a [b, d] l
theorem mkEnd_4 (c : Nat) (a b d e : D) (l : Store) : mkEnd st.length .non (st ++ .ins c [some a, some b, some d, some e] :: l) = .ok (.obj c [a, b, d, e]) (st ++ .dead :: l) := mkEnd_ok st c a [b, d, e] l
theorem mkEnd_5 (c : Nat) (a b d e f : D) (l : Store) : mkEnd st.length .non (st ++ .ins c [some a, some b, some d, some e, some f] :: l) = .ok (.obj c [a, b, d, e, f]) (st ++ .dead :: l) := mkEnd_ok st c a [b, d, e, f] l
theorem sameOs_refl : ∀ fs : List (Option D), sameOs fs fs = true
  | [] => rfl
  | none :: r => by rw [sameOs, sameOs_refl r]; rfl
  | some d :: r => by rw [sameOs, sameOs_refl r, sameO, sameD_refl]; rfl
theorem sameC_self (c : Cell) : sameC c c = true := by
  cases c <;> simp only [sameC, sameDs_refl, sameOs_refl, Bool.and_self, beq_self_eq_true]
theorem close_app (l : Store) : closeSt st (st ++ l) = st := by
  unfold closeSt
  rw [if_pos]
  · simp
  · refine keepB_of (by simp) fun i c d h1 h2 => ?_
    have hi : i < st.length := (List.getElem?_eq_some_iff.mp h1).1
    rw [List.getElem?_append_left hi, h1] at h2
    cases h2
    rw [sameC_self]; rfl
/-- an object's variables are set, cells behind it are let go -/
theorem close_ins (c c' : Nat) (fs gs : List (Option D)) (h : gs.all noRefO = true) (l : Store) : closeSt (st ++ [.ins c fs]) (st ++ .ins c' gs :: l) = st ++ [.ins c' gs] := by
  unfold closeSt
  rw [if_pos]
  · rw [show st ++ .ins c' gs :: l = (st ++ [.ins c' gs]) ++ l by simp, List.take_left' (by simp)]
  · refine keepB_of (by simp) fun i x d h1 h2 => ?_
    rw [List.getElem?_append] at h1 h2
    split at h1
    · rename_i hi
      rw [if_pos hi] at h2
      rw [h1] at h2; cases h2
      rw [sameC_self]; rfl
    · rename_i hi
      rw [if_neg hi] at h2
      have : i - st.length = 0 := by
        have := (List.getElem?_eq_some_iff.mp h1).1
        simp at this; omega
      rw [this] at h1 h2
      simp at h1 h2
      subst h2
      simp only [noRefC, h, Bool.or_true]
theorem close_set (r : Nat) {x : Cell} (hx : noRefC x = true) (l : Store) : closeSt st (st.set r x ++ l) = st.set r x := by
  unfold closeSt
  rw [if_pos]
  · simp
  · refine keepB_of (by simp) fun i c d h1 h2 => ?_
    have hi : i < st.length := (List.getElem?_eq_some_iff.mp h1).1
    rw [List.getElem?_append_left (by simpa using hi)] at h2
    rw [List.getElem?_set] at h2
    split at h2
    · split at h2
      · cases h2; simp [hx]
      · cases h2
    · rw [h1] at h2
      cases h2
      rw [sameC_self]; rfl
theorem isi_eq (t : Ty) (x : D) {b : Bool} (h : isiD t x = some b) : (isiD t x).map D.bl = some (.bl b) := by rw [h]; rfl
end
theorem eq_bl (st : Store) (a b : Bool) : cmpD .eq st (.bl a) (.bl b) = some (a == b) := by
  simp [cmpD, pureD, eqD]
theorem ne_bl (st : Store) (a b : Bool) : cmpD .ne st (.bl a) (.bl b) = some (!(a == b)) := by
  simp [cmpD, pureD, eqD]
/-- a suite's first statement, and the others -/
def hd : ISs → IS
  | .cons s _ => s
  | .nil => .pass
def tl : ISs → ISs
  | .cons _ b => b
  | .nil => .nil
theorem exs_hd {xm : Nat → Nat → Bool} {b : ISs} (h : b = .cons (hd b) (tl b)) (σ : EnvD) (st : Store) : execs xm b σ st = (exec xm (hd b) σ st).seq (execs xm (tl b)) := by
  conv => lhs; rw [h]
  rw [execs]
theorem noR_raise {α : Type} (x : Ex) (st : Store) : noRaise (.raise x st : Out α) = .stuck := rfl
theorem raise_at {mk : MkF} {ds : List D} {x : Ex} {st : Store} (h : mk ds st = some x) (σ : EnvD) : raiseO mk ds σ st = .raise x σ st := by unfold raiseO; rw [h]
/-! ### texts of integers -/
def Sgn (x : Str) : Prop := ∀ c ∈ x.cps.toList, c < 16 ^ 8
theorem sgn_of (s : String) : Sgn (Str.ofString s) := by
  intro c hc
  rw [PySem.Str.ofString_eq_toList] at hc
  simp only [List.mem_map] at hc
  obtain ⟨a, _, rfl⟩ := hc
  have h := a.valid
  simp only [UInt32.isValidChar, Nat.isValidChar] at h
  have e : a.toNat = a.val.toNat := rfl
  rw [e]
  omega
theorem sgn_app {x y : Str} (h : Sgn x) (k : Sgn y) : Sgn (x ++ y) := by
  intro c hc
  have e : (x ++ y).cps.toList = x.cps.toList ++ y.cps.toList := by
    show (x.cps ++ y.cps).toList = _
    rw [Array.toList_append]
  rw [e] at hc
  rcases List.mem_append.mp hc with h1 | h1
  · exact h c h1
  · exact k c h1
theorem len_app (x y : Str) : (x ++ y).length = x.length + y.length := by
  show (x.cps ++ y.cps).size = _
  rw [Array.size_append]; rfl
theorem len_int {i : Int} {k : Nat} (hk : 0 < k) (h : i.natAbs < 2 ^ k) : (Str.ofString (toString i)).length ≤ k + 1 := by
  rw [PySem.ofString_length]
  exact PySem.int_text_length_le hk (log2_le' h hk)
theorem szOk_le {n m : Nat} (h : n ≤ m) (hm : m ≤ 1000000 := by decide) : szOk n = true := decide_eq_true (by omega)
/-- a value that is shown, by a text of at most n signs -/
def Rp (n : Nat) (d : D) : Prop := depthD d ≤ 60 ∧ ∃ t, reprD d = some t ∧ t.length ≤ n
theorem Rp.int {i : Int} {k : Nat} (hk : 0 < k) (h2 : k ≤ 12900) (h : i.natAbs < 2 ^ k) : Rp (k + 1) (.int i) := by
  refine ⟨by simp [depthD], _, ?_, len_int hk h⟩
  have : bits i < 12900 := by
    unfold bits
    have := log2_le' h hk
    omega
  rw [reprD, if_pos this]
theorem Rp.bl (b : Bool) : Rp 5 (.bl b) := by
  refine ⟨by simp [depthD], _, by rw [reprD], ?_⟩
  cases b <;> decide
theorem Rp.non : Rp 4 .non := ⟨by simp [depthD], _, by rw [reprD], by decide⟩
theorem Rp.str {x : Str} {n : Nat} (h : Sgn x) (hl : x.length ≤ n) (hn : 10 * n + 2 ≤ 1000000) : Rp (10 * n + 2) (.str x) := by
  have e := PySem.StrLaws.reprText_len x h
  refine ⟨by simp [depthD], PySem.reprText x, ?_, by omega⟩
  rw [reprD, if_pos (szOk_le (Nat.le_refl _) (by omega))]
def RpA (n : Nat) (ds : List D) : Prop := depthDs ds ≤ 59 ∧ ∃ ts, reprDs ds = some ts ∧ ts.length = ds.length ∧ (ts.map (·.length)).sum ≤ n
theorem RpA.nil : RpA 0 [] := ⟨by simp [depthDs], [], by rw [reprDs], rfl, Nat.le_refl _⟩
theorem RpA.cons {n m : Nat} {d : D} {ds : List D} (h : Rp n d) (hd : depthD d ≤ 59) (k : RpA m ds) : RpA (n + m) (d :: ds) := by
  obtain ⟨_, t, h1, h2⟩ := h
  obtain ⟨k0, ts, k1, k2, k3⟩ := k
  refine ⟨by rw [depthDs]; omega, t :: ts, by rw [reprDs, h1, k1], by simp [k2], by simp; omega⟩
theorem Rp.tup {n : Nat} {ds : List D} (k : RpA n ds) (h : n + 2 * ds.length + 3 ≤ 1000000) : Rp (n + 2 * ds.length + 3) (.tup ds) := by
  obtain ⟨k0, ts, k1, k2, k3⟩ := k
  have e := PySem.tupleText_len_le ts
  refine ⟨by rw [depthD]; omega, PySem.tupleText ts, ?_, by omega⟩
  rw [reprD, k1]
  simp only []
  rw [if_pos (szOk_le (Nat.le_refl _) (by omega))]
theorem Rp.lst {n : Nat} {ds : List D} (k : RpA n ds) (h : n + 2 * ds.length + 3 ≤ 1000000) : Rp (n + 2 * ds.length + 3) (.lst ds) := by
  obtain ⟨k0, ts, k1, k2, k3⟩ := k
  have e := PySem.listText_len_le ts
  refine ⟨by rw [depthD]; omega, PySem.listText ts, ?_, by omega⟩
  rw [reprD, k1]
  simp only []
  rw [if_pos (szOk_le (Nat.le_refl _) (by omega))]
theorem nil_app (x : Str) : ("" : Str) ++ x = x := by
  have e : ("" : Str) = ⟨#[]⟩ := by decide +kernel
  rw [e]
  show Str.mk (#[] ++ x.cps) = x
  simp
theorem Rp.at {n : Nat} {d : D} (h : Rp n d) : ∃ t, ∀ st, bltD .repr st [d] = some (.str t) := by
  obtain ⟨h0, t, h1, _⟩ := h
  refine ⟨t, fun st => ?_⟩
  simp only [bltD, if_pos h0, h1, Option.map_some]
theorem str_int_at {i : Int} {k : Nat} (hk : 0 < k) (h2 : k ≤ 12900) (h : i.natAbs < 2 ^ k) (st : Store) : bltD .str st [.int i] = some (.str (Str.ofString (toString i))) := by
  have : bits i < 12900 := by
    unfold bits
    have := log2_le' h hk
    omega
  have e : depthD (.int i) ≤ 60 := by simp [depthD]
  simp only [bltD, if_pos e, strD, reprD, if_pos this, Option.map_some]
theorem fmt_int {i : Int} {k : Nat} (hk : 0 < k) (h2 : k ≤ 12900) (h : i.natAbs < 2 ^ k) : fmtD (.int i) = some (Str.ofString (toString i)) := by
  have : bits i < 12900 := by
    unfold bits
    have := log2_le' h hk
    omega
  rw [fmtD, if_pos this]
end Ip
set_option Elab.async false
set_option linter.all false
set_option maxRecDepth 100000
set_option maxHeartbeats 400000
/-! The terms of the law (printed by wip/link2.py). -/
namespace L02
open Ip PySem
def xm : Nat → Nat → Bool := fun x k => match x with
  | 0 => (match k with | 0 => true | _ => false)
  | _ => (match k with | 0 => false | _ => true)
def c_BEYOND : D := (.int 1000000000000000000000000000000000000000000000000000000000000)
def c_BAR : D := (.str "/")
def mk_InvalidOperation : MkF := mkNo 0
def l1__law_urn : ISs :=
  (.cons (.asg (.nm 2) (.bin .mod (.blt .int (.cons (.bin .add (.bin .add (.bin .mul (.var 2) (.con (.int 6700417))) (.bin .mul (.bin .mod (.blt .int (.cons (.blt .abs (.cons (.var 3) .nil)) .nil)) (.bin .pow (.con (.int 10)) (.con (.int 40)))) (.con (.int 5)))) (.bin .mul (.blt .int (.cons (.cmp .gt (.var 3) (.con (.int 0))) .nil)) (.con (.int 3)))) .nil)) (.con (.int 2305843009213693951))))
  .nil)
def b__law_urn : ISs :=
  (.cons (.asg (.nm 2) (.bin .add (.bin .mul (.con (.int 433494437)) (.var 1)) (.con (.int 28657))))
  (.cons (.for (.nm 3) (.val (.slice (.var 0) (.var 1) .no)) l1__law_urn)
  (.cons (.asg (.nm 4) (.ife (.cmp .lt (.var 1) (.blt .len (.cons (.var 0) .nil))) (.bin .mod (.blt .int (.cons (.blt .abs (.cons (.sub (.var 0) (.var 1)) .nil)) .nil)) (.bin .pow (.bin .pow (.con (.int 10)) (.con (.int 50))) (.con (.int 13)))) (.con (.int 0))))
  (.cons (.ret (.lst true (.cons (.blt .max (.cons (.con (.int 0)) (.cons (.bin .sub (.var 4) (.bin .pow (.con (.int 10)) (.con (.int 18)))) .nil))) (.cons (.var 2) (.cons (.con (.int 0)) .nil)))))
  .nil))))
def sm__law_urn : Fn := callD xm 2 3 b__law_urn
def b__law_take : ISs :=
  (.cons (.ite (.cmp .gt (.sub (.var 0) (.con (.int 0))) (.con (.int 0))) (.cons (.asg (.nm 2) (.bin .mod (.blt .int (.cons (.sub (.var 0) (.con (.int 0))) .nil)) (.var 1)))
  (.cons (.setI (.var 0) (.con (.int 0)) (.bin .fdiv (.sub (.var 0) (.con (.int 0))) (.var 1)))
  (.cons (.ret (.var 2))
  .nil))) .nil)
  (.cons (.setI (.var 0) (.con (.int 2)) (.bin .add (.sub (.var 0) (.con (.int 2))) (.con (.int 1))))
  (.cons (.asg (.nm 3) (.bin .mod (.blt .int (.cons (.bin .add (.sub (.var 0) (.con (.int 1))) (.bin .mul (.con (.int 1299709)) (.sub (.var 0) (.con (.int 2))))) .nil)) (.con (.int 2305843009213693951))))
  (.cons (.asg (.nm 4) (.bin .mod (.blt .int (.cons (.bin .add (.bin .mul (.var 3) (.var 3)) (.bin .mul (.con (.int 15485863)) (.sub (.var 0) (.con (.int 2))))) .nil)) (.con (.int 1152921504606846883))))
  (.cons (.ret (.bin .mod (.blt .int (.cons (.bin .fdiv (.bin .mod (.blt .int (.cons (.bin .add (.bin .mul (.var 4) (.con (.int 179424673))) (.var 3)) .nil)) (.con (.int 2305843009213693921))) (.con (.int 8192))) .nil)) (.var 1)))
  .nil)))))
def sm__law_take : Fn := callD xm 2 3 b__law_take
def b__law_some : ISs :=
  (.cons (.ret (.sub (.var 1) (.call 1 [] sm__law_take (.cons (.var 0) (.cons (.blt .len (.cons (.var 1) .nil)) .nil)))))
  .nil)
def sm__law_some : Fn := callD xm 2 0 b__law_some
def b__law_part : ISs :=
  (.cons (.asg (.nm 1) (.call 2 [] sm__law_some (.cons (.var 0) (.cons (.lst false (.cons (.con (.int 2)) (.cons (.con (.int 5)) (.cons (.con (.int 12)) (.cons (.con (.int 12)) (.cons (.con (.int 1000)) (.cons (.bin .pow (.con (.int 10)) (.con (.int 18))) (.cons (.bin .pow (.con (.int 10)) (.con (.int 59))) .nil)))))))) .nil))))
  (.cons (.ret (.bin .sub (.call 1 [] sm__law_take (.cons (.var 0) (.cons (.bin .add (.bin .mul (.con (.int 2)) (.var 1)) (.con (.int 1))) .nil))) (.var 1)))
  .nil))
def sm__law_part : Fn := callD xm 1 1 b__law_part
def b__law_pair : ISs :=
  (.cons (.asg (.nm 1) (.call 3 [] sm__law_part (.cons (.var 0) .nil)))
  (.cons (.ret (.tup (.cons (.call 3 [] sm__law_part (.cons (.var 0) .nil)) (.cons (.ife (.cmp .ne (.var 1) (.con (.int 0))) (.var 1) (.con (.int 6))) .nil))))
  .nil))
def sm__law_pair : Fn := callD xm 1 1 b__law_pair
def b_is_whole : ISs :=
  (.cons (.ret (.and (.isi .int (.var 0)) (.not (.isi .bool (.var 0)))))
  .nil)
def sm_is_whole : Fn := callD xm 1 0 b_is_whole
def b_is_integer : ISs :=
  (.cons (.ret (.and (.call 5 [] sm_is_whole (.cons (.var 0) .nil)) (.chain .lt .lt (.un .neg (.glob 0 c_BEYOND)) (.var 0) (.glob 0 c_BEYOND))))
  .nil)
def sm_is_integer : Fn := callD xm 1 0 b_is_integer
def b_Ratio_str_ : ISs :=
  (.cons (.ite (.cmp .eq (.ext (.fld [(1, 0)]) (.cons (.var 0) .nil)) (.con (.int 1))) (.cons (.ret (.fstr [none] (.cons (.ext (.fld [(1, 1)]) (.cons (.var 0) .nil)) .nil)))
  .nil) .nil)
  (.cons (.ret (.fstr [none, none, none] (.cons (.ext (.fld [(1, 1)]) (.cons (.var 0) .nil)) (.cons (.glob 1 c_BAR) (.cons (.ext (.fld [(1, 0)]) (.cons (.var 0) .nil)) .nil)))))
  .nil))
def sm_Ratio_str_ : Fn := callD xm 1 0 b_Ratio_str_
def mk_InvalidNumber : MkF := mkAlt (mkStr 1) (mkOwn 1 1 ⟨7, [], sm_Ratio_str_⟩)
def b_require_integer : ISs :=
  (.cons (.ite (.not (.call 6 [] sm_is_integer (.cons (.var 0) .nil))) (.cons (.raise 1 mk_InvalidNumber (.cons (.var 0) .nil))
  .nil) .nil)
  .nil)
def sm_require_integer : Fn := callD xm 1 0 b_require_integer
def b_Ratio_eq_ : ISs :=
  (.cons (.ret (.and (.ext (.isC 1) (.cons (.var 1) .nil)) (.and (.cmp .eq (.ext (.fld [(1, 1)]) (.cons (.var 0) .nil)) (.ext (.fld [(1, 1)]) (.cons (.var 1) .nil))) (.cmp .eq (.ext (.fld [(1, 0)]) (.cons (.var 0) .nil)) (.ext (.fld [(1, 0)]) (.cons (.var 1) .nil))))))
  .nil)
def sm_Ratio_eq_ : Fn := callD xm 2 0 b_Ratio_eq_
def b_common_of : ISs :=
  (.cons (.ret (.blt .gcd (.cons (.var 0) (.cons (.var 1) .nil))))
  .nil)
def sm_common_of : Fn := callD xm 2 0 b_common_of
def b_Lowest_init_ : ISs :=
  (.cons (.asg (.nm 3) (.call 10 [] sm_common_of (.cons (.var 1) (.cons (.var 2) .nil))))
  (.cons (.ite (.cmp .lt (.var 2) (.con (.int 0))) (.cons (.asg (.nm 3) (.un .neg (.var 3)))
  .nil) .nil)
  (.cons (.setA [(0, 1)] (.var 0) (.bin .fdiv (.var 1) (.var 3)))
  (.cons (.setA [(0, 0)] (.var 0) (.bin .fdiv (.var 2) (.var 3)))
  .nil))))
def sm_Lowest_init_ : Fn := callD xm 3 1 b_Lowest_init_
def b_lowest_told : ISs :=
  (.cons (.expr (.call 8 [] sm_require_integer (.cons (.var 0) .nil)))
  (.cons (.expr (.call 8 [] sm_require_integer (.cons (.var 1) .nil)))
  (.cons (.ite (.ext (.ownC .eq 1 ⟨9, [], sm_Ratio_eq_⟩) (.cons (.var 1) (.cons (.con (.int 0)) .nil))) (.cons (.raise 1 mk_InvalidNumber (.cons (.var 1) .nil))
  .nil) .nil)
  (.cons (.ret (.ext (.mk 2 0 ⟨11, [], sm_Lowest_init_⟩) (.cons (.var 0) (.cons (.var 1) .nil))))
  .nil))))
def sm_lowest_told : Fn := callD xm 2 0 b_lowest_told
def b_Ratio_init_ : ISs :=
  (.cons (.asg (.nm 3) (.ife (.ext (.isC 0) (.cons (.var 1) .nil)) (.var 1) (.call 12 [] sm_lowest_told (.cons (.var 1) (.cons (.var 2) .nil)))))
  (.cons (.setA [(1, 1)] (.var 0) (.ext (.fld [(0, 1)]) (.cons (.var 3) .nil)))
  (.cons (.setA [(1, 0)] (.var 0) (.ext (.fld [(0, 0)]) (.cons (.var 3) .nil)))
  .nil)))
def sm_Ratio_init_ : Fn := callD xm 3 1 b_Ratio_init_
def w1__law_low : IE :=
  (.cmp .gt (.var 3) (.con (.int 0)))
def l1__law_low : ISs :=
  (.cons (.par [2, 3] (.cons (.var 3) (.cons (.bin .mod (.blt .int (.cons (.var 2) .nil)) (.var 3)) .nil)))
  .nil)
def b__law_low : ISs :=
  (.cons (.par [2, 3] (.cons (.blt .abs (.cons (.var 0) .nil)) (.cons (.blt .abs (.cons (.var 1) .nil)) .nil)))
  (.cons (.whl fuelD w1__law_low l1__law_low)
  (.cons (.ite (.cmp .lt (.var 1) (.con (.int 0))) (.cons (.par [0, 1] (.cons (.bin .sub (.con (.int 0)) (.var 0)) (.cons (.bin .sub (.con (.int 0)) (.var 1)) .nil)))
  .nil) .nil)
  (.cons (.ret (.tup (.cons (.ife (.cmp .lt (.var 0) (.con (.int 0))) (.bin .sub (.con (.int 0)) (.bin .fdiv (.bin .sub (.con (.int 0)) (.var 0)) (.var 2))) (.bin .fdiv (.var 0) (.var 2))) (.cons (.bin .fdiv (.var 1) (.var 2)) .nil))))
  .nil))))
def sm__law_low : Fn := callD xm 2 2 b__law_low
def b_Ratio_top : ISs :=
  (.cons (.ret (.ext (.fld [(1, 1)]) (.cons (.var 0) .nil)))
  .nil)
def sm_Ratio_top : Fn := callD xm 1 0 b_Ratio_top
def b_Ratio_bottom : ISs :=
  (.cons (.ret (.ext (.fld [(1, 0)]) (.cons (.var 0) .nil)))
  .nil)
def sm_Ratio_bottom : Fn := callD xm 1 0 b_Ratio_bottom
def b_Ratio_sign : ISs :=
  (.cons (.ret (.bin .sub (.blt .int (.cons (.cmp .gt (.ext (.fld [(1, 1)]) (.cons (.var 0) .nil)) (.con (.int 0))) .nil)) (.blt .int (.cons (.cmp .lt (.ext (.fld [(1, 1)]) (.cons (.var 0) .nil)) (.con (.int 0))) .nil))))
  .nil)
def sm_Ratio_sign : Fn := callD xm 1 0 b_Ratio_sign
def b_Ratio_bool_ : ISs :=
  (.cons (.ret (.blt .bool (.cons (.ext (.fld [(1, 1)]) (.cons (.var 0) .nil)) .nil)))
  .nil)
def sm_Ratio_bool_ : Fn := callD xm 1 0 b_Ratio_bool_
def b__law_shows : ISs :=
  (.cons (.asg (.nm 2) (.ife (.cmp .eq (.sub (.var 1) (.con (.int 1))) (.con (.int 1))) (.blt .str (.cons (.sub (.var 1) (.con (.int 0))) .nil)) (.bin .add (.bin .add (.blt .str (.cons (.sub (.var 1) (.con (.int 0))) .nil)) (.con (.str "/"))) (.blt .str (.cons (.sub (.var 1) (.con (.int 1))) .nil)))))
  (.cons (.asg (.nm 3) (.bin .sub (.blt .int (.cons (.cmp .gt (.sub (.var 1) (.con (.int 0))) (.con (.int 0))) .nil)) (.blt .int (.cons (.cmp .lt (.sub (.var 1) (.con (.int 0))) (.con (.int 0))) .nil))))
  (.cons (.asg (.nm 4) (.tup (.cons (.ext (.prop [(1, ⟨15, [], sm_Ratio_top⟩)]) (.cons (.var 0) .nil)) (.cons (.ext (.prop [(1, ⟨16, [], sm_Ratio_bottom⟩)]) (.cons (.var 0) .nil)) (.cons (.ext (.prop [(1, ⟨17, [], sm_Ratio_sign⟩)]) (.cons (.var 0) .nil)) (.cons (.ext (.ownB .str 1 ⟨7, [], sm_Ratio_str_⟩) (.cons (.var 0) .nil)) (.cons (.ext (.ownB .bool 1 ⟨18, [], sm_Ratio_bool_⟩) (.cons (.var 0) .nil)) .nil)))))))
  (.cons (.ret (.cmp .eq (.blt .repr (.cons (.var 4) .nil)) (.blt .repr (.cons (.tup (.cons (.sub (.var 1) (.con (.int 0))) (.cons (.sub (.var 1) (.con (.int 1))) (.cons (.var 3) (.cons (.var 2) (.cons (.cmp .ne (.sub (.var 1) (.con (.int 0))) (.con (.int 0))) .nil)))))) .nil))))
  .nil))))
def sm__law_shows : Fn := callD xm 2 3 b__law_shows
def b_parts_of : ISs :=
  (.cons (.ite (.ext (.isC 1) (.cons (.var 0) .nil)) (.cons (.ret (.tup (.cons (.ext (.fld [(1, 1)]) (.cons (.var 0) .nil)) (.cons (.ext (.fld [(1, 0)]) (.cons (.var 0) .nil)) .nil))))
  .nil) .nil)
  (.cons (.ite (.not (.call 5 [] sm_is_whole (.cons (.var 0) .nil))) (.cons (.raise 1 mk_InvalidNumber (.cons (.var 0) .nil))
  .nil) .nil)
  (.cons (.ret (.tup (.cons (.var 0) (.cons (.con (.int 1)) .nil))))
  .nil)))
def sm_parts_of : Fn := callD xm 1 0 b_parts_of
def b_Ratio_compared : ISs :=
  (.cons (.asg (.tp [2, 3]) (.call 20 [] sm_parts_of (.cons (.var 1) .nil)))
  (.cons (.asg (.nm 4) (.bin .sub (.bin .mul (.ext (.fld [(1, 1)]) (.cons (.var 0) .nil)) (.var 3)) (.bin .mul (.var 2) (.ext (.fld [(1, 0)]) (.cons (.var 0) .nil)))))
  (.cons (.ret (.bin .sub (.blt .int (.cons (.cmp .gt (.var 4) (.con (.int 0))) .nil)) (.blt .int (.cons (.cmp .lt (.var 4) (.con (.int 0))) .nil))))
  .nil)))
def sm_Ratio_compared : Fn := callD xm 2 3 b_Ratio_compared
def b__law_compared_right : ISs :=
  (.cons (.asg (.nm 4) (.bin .sub (.bin .mul (.sub (.var 1) (.con (.int 0))) (.sub (.var 3) (.con (.int 1)))) (.bin .mul (.sub (.var 3) (.con (.int 0))) (.sub (.var 1) (.con (.int 1))))))
  (.cons (.ite (.cmp .ne (.blt .repr (.cons (.meth [(1, ⟨21, [], sm_Ratio_compared⟩)] (.var 0) (.cons (.var 2) .nil)) .nil)) (.blt .repr (.cons (.bin .sub (.blt .int (.cons (.cmp .gt (.var 4) (.con (.int 0))) .nil)) (.blt .int (.cons (.cmp .lt (.var 4) (.con (.int 0))) .nil))) .nil))) (.cons (.ret (.con (.bl false)))
  .nil) .nil)
  (.cons (.ite (.or (.cmp .ne (.ext (.ownC .eq 1 ⟨9, [], sm_Ratio_eq_⟩) (.cons (.var 0) (.cons (.var 2) .nil))) (.and (.cmp .eq (.var 4) (.con (.int 0))) (.ext (.isC 1) (.cons (.var 2) .nil)))) (.cmp .eq (.ext (.ownC .ne 1 ⟨9, [], sm_Ratio_eq_⟩) (.cons (.var 0) (.cons (.var 2) .nil))) (.ext (.ownC .eq 1 ⟨9, [], sm_Ratio_eq_⟩) (.cons (.var 0) (.cons (.var 2) .nil))))) (.cons (.ret (.con (.bl false)))
  .nil) .nil)
  (.cons (.ret (.and (.not (.ext (.ownC .eq 1 ⟨9, [], sm_Ratio_eq_⟩) (.cons (.var 0) (.cons (.ext (.ownB .str 1 ⟨7, [], sm_Ratio_str_⟩) (.cons (.var 0) .nil)) .nil)))) (.and (.not (.ext (.ownC .eq 1 ⟨9, [], sm_Ratio_eq_⟩) (.cons (.var 0) (.cons (.var 1) .nil)))) (.and (.not (.ext (.ownC .eq 1 ⟨9, [], sm_Ratio_eq_⟩) (.cons (.var 0) (.cons (.sub (.var 1) (.con (.int 0))) .nil)))) (.ext (.ownC .ne 1 ⟨9, [], sm_Ratio_eq_⟩) (.cons (.var 0) (.cons (.con .non) .nil)))))))
  .nil))))
def sm__law_compared_right : Fn := callD xm 4 1 b__law_compared_right
def b_ratio_with : ISs :=
  (.cons (.ret (.ext (.mk 2 1 ⟨13, [(.int 1)], sm_Ratio_init_⟩) (.cons (.ext (.mk 2 0 ⟨11, [], sm_Lowest_init_⟩) (.cons (.var 0) (.cons (.var 1) .nil))) .nil)))
  .nil)
def sm_ratio_with : Fn := callD xm 2 0 b_ratio_with
def b_Ratio_neg_ : ISs :=
  (.cons (.ret (.call 23 [] sm_ratio_with (.cons (.un .neg (.ext (.fld [(1, 1)]) (.cons (.var 0) .nil))) (.cons (.ext (.fld [(1, 0)]) (.cons (.var 0) .nil)) .nil))))
  .nil)
def sm_Ratio_neg_ : Fn := callD xm 1 0 b_Ratio_neg_
def b_Ratio_over : ISs :=
  (.cons (.asg (.tp [2, 3]) (.call 20 [] sm_parts_of (.cons (.var 1) .nil)))
  (.cons (.ite (.cmp .eq (.var 2) (.con (.int 0))) (.cons (.raise 0 mk_InvalidOperation (.cons (.con (.str "a number other than 0 is expected")) .nil))
  .nil) .nil)
  (.cons (.ret (.call 23 [] sm_ratio_with (.cons (.bin .mul (.ext (.fld [(1, 1)]) (.cons (.var 0) .nil)) (.var 3)) (.cons (.bin .mul (.ext (.fld [(1, 0)]) (.cons (.var 0) .nil)) (.var 2)) .nil))))
  .nil)))
def sm_Ratio_over : Fn := callD xm 2 2 b_Ratio_over
def b__law_error : ISs :=
  (.cons (.try (.cons (.ite (.cmp .eq (.var 0) (.con (.int 3))) (.cons (.expr (.meth [(1, ⟨25, [], sm_Ratio_over⟩)] (.var 1) (.cons (.var 2) .nil)))
  .nil) (.cons (.expr (.meth [(1, ⟨21, [], sm_Ratio_compared⟩)] (.var 1) (.cons (.var 2) .nil)))
  .nil))
  (.cons (.ret (.con (.str "fine")))
  .nil)) [⟨1, (some 3), (.add (.con (.str "number ")) (.rep .fld))⟩, ⟨0, none, (.con (.str "operation"))⟩])
  .nil)
def sm__law_error : Fn := callD xm 3 1 b__law_error
def b_is_number : ISs :=
  (.cons (.ret (.or (.ext (.isC 1) (.cons (.var 0) .nil)) (.call 5 [] sm_is_whole (.cons (.var 0) .nil))))
  .nil)
def sm_is_number : Fn := callD xm 1 0 b_is_number
def b_Ratio_add_ : ISs :=
  (.cons (.ite (.not (.call 27 [] sm_is_number (.cons (.var 1) .nil))) (.cons .stk
  .nil) .nil)
  (.cons (.asg (.tp [2, 3]) (.call 20 [] sm_parts_of (.cons (.var 1) .nil)))
  (.cons (.ret (.call 23 [] sm_ratio_with (.cons (.bin .add (.bin .mul (.ext (.fld [(1, 1)]) (.cons (.var 0) .nil)) (.var 3)) (.bin .mul (.var 2) (.ext (.fld [(1, 0)]) (.cons (.var 0) .nil)))) (.cons (.bin .mul (.ext (.fld [(1, 0)]) (.cons (.var 0) .nil)) (.var 3)) .nil))))
  .nil)))
def sm_Ratio_add_ : Fn := callD xm 2 2 b_Ratio_add_
def b_Ratio_sub_ : ISs :=
  (.cons (.ite (.not (.call 27 [] sm_is_number (.cons (.var 1) .nil))) (.cons .stk
  .nil) .nil)
  (.cons (.asg (.tp [2, 3]) (.call 20 [] sm_parts_of (.cons (.var 1) .nil)))
  (.cons (.ret (.call 23 [] sm_ratio_with (.cons (.bin .sub (.bin .mul (.ext (.fld [(1, 1)]) (.cons (.var 0) .nil)) (.var 3)) (.bin .mul (.var 2) (.ext (.fld [(1, 0)]) (.cons (.var 0) .nil)))) (.cons (.bin .mul (.ext (.fld [(1, 0)]) (.cons (.var 0) .nil)) (.var 3)) .nil))))
  .nil)))
def sm_Ratio_sub_ : Fn := callD xm 2 2 b_Ratio_sub_
def b_Ratio_mul_ : ISs :=
  (.cons (.ite (.not (.call 27 [] sm_is_number (.cons (.var 1) .nil))) (.cons .stk
  .nil) .nil)
  (.cons (.asg (.tp [2, 3]) (.call 20 [] sm_parts_of (.cons (.var 1) .nil)))
  (.cons (.ret (.call 23 [] sm_ratio_with (.cons (.bin .mul (.ext (.fld [(1, 1)]) (.cons (.var 0) .nil)) (.var 2)) (.cons (.bin .mul (.ext (.fld [(1, 0)]) (.cons (.var 0) .nil)) (.var 3)) .nil))))
  .nil)))
def sm_Ratio_mul_ : Fn := callD xm 2 2 b_Ratio_mul_
def b__law_done : ISs :=
  (.cons (.ite (.cmp .eq (.var 0) (.con (.int 0))) (.cons (.ret (.ext (.own2 .add 1 ⟨28, [], sm_Ratio_add_⟩) (.cons (.var 1) (.cons (.var 2) .nil))))
  .nil) .nil)
  (.cons (.ite (.cmp .eq (.var 0) (.con (.int 1))) (.cons (.ret (.ext (.own2 .sub 1 ⟨29, [], sm_Ratio_sub_⟩) (.cons (.var 1) (.cons (.var 2) .nil))))
  .nil) .nil)
  (.cons (.ret (.ife (.cmp .eq (.var 0) (.con (.int 2))) (.ext (.own2 .mul 1 ⟨30, [], sm_Ratio_mul_⟩) (.cons (.var 1) (.cons (.var 2) .nil))) (.meth [(1, ⟨25, [], sm_Ratio_over⟩)] (.var 1) (.cons (.var 2) .nil))))
  .nil)))
def sm__law_done : Fn := callD xm 3 0 b__law_done
def b__law_made : ISs :=
  (.cons (.ite (.cmp .eq (.var 0) (.con (.int 0))) (.cons (.ret (.call 14 [] sm__law_low (.cons (.bin .add (.bin .mul (.sub (.var 1) (.con (.int 0))) (.sub (.var 2) (.con (.int 1)))) (.bin .mul (.sub (.var 2) (.con (.int 0))) (.sub (.var 1) (.con (.int 1))))) (.cons (.bin .mul (.sub (.var 1) (.con (.int 1))) (.sub (.var 2) (.con (.int 1)))) .nil))))
  .nil) .nil)
  (.cons (.ite (.cmp .eq (.var 0) (.con (.int 1))) (.cons (.ret (.call 14 [] sm__law_low (.cons (.bin .sub (.bin .mul (.sub (.var 1) (.con (.int 0))) (.sub (.var 2) (.con (.int 1)))) (.bin .mul (.sub (.var 2) (.con (.int 0))) (.sub (.var 1) (.con (.int 1))))) (.cons (.bin .mul (.sub (.var 1) (.con (.int 1))) (.sub (.var 2) (.con (.int 1)))) .nil))))
  .nil) .nil)
  (.cons (.ite (.cmp .eq (.var 0) (.con (.int 2))) (.cons (.ret (.call 14 [] sm__law_low (.cons (.bin .mul (.sub (.var 1) (.con (.int 0))) (.sub (.var 2) (.con (.int 0)))) (.cons (.bin .mul (.sub (.var 1) (.con (.int 1))) (.sub (.var 2) (.con (.int 1)))) .nil))))
  .nil) .nil)
  (.cons (.ret (.call 14 [] sm__law_low (.cons (.bin .mul (.sub (.var 1) (.con (.int 0))) (.sub (.var 2) (.con (.int 1)))) (.cons (.bin .mul (.sub (.var 1) (.con (.int 1))) (.sub (.var 2) (.con (.int 0)))) .nil))))
  .nil))))
def sm__law_made : Fn := callD xm 3 0 b__law_made
def l1__law_row_right : ISs :=
  (.cons (.par [5, 6] (.cons (.call 1 [] sm__law_take (.cons (.var 0) (.cons (.con (.int 6)) .nil))) (.cons (.call 4 [] sm__law_pair (.cons (.var 0) .nil)) .nil)))
  (.cons (.ite (.cmp .eq (.call 1 [] sm__law_take (.cons (.var 0) (.cons (.con (.int 3)) .nil))) (.con (.int 0))) (.cons (.asg (.nm 6) (.tup (.cons (.call 2 [] sm__law_some (.cons (.var 0) (.cons (.lst false (.cons (.sub (.var 6) (.con (.int 0))) (.cons (.con (.int 0)) (.cons (.con (.int 1)) (.cons (.bin .mul (.sub (.var 6) (.con (.int 0))) (.bin .pow (.con (.int 10)) (.con (.int 30)))) .nil))))) .nil))) (.cons (.con (.int 1)) .nil))))
  (.cons (.asg (.nm 8) (.sub (.var 6) (.con (.int 0))))
  .nil)) (.cons (.asg (.nm 8) (.ext (.mk 2 1 ⟨13, [], sm_Ratio_init_⟩) (.cons (.sub (.var 6) (.con (.int 0))) (.cons (.sub (.var 6) (.con (.int 1))) .nil))))
  .nil))
  (.cons (.ite (.not (.call 22 [] sm__law_compared_right (.cons (.var 2) (.cons (.var 3) (.cons (.var 8) (.cons (.ife (.cmp .gt (.sub (.var 6) (.con (.int 1))) (.con (.int 0))) (.var 6) (.tup (.cons (.bin .sub (.con (.int 0)) (.sub (.var 6) (.con (.int 0)))) (.cons (.bin .sub (.con (.int 0)) (.sub (.var 6) (.con (.int 1)))) .nil)))) .nil)))))) (.cons (.ret (.con (.bl false)))
  .nil) .nil)
  (.cons (.asg (.nm 7) (.tup (.cons (.ext (.prop [(1, ⟨15, [], sm_Ratio_top⟩)]) (.cons (.var 2) .nil)) (.cons (.ext (.prop [(1, ⟨16, [], sm_Ratio_bottom⟩)]) (.cons (.var 2) .nil)) .nil))))
  (.cons (.ite (.cmp .gt (.var 5) (.con (.int 3))) (.cons (.par [2, 3] (.cons (.ext (.ownU .neg 1 ⟨24, [], sm_Ratio_neg_⟩) (.cons (.var 2) .nil)) (.cons (.tup (.cons (.bin .sub (.con (.int 0)) (.sub (.var 3) (.con (.int 0)))) (.cons (.sub (.var 3) (.con (.int 1))) .nil))) .nil)))
  .nil) (.cons (.ite (.and (.cmp .eq (.var 5) (.con (.int 3))) (.cmp .eq (.sub (.var 6) (.con (.int 0))) (.con (.int 0)))) (.cons (.ite (.or (.cmp .ne (.call 26 [] sm__law_error (.cons (.con (.int 3)) (.cons (.var 2) (.cons (.var 8) .nil)))) (.con (.str "operation"))) (.cmp .isnot (.call 19 [] sm__law_shows (.cons (.var 2) (.cons (.var 7) .nil))) (.con (.bl true)))) (.cons (.ret (.con (.bl false)))
  .nil) .nil)
  .nil) (.cons (.asg (.nm 9) (.call 31 [] sm__law_done (.cons (.var 5) (.cons (.var 2) (.cons (.var 8) .nil)))))
  (.cons (.ite (.cmp .ne (.tup (.cons (.ext (.prop [(1, ⟨15, [], sm_Ratio_top⟩)]) (.cons (.var 2) .nil)) (.cons (.ext (.prop [(1, ⟨16, [], sm_Ratio_bottom⟩)]) (.cons (.var 2) .nil)) .nil))) (.var 7)) (.cons (.ret (.con (.bl false)))
  .nil) .nil)
  (.cons (.par [2, 3] (.cons (.var 9) (.cons (.call 32 [] sm__law_made (.cons (.var 5) (.cons (.var 3) (.cons (.var 6) .nil)))) .nil)))
  .nil))))
  .nil))
  (.cons (.ite (.not (.call 19 [] sm__law_shows (.cons (.var 2) (.cons (.var 3) .nil)))) (.cons (.ret (.con (.bl false)))
  .nil) .nil)
  .nil))))))
def b__law_row_right : ISs :=
  (.cons (.asg (.nm 1) (.call 4 [] sm__law_pair (.cons (.var 0) .nil)))
  (.cons (.par [2, 3] (.cons (.ext (.mk 2 1 ⟨13, [], sm_Ratio_init_⟩) (.cons (.sub (.var 1) (.con (.int 0))) (.cons (.sub (.var 1) (.con (.int 1))) .nil))) (.cons (.call 14 [] sm__law_low (.cons (.sub (.var 1) (.con (.int 0))) (.cons (.sub (.var 1) (.con (.int 1))) .nil))) .nil)))
  (.cons (.ite (.not (.call 19 [] sm__law_shows (.cons (.var 2) (.cons (.var 3) .nil)))) (.cons (.ret (.con (.bl false)))
  .nil) .nil)
  (.cons (.for (.nm 4) (.range (.cons (.bin .add (.con (.int 1)) (.call 1 [] sm__law_take (.cons (.var 0) (.cons (.con (.int 8)) .nil)))) .nil)) l1__law_row_right)
  (.cons (.ret (.and (.ext (.ownC .eq 1 ⟨9, [], sm_Ratio_eq_⟩) (.cons (.var 2) (.cons (.ext (.own2 .mul 1 ⟨30, [], sm_Ratio_mul_⟩) (.cons (.var 2) (.cons (.ext (.mk 2 1 ⟨13, [(.int 1)], sm_Ratio_init_⟩) (.cons (.con (.int 1)) .nil)) .nil))) .nil))) (.ext (.ownC .eq 1 ⟨9, [], sm_Ratio_eq_⟩) (.cons (.ext (.own2 .sub 1 ⟨29, [], sm_Ratio_sub_⟩) (.cons (.var 2) (.cons (.var 2) .nil))) (.cons (.ext (.mk 2 1 ⟨13, [], sm_Ratio_init_⟩) (.cons (.con (.int 0)) (.cons (.con (.int 7)) .nil))) .nil)))))
  .nil)))))
def sm__law_row_right : Fn := callD xm 1 9 b__law_row_right
def b__law_made_error : ISs :=
  (.cons (.try (.cons (.expr (.ext (.mk 2 1 ⟨13, [], sm_Ratio_init_⟩) (.cons (.var 0) (.cons (.var 1) .nil))))
  .nil) [⟨1, (some 2), (.lst (.cons .fld .nil))⟩])
  (.cons (.ret (.lst false .nil))
  .nil))
def sm__law_made_error : Fn := callD xm 2 1 b__law_made_error
def e1__law_wrong_right : IE :=
  (.call 26 [] sm__law_error (.cons (.var 3) (.cons (.var 1) (.cons (.var 2) .nil))))
def b__law_wrong_right : ISs :=
  (.cons (.asg (.nm 1) (.ext (.mk 2 1 ⟨13, [], sm_Ratio_init_⟩) (.cons (.call 3 [] sm__law_part (.cons (.var 0) .nil)) (.cons (.con (.int 7)) .nil))))
  (.cons (.asg (.nm 2) (.call 2 [] sm__law_some (.cons (.var 0) (.cons (.lst false (.cons (.con .non) (.cons (.con (.str "1")) (.cons (.con (.bl true)) (.cons (.tup (.cons (.con (.int 1)) (.cons (.con (.int 2)) .nil))) (.cons (.lst false (.cons (.con (.int 3)) .nil)) (.cons .dct0 (.cons (.con (.bl false)) .nil)))))))) .nil))))
  (.cons (.ite (.cmp .ne (.comp false [3] (.val (.tup (.cons (.con (.int 3)) (.cons (.con (.int 4)) .nil)))) (.nm 3) (.con (.bl true)) e1__law_wrong_right) (.lst false (.cons (.bin .add (.con (.str "number ")) (.blt .repr (.cons (.var 2) .nil))) (.cons (.bin .add (.con (.str "number ")) (.blt .repr (.cons (.var 2) .nil))) .nil)))) (.cons (.ret (.con (.bl false)))
  .nil) .nil)
  (.cons (.asg (.nm 4) (.call 2 [] sm__law_some (.cons (.var 0) (.cons (.lst false (.cons (.bin .pow (.con (.int 10)) (.con (.int 60))) (.cons (.bin .sub (.con (.int 0)) (.bin .pow (.con (.int 10)) (.con (.int 60)))) (.cons (.con .non) (.cons (.con (.str "2")) (.cons (.con (.bl true)) (.cons (.tup (.cons (.con (.int 1)) .nil)) (.cons (.lst false (.cons (.con (.int 0)) .nil)) (.cons (.bin .mul (.bin .pow (.con (.int 10)) (.con (.int 60))) (.bin .pow (.con (.int 10)) (.con (.int 39)))) .nil))))))))) .nil))))
  (.cons (.asg (.nm 5) (.call 2 [] sm__law_some (.cons (.var 0) (.cons (.lst false (.cons (.con (.int 0)) (.cons (.con .non) (.cons (.bin .pow (.con (.int 10)) (.con (.int 60))) (.cons (.con (.str "3")) (.cons (.con (.bl false)) .nil)))))) .nil))))
  (.cons (.ite (.or (.ext (.eqL .ne 1 ⟨9, [], sm_Ratio_eq_⟩) (.cons (.call 34 [] sm__law_made_error (.cons (.var 1) (.cons (.con (.int 2)) .nil))) (.cons (.lst false (.cons (.var 1) .nil)) .nil))) (.ext (.eqL .ne 1 ⟨9, [], sm_Ratio_eq_⟩) (.cons (.call 34 [] sm__law_made_error (.cons (.con (.int 5)) (.cons (.var 1) .nil))) (.cons (.lst false (.cons (.var 1) .nil)) .nil)))) (.cons (.ret (.con (.bl false)))
  .nil) .nil)
  (.cons (.ret (.and (.cmp .eq (.blt .repr (.cons (.call 34 [] sm__law_made_error (.cons (.var 4) (.cons (.var 5) .nil))) .nil)) (.blt .repr (.cons (.lst false (.cons (.var 4) .nil)) .nil))) (.cmp .eq (.blt .repr (.cons (.call 34 [] sm__law_made_error (.cons (.con (.int 9)) (.cons (.var 5) .nil))) .nil)) (.blt .repr (.cons (.lst false (.cons (.var 5) .nil)) .nil)))))
  .nil)))))))
def sm__law_wrong_right : Fn := callD xm 1 5 b__law_wrong_right
def l1_law : ISs :=
  (.cons (.asg (.nm 2) (.call 0 [] sm__law_urn (.cons (.var 0) (.cons (.var 1) .nil))))
  (.cons (.ite (.or (.not (.call 33 [] sm__law_row_right (.cons (.var 2) .nil))) (.not (.call 35 [] sm__law_wrong_right (.cons (.var 2) .nil)))) (.cons (.ret (.con (.bl false)))
  .nil) .nil)
  .nil))
def b_law : ISs :=
  (.cons (.for (.nm 1) (.range (.cons (.blt .max (.cons (.con (.int 1)) (.cons (.blt .min (.cons (.con (.int 3)) (.cons (.blt .len (.cons (.var 0) .nil)) .nil))) .nil))) .nil)) l1_law)
  (.cons (.par [3, 4] (.cons (.ext (.mk 2 1 ⟨13, [], sm_Ratio_init_⟩) (.cons (.con (.int 2)) (.cons (.un .neg (.con (.int 4))) .nil))) (.cons (.ext (.mk 2 1 ⟨13, [], sm_Ratio_init_⟩) (.cons (.con (.int 1)) (.cons (.con (.int 3)) .nil))) .nil)))
  (.cons (.asg (.nm 5) (.lst false (.cons (.ext (.ownB .str 1 ⟨7, [], sm_Ratio_str_⟩) (.cons (.var 3) .nil)) (.cons (.ext (.ownB .str 1 ⟨7, [], sm_Ratio_str_⟩) (.cons (.ext (.own2 .add 1 ⟨28, [], sm_Ratio_add_⟩) (.cons (.var 3) (.cons (.var 4) .nil))) .nil)) (.cons (.ext (.ownB .str 1 ⟨7, [], sm_Ratio_str_⟩) (.cons (.ext (.own2 .mul 1 ⟨30, [], sm_Ratio_mul_⟩) (.cons (.var 3) (.cons (.con (.int 6)) .nil))) .nil)) (.cons (.ext (.ownB .str 1 ⟨7, [], sm_Ratio_str_⟩) (.cons (.meth [(1, ⟨25, [], sm_Ratio_over⟩)] (.var 4) (.cons (.var 3) .nil)) .nil)) (.cons (.meth [(1, ⟨21, [], sm_Ratio_compared⟩)] (.var 3) (.cons (.var 4) .nil)) (.cons (.ext (.ownB .str 1 ⟨7, [], sm_Ratio_str_⟩) (.cons (.ext (.mk 2 1 ⟨13, [], sm_Ratio_init_⟩) (.cons (.con (.int 0)) (.cons (.un .neg (.con (.int 9))) .nil))) .nil)) .nil))))))))
  (.cons (.asg (.nm 6) (.bin .add (.bin .add (.con (.str "-")) (.blt .str (.cons (.bin .add (.bin .mul (.con (.int 2)) (.bin .pow (.con (.int 10)) (.con (.int 62)))) (.con (.int 3))) .nil))) (.con (.str "/2"))))
  (.cons (.ret (.and (.cmp .eq (.var 5) (.lst false (.cons (.con (.str "-1/2")) (.cons (.con (.str "-1/6")) (.cons (.con (.str "-3")) (.cons (.con (.str "-2/3")) (.cons (.un .neg (.con (.int 1))) (.cons (.con (.str "0")) .nil)))))))) (.cmp .eq (.ext (.ownB .str 1 ⟨7, [], sm_Ratio_str_⟩) (.cons (.ext (.own2 .sub 1 ⟨29, [], sm_Ratio_sub_⟩) (.cons (.ext (.mk 2 1 ⟨13, [], sm_Ratio_init_⟩) (.cons (.con (.int 6)) (.cons (.un .neg (.con (.int 4))) .nil))) (.cons (.bin .pow (.con (.int 10)) (.con (.int 62))) .nil))) .nil)) (.var 6))))
  .nil)))))
def sm_law : Fn := callD xm 1 6 b_law
end L02
set_option Elab.async false
set_option linter.all false
set_option maxRecDepth 100000
set_option maxHeartbeats 1000000
namespace L02
open Ip
open PySem (Str)
/-! ### integers -/
def isWhole : D → Bool
  | .int _ => true
  | _ => false
def big : Int := 1000000000000000000000000000000000000000000000000000000000000
theorem bigv : big = 1000000000000000000000000000000000000000000000000000000000000 := rfl
def isInt : D → Bool
  | .int i => decide (-big < i ∧ i < big)
  | _ => false
theorem whole_at {x : D} (h : isiD .int x ≠ none) (st : Store) : sm_is_whole [x] st = .ok (.bl (isWhole x)) st := by
  cases x <;> simp [sm_is_whole, callD, b_is_whole, execs, exec, ev, isiD, Out.andS, Out.bind, ofO, OutS.seq, truD, noRef, closeSt_self, isWhole] at h ⊢
  all_goals rename_i b; try (cases b <;> simp [truD, noRef, closeSt_self, ofO, Out.bind])
theorem integer_at {x : D} (h : isiD .int x ≠ none) (st : Store) : sm_is_integer [x] st = .ok (.bl (isInt x)) st := by
  cases x
  case int i =>
    simp only [sm_is_integer, callD, b_is_integer, execs, exec, ev, evs, List.map, List.length, List.replicate, List.cons_append, List.nil_append, if_true, List.getElem?_cons_zero, Out.bind, List.append_nil, whole_at h, isWhole, ofO, truD, c_BEYOND, unD, cmpD, Option.map]
    by_cases h1 : -big < i
    · have e1 : decide (-1000000000000000000000000000000000000000000000000000000000000 < i) = true := decide_eq_true h1
      simp only [e1, if_true, Out.andS, OutS.seq, noRef, closeSt_self, isInt]
      congr 3
      simp only [big] at h1 ⊢
      simp [h1]
    · have e1 : decide (-1000000000000000000000000000000000000000000000000000000000000 < i) = false := decide_eq_false h1
      simp only [e1, Bool.false_eq_true, if_false, Out.andS, OutS.seq, noRef, if_true, closeSt_self, isInt]
      congr 3
      exact (decide_eq_false fun z => h1 z.1).symm
  all_goals
    simp [sm_is_integer, callD, b_is_integer, execs, exec, ev, evs, whole_at h, Out.andS, Out.bind, ofO, OutS.seq, truD, noRef, closeSt_self, isWhole, isInt]
theorem isInt_int {n : Int} (h0 : -big < n) (h1 : n < big) : isInt (.int n) = true := by simp [isInt, h0, h1]
/-- what may be told by an exception -/
structure Shown (x : D) : Prop where
  isi : isiD .int x ≠ none
  mkx : ∀ st, mk_InvalidNumber [x] st = some ⟨1, [x]⟩
  pure : noRef x = true
theorem shown_of {x : D} (h1 : isiD .int x ≠ none) (h2 : depthD x ≤ 60) (h3 : (strD x).isSome = true) (h4 : noRef x = true) : Shown x where
  isi := h1
  mkx := fun st => by simp [mk_InvalidNumber, mkAlt, mkStr, h2, h3]
  pure := h4
theorem shown_int {n : Int} {k : Nat} (hk : 0 < k) (h2 : k ≤ 12900) (h : n.natAbs < 2 ^ k) : Shown (.int n) := by
  refine shown_of (by simp [isiD]) (by simp [depthD]) ?_ rfl
  have : bits n < 12900 := by
    unfold bits
    have := log2_le' h hk
    omega
  simp [strD, reprD, this]
theorem integer_req {x : D} (h : Shown x) (st : Store) : sm_require_integer [x] st = if isInt x = true then .ok .non st else .raise ⟨1, [x]⟩ st := by
  have hn : noRefs [x] = true := by simp [noRefs, h.pure]
  rw [sm_require_integer, callD_eq xm 1 0 _ [x] _ rfl, b_require_integer]
  cases hi : isInt x with
  | true =>
    simp -implicitDefEqProofs only [exs_nil, exs_cons, ex_pass, ex_brk, ex_cnt, ex_doc, ex_expr, ex_ret, ex_retN, ex_asg, ex_par, ex_setI, ex_aug, ex_ite, ex_whl, ex_for, ex_raise, ex_try,
    ev_con, ev_glob, ev_var, ev_bin, ev_un, ev_cmp, ev_chain, ev_and, ev_or, ev_not, ev_ife, ev_tup, ev_lst, ev_sub, ev_slice, ev_rev, ev_dct0, ev_call, ev_blt, ev_isi, ev_mth, ev_comp, ev_fz, evs_nil, evs_cons, evi_val, evi_range, evo_no, evo_var, evo_con, evo_bin, evo_un, evoK_int, slice_lst, slice_tup, compG_nm, compG_tp, compO_some, compB, noR_ok, wipe_nil, wipe_cons, evt_eq,
    bnd_ok, bnd_raise, andS_ok, andS_raise, seq_nx, seq_ret, seq_raise, seq_brk, seq_cnt, ofO_some, nxO_some, nxS_some, try_raise, try_ret, try_nx, asgT_nm, asgT_tp, setAll_nil, setAll_cons,
    tru_bl, tru_int, tru_non, tru_lst, tru_tup, add_int, sub_int, mul_int, fdiv_int, mod_int, neg_int, lt_int, le_int, gt_int, ge_int, eq_int, ne_int, eq_str, ne_str, is_bl, isnot_bl, abs_int, int_int, int_bl, bool_bl, max_int, min_int, gcd_int, len_lst, len_tup, tuple_lst, sub_lst, sub_tup, items_lst, items_tup, add_lst, add_tup, add_str, rev_lst, newLst_f, newLst_t, end_nx,
    List.map_cons, List.map_nil, List.length_cons, List.length_nil, List.replicate_succ, List.replicate_zero, List.cons_append, List.nil_append, List.append_nil, List.getElem?_cons_zero, List.getElem?_cons_succ, List.set_cons_zero, List.set_cons_succ, List.reverse_cons, List.reverse_nil, Option.map_some, Option.map_none,
    ev_ext, ev_fstr, ev_meth, meth_obj, fld_obj, prop_obj, own2_obj, own2_int, ownU_obj, ownC_int, bool_int, eq_bl, ne_bl, eqEnd_eq, eqEnd_ne, isC_obj, isC_non, isC_bl, isC_int, isC_str, isC_tup, isC_lst, isC_dct, ownB_str, strEnd_str, ownB_bool, blEnd_bl, ext_mk, mkEnd_1, mkEnd_2, mkEnd_3, mkEnd_4, mkEnd_5, Nat.reduceLT, ex_setA, setA_last, ofO_some,
    if_true, if_false, Bool.false_eq_true, Bool.not_true, Bool.not_false, decide_true, decide_false, Bool.and_true, Bool.true_and, Bool.false_and, Bool.and_false, Bool.or_true, Bool.true_or, Bool.or_false, Bool.false_or, Nat.zero_add, Nat.reduceAdd, reduceCtorEq, reduceIte, integer_at h.isi, hi]
    rw [closeSt_self]
  | false =>
    simp -implicitDefEqProofs only [exs_nil, exs_cons, ex_pass, ex_brk, ex_cnt, ex_doc, ex_expr, ex_ret, ex_retN, ex_asg, ex_par, ex_setI, ex_aug, ex_ite, ex_whl, ex_for, ex_raise, ex_try,
    ev_con, ev_glob, ev_var, ev_bin, ev_un, ev_cmp, ev_chain, ev_and, ev_or, ev_not, ev_ife, ev_tup, ev_lst, ev_sub, ev_slice, ev_rev, ev_dct0, ev_call, ev_blt, ev_isi, ev_mth, ev_comp, ev_fz, evs_nil, evs_cons, evi_val, evi_range, evo_no, evo_var, evo_con, evo_bin, evo_un, evoK_int, slice_lst, slice_tup, compG_nm, compG_tp, compO_some, compB, noR_ok, wipe_nil, wipe_cons, evt_eq,
    bnd_ok, bnd_raise, andS_ok, andS_raise, seq_nx, seq_ret, seq_raise, seq_brk, seq_cnt, ofO_some, nxO_some, nxS_some, try_raise, try_ret, try_nx, asgT_nm, asgT_tp, setAll_nil, setAll_cons,
    tru_bl, tru_int, tru_non, tru_lst, tru_tup, add_int, sub_int, mul_int, fdiv_int, mod_int, neg_int, lt_int, le_int, gt_int, ge_int, eq_int, ne_int, eq_str, ne_str, is_bl, isnot_bl, abs_int, int_int, int_bl, bool_bl, max_int, min_int, gcd_int, len_lst, len_tup, tuple_lst, sub_lst, sub_tup, items_lst, items_tup, add_lst, add_tup, add_str, rev_lst, newLst_f, newLst_t, end_nx,
    List.map_cons, List.map_nil, List.length_cons, List.length_nil, List.replicate_succ, List.replicate_zero, List.cons_append, List.nil_append, List.append_nil, List.getElem?_cons_zero, List.getElem?_cons_succ, List.set_cons_zero, List.set_cons_succ, List.reverse_cons, List.reverse_nil, Option.map_some, Option.map_none,
    ev_ext, ev_fstr, ev_meth, meth_obj, fld_obj, prop_obj, own2_obj, own2_int, ownU_obj, ownC_int, bool_int, eq_bl, ne_bl, eqEnd_eq, eqEnd_ne, isC_obj, isC_non, isC_bl, isC_int, isC_str, isC_tup, isC_lst, isC_dct, ownB_str, strEnd_str, ownB_bool, blEnd_bl, ext_mk, mkEnd_1, mkEnd_2, mkEnd_3, mkEnd_4, mkEnd_5, Nat.reduceLT, ex_setA, setA_last, ofO_some,
    if_true, if_false, Bool.false_eq_true, Bool.not_true, Bool.not_false, decide_true, decide_false, Bool.and_true, Bool.true_and, Bool.false_and, Bool.and_false, Bool.or_true, Bool.true_or, Bool.or_false, Bool.false_or, Nat.zero_add, Nat.reduceAdd, reduceCtorEq, reduceIte, integer_at h.isi, hi, raise_at (h.mkx _)]
    rw [end_raise hn, closeSt_self]
theorem small_of {n : Int} (h0 : -big < n) (h1 : n < big) : n.natAbs < 2 ^ 200 := by
  have : (big : Int).natAbs < 2 ^ 200 := by decide
  unfold big at *
  omega
theorem small_le {n : Int} {a b : Nat} (h : n.natAbs < 2 ^ a) (le : a ≤ b) : n.natAbs < 2 ^ b := Nat.lt_of_lt_of_le h (Nat.pow_le_pow_right (by decide) le)
end L02
set_option Elab.async false
set_option linter.all false
set_option maxRecDepth 100000
set_option maxHeartbeats 1000000
namespace L02
open Ip
open PySem (Str)
/-! ### the law's draws -/
def M61 : Int := 2305843009213693951
def Urn (k r : Nat) (st : Store) : Prop := ∃ g m c : Int, st[r]? = some (.lst [.int g, .int m, .int c]) ∧ 0 ≤ g ∧ 0 ≤ m ∧ m < M61 ∧ 0 ≤ c ∧ c ≤ k
theorem Urn.mono {k k' r : Nat} {st : Store} (h : Urn k r st) (le : k ≤ k') : Urn k' r st := by
  obtain ⟨g, m, c, h1, h2, h3, h4, h5, h6⟩ := h
  exact ⟨g, m, c, h1, h2, h3, h4, h5, by omega⟩
theorem Urn.app {k r : Nat} {st : Store} (h : Urn k r st) (l : Store) : Urn k r (st ++ l) := by
  obtain ⟨g, m, c, h1, h2⟩ := h
  have : r < st.length := (List.getElem?_eq_some_iff.mp h1).1
  exact ⟨g, m, c, by rw [List.getElem?_append_left this]; exact h1, h2⟩
theorem sub_ref3 {st : Store} {r : Nat} {a b c : D} (h : st[r]? = some (.lst [a, b, c])) : subD st (.ref r) (.int 0) = some a ∧ subD st (.ref r) (.int 1) = some b ∧ subD st (.ref r) (.int 2) = some c := by
  simp only [subD, seqOf, h]
  exact ⟨rfl, rfl, rfl⟩
theorem set_ref3 {st : Store} {r : Nat} {a b c : D} (h : st[r]? = some (.lst [a, b, c])) (v : D) : setD st (.ref r) (.int 0) v = some (st.set r (.lst [v, b, c])) ∧ setD st (.ref r) (.int 2) v = some (st.set r (.lst [a, b, v])) := by
  simp only [setD, h]
  exact ⟨rfl, rfl⟩
theorem get_set {st : Store} {r : Nat} {x y : Cell} (h : st[r]? = some x) : (st.set r y)[r]? = some y := by
  have : r < st.length := (List.getElem?_eq_some_iff.mp h).1
  rw [List.getElem?_set]; simp [this]
theorem fmod_nonneg {a b : Int} (h : 0 < b) : 0 ≤ a.fmod b ∧ a.fmod b < b := ⟨Int.fmod_nonneg_of_pos _ h, Int.fmod_lt_of_pos _ h⟩
theorem fdiv_nonneg {a b : Int} (h : 0 ≤ a) (h2 : 0 < b) : 0 ≤ a.fdiv b := Int.fdiv_nonneg h (by omega)
theorem few {t : Int} (h : t.natAbs < 2 ^ 20) : t.natAbs < 2 ^ 8999 := Nat.lt_of_lt_of_le h (Nat.pow_le_pow_right (by decide) (by decide))
theorem take_at {k r : Nat} {st : Store} (h : Urn k r st) (hk : k < 2 ^ 60) {t : Int} (ht : 0 < t) (ht2 : t.natAbs < 2 ^ 8999) :
    ∃ v st', sm__law_take [.ref r, .int t] st = .ok (.int v) st' ∧ 0 ≤ v ∧ v < t ∧ Urn (k + 1) r st' ∧ st'.length = st.length := by
  obtain ⟨g, m, c, h1, h2, h3, h4, h5, h6⟩ := h
  obtain ⟨e0, e1, e2⟩ := sub_ref3 h1
  have ht0 : t ≠ 0 := by omega
  have hd : divOk t = true := div_ok 8999 ht0 ht2 (by decide) (by decide)
  have hcall : sm__law_take [.ref r, .int t] st = endO st (execs xm b__law_take ([.ref r, .int t].map some ++ List.replicate 3 none) st) := by rw [sm__law_take, callD_eq xm 2 3 _ [.ref r, .int t] _ rfl]
  rw [hcall, b__law_take]
  by_cases hg : 0 < g
  · obtain ⟨s0, s2⟩ := set_ref3 h1 (.int (g.fdiv t))
    refine ⟨g.fmod t, st.set r (.lst [.int (g.fdiv t), .int m, .int c]), ?_, (fmod_nonneg ht).1, (fmod_nonneg ht).2, ⟨_, m, c, get_set h1, fdiv_nonneg h2 ht, h3, h4, h5, by omega⟩, by simp⟩
    simp -implicitDefEqProofs only [exs_nil, exs_cons, ex_pass, ex_brk, ex_cnt, ex_doc, ex_expr, ex_ret, ex_retN, ex_asg, ex_par, ex_setI, ex_aug, ex_ite, ex_whl, ex_for, ex_raise, ex_try,
    ev_con, ev_glob, ev_var, ev_bin, ev_un, ev_cmp, ev_chain, ev_and, ev_or, ev_not, ev_ife, ev_tup, ev_lst, ev_sub, ev_slice, ev_rev, ev_dct0, ev_call, ev_blt, ev_isi, ev_mth, ev_comp, ev_fz, evs_nil, evs_cons, evi_val, evi_range, evo_no, evo_var, evo_con, evo_bin, evo_un, evoK_int, slice_lst, slice_tup, compG_nm, compG_tp, compO_some, compB, noR_ok, wipe_nil, wipe_cons, evt_eq,
    bnd_ok, bnd_raise, andS_ok, andS_raise, seq_nx, seq_ret, seq_raise, seq_brk, seq_cnt, ofO_some, nxO_some, nxS_some, try_raise, try_ret, try_nx, asgT_nm, asgT_tp, setAll_nil, setAll_cons,
    tru_bl, tru_int, tru_non, tru_lst, tru_tup, add_int, sub_int, mul_int, fdiv_int, mod_int, neg_int, lt_int, le_int, gt_int, ge_int, eq_int, ne_int, eq_str, ne_str, is_bl, isnot_bl, abs_int, int_int, int_bl, bool_bl, max_int, min_int, gcd_int, len_lst, len_tup, tuple_lst, sub_lst, sub_tup, items_lst, items_tup, add_lst, add_tup, add_str, rev_lst, newLst_f, newLst_t, end_nx,
    List.map_cons, List.map_nil, List.length_cons, List.length_nil, List.replicate_succ, List.replicate_zero, List.cons_append, List.nil_append, List.append_nil, List.getElem?_cons_zero, List.getElem?_cons_succ, List.set_cons_zero, List.set_cons_succ, List.reverse_cons, List.reverse_nil, Option.map_some, Option.map_none,
    ev_ext, ev_fstr, ev_meth, meth_obj, fld_obj, prop_obj, own2_obj, own2_int, ownU_obj, ownC_int, bool_int, eq_bl, ne_bl, eqEnd_eq, eqEnd_ne, isC_obj, isC_non, isC_bl, isC_int, isC_str, isC_tup, isC_lst, isC_dct, ownB_str, strEnd_str, ownB_bool, blEnd_bl, ext_mk, mkEnd_1, mkEnd_2, mkEnd_3, mkEnd_4, mkEnd_5, Nat.reduceLT, ex_setA, setA_last, ofO_some,
    if_true, if_false, Bool.false_eq_true, Bool.not_true, Bool.not_false, decide_true, decide_false, Bool.and_true, Bool.true_and, Bool.false_and, Bool.and_false, Bool.or_true, Bool.true_or, Bool.or_false, Bool.false_or, Nat.zero_add, Nat.reduceAdd, reduceCtorEq, reduceIte, e0, e1, e2, hg, hd, ht0, s0, ne_eq, not_false_eq_true]
    rw [end_ret rfl, closeSt_len (by simp)]
  · obtain ⟨s0, s2⟩ := set_ref3 h1 (.int (c + 1))
    have g1 : (st.set r (.lst [.int g, .int m, .int (c + 1)]))[r]? = some (.lst [.int g, .int m, .int (c + 1)]) := get_set h1
    obtain ⟨f0, f1, f2⟩ := sub_ref3 g1
    have p60 : (2 : Nat) ^ 60 = 1152921504606846976 := by decide
    have p61 : (2 : Nat) ^ 61 = 2305843009213693952 := by decide
    have p80 : (2 : Nat) ^ 80 = 1208925819614629174706176 := by decide
    have m1 : mulOk 1299709 (c + 1) = true := mul_ok 61 61 (by omega) (by omega) (by decide) (by decide) (by decide)
    have m2 : mulOk 15485863 (c + 1) = true := mul_ok 61 61 (by omega) (by omega) (by decide) (by decide) (by decide)
    generalize hone : (m + 1299709 * (c + 1)).fmod 2305843009213693951 = one
    have one1 : 0 ≤ one ∧ one < 2305843009213693951 := by rw [← hone]; exact fmod_nonneg (by decide)
    have m3 : mulOk one one = true := mul_ok 61 61 (by omega) (by omega) (by decide) (by decide) (by decide)
    generalize htwo : (one * one + 15485863 * (c + 1)).fmod 1152921504606846883 = two
    have two1 : 0 ≤ two ∧ two < 1152921504606846883 := by rw [← htwo]; exact fmod_nonneg (by decide)
    have m4 : mulOk two 179424673 = true := mul_ok 61 61 (by omega) (by omega) (by decide) (by decide) (by decide)
    have d1 : divOk 8192 = true := by decide
    refine ⟨(((two * 179424673 + one).fmod 2305843009213693921).fdiv 8192).fmod t, st.set r (.lst [.int g, .int m, .int (c + 1)]), ?_, (fmod_nonneg ht).1, (fmod_nonneg ht).2, ⟨g, m, c + 1, g1, h2, h3, h4, by omega, by omega⟩, by simp⟩
    have n1 : (2305843009213693951 : Int) ≠ 0 := by decide
    have n2 : (1152921504606846883 : Int) ≠ 0 := by decide
    have n3 : (2305843009213693921 : Int) ≠ 0 := by decide
    simp -implicitDefEqProofs only [exs_nil, exs_cons, ex_pass, ex_brk, ex_cnt, ex_doc, ex_expr, ex_ret, ex_retN, ex_asg, ex_par, ex_setI, ex_aug, ex_ite, ex_whl, ex_for, ex_raise, ex_try,
    ev_con, ev_glob, ev_var, ev_bin, ev_un, ev_cmp, ev_chain, ev_and, ev_or, ev_not, ev_ife, ev_tup, ev_lst, ev_sub, ev_slice, ev_rev, ev_dct0, ev_call, ev_blt, ev_isi, ev_mth, ev_comp, ev_fz, evs_nil, evs_cons, evi_val, evi_range, evo_no, evo_var, evo_con, evo_bin, evo_un, evoK_int, slice_lst, slice_tup, compG_nm, compG_tp, compO_some, compB, noR_ok, wipe_nil, wipe_cons, evt_eq,
    bnd_ok, bnd_raise, andS_ok, andS_raise, seq_nx, seq_ret, seq_raise, seq_brk, seq_cnt, ofO_some, nxO_some, nxS_some, try_raise, try_ret, try_nx, asgT_nm, asgT_tp, setAll_nil, setAll_cons,
    tru_bl, tru_int, tru_non, tru_lst, tru_tup, add_int, sub_int, mul_int, fdiv_int, mod_int, neg_int, lt_int, le_int, gt_int, ge_int, eq_int, ne_int, eq_str, ne_str, is_bl, isnot_bl, abs_int, int_int, int_bl, bool_bl, max_int, min_int, gcd_int, len_lst, len_tup, tuple_lst, sub_lst, sub_tup, items_lst, items_tup, add_lst, add_tup, add_str, rev_lst, newLst_f, newLst_t, end_nx,
    List.map_cons, List.map_nil, List.length_cons, List.length_nil, List.replicate_succ, List.replicate_zero, List.cons_append, List.nil_append, List.append_nil, List.getElem?_cons_zero, List.getElem?_cons_succ, List.set_cons_zero, List.set_cons_succ, List.reverse_cons, List.reverse_nil, Option.map_some, Option.map_none,
    ev_ext, ev_fstr, ev_meth, meth_obj, fld_obj, prop_obj, own2_obj, own2_int, ownU_obj, ownC_int, bool_int, eq_bl, ne_bl, eqEnd_eq, eqEnd_ne, isC_obj, isC_non, isC_bl, isC_int, isC_str, isC_tup, isC_lst, isC_dct, ownB_str, strEnd_str, ownB_bool, blEnd_bl, ext_mk, mkEnd_1, mkEnd_2, mkEnd_3, mkEnd_4, mkEnd_5, Nat.reduceLT, ex_setA, setA_last, ofO_some,
    if_true, if_false, Bool.false_eq_true, Bool.not_true, Bool.not_false, decide_true, decide_false, Bool.and_true, Bool.true_and, Bool.false_and, Bool.and_false, Bool.or_true, Bool.true_or, Bool.or_false, Bool.false_or, Nat.zero_add, Nat.reduceAdd, reduceCtorEq, reduceIte, e0, e1, e2, hg, hd, ht0, s2, f0, f1, f2, m1, m2, m3, m4, d1, hone, htwo, n1, n2, n3, ne_eq, not_false_eq_true]
    rw [end_ret rfl, closeSt_len (by simp)]
theorem take_small {k r : Nat} {st : Store} (h : Urn k r st) (hk : k < 2 ^ 60) {t : Int} (ht : 0 < t) (ht2 : t.natAbs < 2 ^ 20) :
    ∃ v st', sm__law_take [.ref r, .int t] st = .ok (.int v) st' ∧ 0 ≤ v ∧ v < t ∧ Urn (k + 1) r st' ∧ st'.length = st.length := take_at h hk ht (few ht2)
/-- one of some items -/
theorem some_at {k r : Nat} {st : Store} (h : Urn k r st) (hk : k < 2 ^ 60) (xs : List D) (hx : xs ≠ []) (hl : xs.length < 100000) (hn : ∀ x ∈ xs, noRef x = true) :
    ∃ x st', sm__law_some [.ref r, .lst xs] st = .ok x st' ∧ x ∈ xs ∧ Urn (k + 1) r st' ∧ st'.length = st.length := by
  have hp : 0 < xs.length := List.length_pos_iff.mpr hx
  obtain ⟨v, st', e, v0, v1, u, l⟩ := take_at h hk (t := (xs.length : Int)) (by omega) (by
    refine Nat.lt_of_lt_of_le (m := 2 ^ 17) (by omega) (Nat.pow_le_pow_right (by decide) (by decide)))
  obtain ⟨i, rfl⟩ := Int.eq_ofNat_of_zero_le v0
  have hi : i < xs.length := by omega
  refine ⟨xs[i], st', ?_, List.getElem_mem hi, u, l⟩
  have ha : L2.atI xs (i : Int) = some xs[i] := by rw [atI_nat, List.getElem?_eq_getElem hi]
  rw [sm__law_some, callD_eq xm 2 0 _ [.ref r, .lst xs] _ rfl, b__law_some]
  simp -implicitDefEqProofs only [exs_nil, exs_cons, ex_pass, ex_brk, ex_cnt, ex_doc, ex_expr, ex_ret, ex_retN, ex_asg, ex_par, ex_setI, ex_aug, ex_ite, ex_whl, ex_for, ex_raise, ex_try,
    ev_con, ev_glob, ev_var, ev_bin, ev_un, ev_cmp, ev_chain, ev_and, ev_or, ev_not, ev_ife, ev_tup, ev_lst, ev_sub, ev_slice, ev_rev, ev_dct0, ev_call, ev_blt, ev_isi, ev_mth, ev_comp, ev_fz, evs_nil, evs_cons, evi_val, evi_range, evo_no, evo_var, evo_con, evo_bin, evo_un, evoK_int, slice_lst, slice_tup, compG_nm, compG_tp, compO_some, compB, noR_ok, wipe_nil, wipe_cons, evt_eq,
    bnd_ok, bnd_raise, andS_ok, andS_raise, seq_nx, seq_ret, seq_raise, seq_brk, seq_cnt, ofO_some, nxO_some, nxS_some, try_raise, try_ret, try_nx, asgT_nm, asgT_tp, setAll_nil, setAll_cons,
    tru_bl, tru_int, tru_non, tru_lst, tru_tup, add_int, sub_int, mul_int, fdiv_int, mod_int, neg_int, lt_int, le_int, gt_int, ge_int, eq_int, ne_int, eq_str, ne_str, is_bl, isnot_bl, abs_int, int_int, int_bl, bool_bl, max_int, min_int, gcd_int, len_lst, len_tup, tuple_lst, sub_lst, sub_tup, items_lst, items_tup, add_lst, add_tup, add_str, rev_lst, newLst_f, newLst_t, end_nx,
    List.map_cons, List.map_nil, List.length_cons, List.length_nil, List.replicate_succ, List.replicate_zero, List.cons_append, List.nil_append, List.append_nil, List.getElem?_cons_zero, List.getElem?_cons_succ, List.set_cons_zero, List.set_cons_succ, List.reverse_cons, List.reverse_nil, Option.map_some, Option.map_none,
    ev_ext, ev_fstr, ev_meth, meth_obj, fld_obj, prop_obj, own2_obj, own2_int, ownU_obj, ownC_int, bool_int, eq_bl, ne_bl, eqEnd_eq, eqEnd_ne, isC_obj, isC_non, isC_bl, isC_int, isC_str, isC_tup, isC_lst, isC_dct, ownB_str, strEnd_str, ownB_bool, blEnd_bl, ext_mk, mkEnd_1, mkEnd_2, mkEnd_3, mkEnd_4, mkEnd_5, Nat.reduceLT, ex_setA, setA_last, ofO_some,
    if_true, if_false, Bool.false_eq_true, Bool.not_true, Bool.not_false, decide_true, decide_false, Bool.and_true, Bool.true_and, Bool.false_and, Bool.and_false, Bool.or_true, Bool.true_or, Bool.or_false, Bool.false_or, Nat.zero_add, Nat.reduceAdd, reduceCtorEq, reduceIte, e, ha, Int.ofNat_eq_natCast]
  rw [end_ret (hn _ (List.getElem_mem hi)), closeSt_len l]
theorem p10_18 (st : Store) : binD .pow st (.int 10) (.int 18) = some (.int (10 ^ 18)) := pow_at (by decide) (by decide) st
theorem p10_40 (st : Store) : binD .pow st (.int 10) (.int 40) = some (.int (10 ^ 40)) := pow_at (by decide) (by decide) st
theorem p10_50 (st : Store) : binD .pow st (.int 10) (.int 50) = some (.int (10 ^ 50)) := pow_at (by decide) (by decide) st
theorem p10_650 (st : Store) : binD .pow st (.int (10 ^ 50)) (.int 13) = some (.int ((10 ^ 50) ^ 13)) := pow_at (by decide) (by decide) st
theorem turn_urn {m n a : Int} {L : D} (h0 : 0 ≤ m) (h1 : m < M61) (st : Store) : ∃ m' : Int, 0 ≤ m' ∧ m' < M61 ∧
    execs xm l1__law_urn [some L, some (.int a), some (.int m), some (.int n), none] st = .nx [some L, some (.int a), some (.int m'), some (.int n), none] st := by
  have hn : (0 : Int) ≤ (n.natAbs : Int).fmod (10 ^ 40) ∧ (n.natAbs : Int).fmod (10 ^ 40) < 10 ^ 40 := fmod_nonneg (by decide)
  have e40 : (10 : Int) ^ 40 = 10000000000000000000000000000000000000000 := by decide
  have p61 : (2 : Nat) ^ 61 = 2305843009213693952 := by decide
  have p150 : (2 : Nat) ^ 150 = 1427247692705959881058285969449495136382746624 := by decide
  have m1 : mulOk m 6700417 = true := mul_ok 61 61 (by unfold M61 at h1; omega) (by omega) (by decide) (by decide) (by decide)
  have m2 : mulOk ((n.natAbs : Int).fmod (10 ^ 40)) 5 = true := mul_ok 150 61 (by rw [e40] at hn ⊢; omega) (by omega) (by decide) (by decide) (by decide)
  have m3 : mulOk (if decide (0 < n) = true then (1 : Int) else 0) 3 = true := by split <;> decide
  have n1 : (10 : Int) ^ 40 ≠ 0 := by decide
  have n2 : (2305843009213693951 : Int) ≠ 0 := by decide
  refine ⟨(m * 6700417 + (n.natAbs : Int).fmod (10 ^ 40) * 5 + (if decide (0 < n) = true then (1 : Int) else 0) * 3).fmod 2305843009213693951, (fmod_nonneg (by decide)).1, (fmod_nonneg (by decide)).2, ?_⟩
  rw [l1__law_urn]
  simp -implicitDefEqProofs only [exs_nil, exs_cons, ex_pass, ex_brk, ex_cnt, ex_doc, ex_expr, ex_ret, ex_retN, ex_asg, ex_par, ex_setI, ex_aug, ex_ite, ex_whl, ex_for, ex_raise, ex_try,
    ev_con, ev_glob, ev_var, ev_bin, ev_un, ev_cmp, ev_chain, ev_and, ev_or, ev_not, ev_ife, ev_tup, ev_lst, ev_sub, ev_slice, ev_rev, ev_dct0, ev_call, ev_blt, ev_isi, ev_mth, ev_comp, ev_fz, evs_nil, evs_cons, evi_val, evi_range, evo_no, evo_var, evo_con, evo_bin, evo_un, evoK_int, slice_lst, slice_tup, compG_nm, compG_tp, compO_some, compB, noR_ok, wipe_nil, wipe_cons, evt_eq,
    bnd_ok, bnd_raise, andS_ok, andS_raise, seq_nx, seq_ret, seq_raise, seq_brk, seq_cnt, ofO_some, nxO_some, nxS_some, try_raise, try_ret, try_nx, asgT_nm, asgT_tp, setAll_nil, setAll_cons,
    tru_bl, tru_int, tru_non, tru_lst, tru_tup, add_int, sub_int, mul_int, fdiv_int, mod_int, neg_int, lt_int, le_int, gt_int, ge_int, eq_int, ne_int, eq_str, ne_str, is_bl, isnot_bl, abs_int, int_int, int_bl, bool_bl, max_int, min_int, gcd_int, len_lst, len_tup, tuple_lst, sub_lst, sub_tup, items_lst, items_tup, add_lst, add_tup, add_str, rev_lst, newLst_f, newLst_t, end_nx,
    List.map_cons, List.map_nil, List.length_cons, List.length_nil, List.replicate_succ, List.replicate_zero, List.cons_append, List.nil_append, List.append_nil, List.getElem?_cons_zero, List.getElem?_cons_succ, List.set_cons_zero, List.set_cons_succ, List.reverse_cons, List.reverse_nil, Option.map_some, Option.map_none,
    ev_ext, ev_fstr, ev_meth, meth_obj, fld_obj, prop_obj, own2_obj, own2_int, ownU_obj, ownC_int, bool_int, eq_bl, ne_bl, eqEnd_eq, eqEnd_ne, isC_obj, isC_non, isC_bl, isC_int, isC_str, isC_tup, isC_lst, isC_dct, ownB_str, strEnd_str, ownB_bool, blEnd_bl, ext_mk, mkEnd_1, mkEnd_2, mkEnd_3, mkEnd_4, mkEnd_5, Nat.reduceLT, ex_setA, setA_last, ofO_some,
    if_true, if_false, Bool.false_eq_true, Bool.not_true, Bool.not_false, decide_true, decide_false, Bool.and_true, Bool.true_and, Bool.false_and, Bool.and_false, Bool.or_true, Bool.true_or, Bool.or_false, Bool.false_or, Nat.zero_add, Nat.reduceAdd, reduceCtorEq, reduceIte, m1, m2, m3, n1, n2, p10_40, ne_eq, not_false_eq_true]
theorem urn_at (ns : List Int) (hns : ns.length ≤ 63) (at_ : Nat) (ha : at_ ≤ 1000) {st : Store} : ∃ st', sm__law_urn [.lst (ns.map D.int), .int (at_ : Int)] st = .ok (.ref st.length) st' ∧ Urn 0 st.length st' ∧ st'.length = st.length + 1 := by
  have n3 : ((10 : Int) ^ 50) ^ 13 ≠ 0 := by decide
  have m0 : mulOk 433494437 (at_ : Int) = true := mul_ok 61 61 (by omega) (by omega) (by decide) (by decide) (by decide)
  have hl : (cutD (ns.map D.int) (some (at_ : Int)) none).length ≤ 63 := by
    unfold cutD
    simp only [List.length_take, List.length_drop, List.length_map]
    omega
  obtain ⟨σ', st', e, m, x, rfl, rfl, hm0, hm1⟩ := forL_inv (t := .nm 3) (b := execs xm l1__law_urn) (I := fun _ σ st' => ∃ (m : Int) (x : Option D), σ = [some (.lst (ns.map D.int)), some (.int (at_ : Int)), some (.int m), x, none] ∧ st' = st ∧ 0 ≤ m ∧ m < M61) (cutD (ns.map D.int) (some (at_ : Int)) none)
    (by
      rintro i x σ st1 hx ⟨m, y, rfl, rfl, h0, h1⟩
      obtain ⟨n, _, rfl⟩ := List.mem_map.mp (mem_cut (List.mem_of_getElem? hx))
      obtain ⟨m', k0, k1, k2⟩ := turn_urn (n := n) (a := (at_ : Int)) (L := .lst (ns.map D.int)) h0 h1 st1
      exact ⟨_, rfl, .inl ⟨_, _, k2, m', some (.int n), rfl, rfl, k0, k1⟩⟩)
    [some (.lst (ns.map D.int)), some (.int (at_ : Int)), some (.int (433494437 * (at_ : Int) + 28657)), none, none] st ⟨_, none, rfl, rfl, by omega, by unfold M61; omega⟩
  have hrun : forRun (.nm 3) (execs xm l1__law_urn) (.seq (cutD (ns.map D.int) (some (at_ : Int)) none)) fuelD 0 [some (.lst (ns.map D.int)), some (.int (at_ : Int)), some (.int (433494437 * (at_ : Int) + 28657)), none, none] st' = .nx [some (.lst (ns.map D.int)), some (.int (at_ : Int)), some (.int m), x, none] st' := by
    rw [forRun_all _ _ _ _ _ (by unfold fuelD; omega)]
    exact e
  have fin : ∀ g : Int, Urn 0 st'.length (st' ++ [.lst [.int (max 0 (g - 10 ^ 18)), .int m, .int 0]]) := fun g =>
    ⟨max 0 (g - 10 ^ 18), m, 0, by simp, by omega, hm0, hm1, by omega, by omega⟩
  by_cases hat : at_ < ns.length
  · have hat' : (at_ : Int) < (ns.length : Int) := by omega
    have hsub : L2.atI (ns.map D.int) (at_ : Int) = some (.int ns[at_]) := by
      rw [atI_nat, List.getElem?_map, List.getElem?_eq_getElem hat]; rfl
    refine ⟨_, ?_, fin (((ns[at_]).natAbs : Int).fmod ((10 ^ 50) ^ 13)), by simp⟩
    rw [sm__law_urn, callD_eq xm 2 3 _ [.lst (ns.map D.int), .int (at_ : Int)] _ rfl, b__law_urn]
    simp -implicitDefEqProofs only [exs_nil, exs_cons, ex_pass, ex_brk, ex_cnt, ex_doc, ex_expr, ex_ret, ex_retN, ex_asg, ex_par, ex_setI, ex_aug, ex_ite, ex_whl, ex_for, ex_raise, ex_try,
    ev_con, ev_glob, ev_var, ev_bin, ev_un, ev_cmp, ev_chain, ev_and, ev_or, ev_not, ev_ife, ev_tup, ev_lst, ev_sub, ev_slice, ev_rev, ev_dct0, ev_call, ev_blt, ev_isi, ev_mth, ev_comp, ev_fz, evs_nil, evs_cons, evi_val, evi_range, evo_no, evo_var, evo_con, evo_bin, evo_un, evoK_int, slice_lst, slice_tup, compG_nm, compG_tp, compO_some, compB, noR_ok, wipe_nil, wipe_cons, evt_eq,
    bnd_ok, bnd_raise, andS_ok, andS_raise, seq_nx, seq_ret, seq_raise, seq_brk, seq_cnt, ofO_some, nxO_some, nxS_some, try_raise, try_ret, try_nx, asgT_nm, asgT_tp, setAll_nil, setAll_cons,
    tru_bl, tru_int, tru_non, tru_lst, tru_tup, add_int, sub_int, mul_int, fdiv_int, mod_int, neg_int, lt_int, le_int, gt_int, ge_int, eq_int, ne_int, eq_str, ne_str, is_bl, isnot_bl, abs_int, int_int, int_bl, bool_bl, max_int, min_int, gcd_int, len_lst, len_tup, tuple_lst, sub_lst, sub_tup, items_lst, items_tup, add_lst, add_tup, add_str, rev_lst, newLst_f, newLst_t, end_nx,
    List.map_cons, List.map_nil, List.length_cons, List.length_nil, List.replicate_succ, List.replicate_zero, List.cons_append, List.nil_append, List.append_nil, List.getElem?_cons_zero, List.getElem?_cons_succ, List.set_cons_zero, List.set_cons_succ, List.reverse_cons, List.reverse_nil, Option.map_some, Option.map_none,
    ev_ext, ev_fstr, ev_meth, meth_obj, fld_obj, prop_obj, own2_obj, own2_int, ownU_obj, ownC_int, bool_int, eq_bl, ne_bl, eqEnd_eq, eqEnd_ne, isC_obj, isC_non, isC_bl, isC_int, isC_str, isC_tup, isC_lst, isC_dct, ownB_str, strEnd_str, ownB_bool, blEnd_bl, ext_mk, mkEnd_1, mkEnd_2, mkEnd_3, mkEnd_4, mkEnd_5, Nat.reduceLT, ex_setA, setA_last, ofO_some,
    if_true, if_false, Bool.false_eq_true, Bool.not_true, Bool.not_false, decide_true, decide_false, Bool.and_true, Bool.true_and, Bool.false_and, Bool.and_false, Bool.or_true, Bool.true_or, Bool.or_false, Bool.false_or, Nat.zero_add, Nat.reduceAdd, reduceCtorEq, reduceIte, m0, hrun, hat', hsub, p10_50, p10_650, p10_18, n3, ne_eq, not_false_eq_true, List.length_map]
    have hz : szOk 3 = true := by decide
    simp -implicitDefEqProofs only [exs_nil, exs_cons, ex_pass, ex_brk, ex_cnt, ex_doc, ex_expr, ex_ret, ex_retN, ex_asg, ex_par, ex_setI, ex_aug, ex_ite, ex_whl, ex_for, ex_raise, ex_try,
    ev_con, ev_glob, ev_var, ev_bin, ev_un, ev_cmp, ev_chain, ev_and, ev_or, ev_not, ev_ife, ev_tup, ev_lst, ev_sub, ev_slice, ev_rev, ev_dct0, ev_call, ev_blt, ev_isi, ev_mth, ev_comp, ev_fz, evs_nil, evs_cons, evi_val, evi_range, evo_no, evo_var, evo_con, evo_bin, evo_un, evoK_int, slice_lst, slice_tup, compG_nm, compG_tp, compO_some, compB, noR_ok, wipe_nil, wipe_cons, evt_eq,
    bnd_ok, bnd_raise, andS_ok, andS_raise, seq_nx, seq_ret, seq_raise, seq_brk, seq_cnt, ofO_some, nxO_some, nxS_some, try_raise, try_ret, try_nx, asgT_nm, asgT_tp, setAll_nil, setAll_cons,
    tru_bl, tru_int, tru_non, tru_lst, tru_tup, add_int, sub_int, mul_int, fdiv_int, mod_int, neg_int, lt_int, le_int, gt_int, ge_int, eq_int, ne_int, eq_str, ne_str, is_bl, isnot_bl, abs_int, int_int, int_bl, bool_bl, max_int, min_int, gcd_int, len_lst, len_tup, tuple_lst, sub_lst, sub_tup, items_lst, items_tup, add_lst, add_tup, add_str, rev_lst, newLst_f, newLst_t, end_nx,
    List.map_cons, List.map_nil, List.length_cons, List.length_nil, List.replicate_succ, List.replicate_zero, List.cons_append, List.nil_append, List.append_nil, List.getElem?_cons_zero, List.getElem?_cons_succ, List.set_cons_zero, List.set_cons_succ, List.reverse_cons, List.reverse_nil, Option.map_some, Option.map_none,
    ev_ext, ev_fstr, ev_meth, meth_obj, fld_obj, prop_obj, own2_obj, own2_int, ownU_obj, ownC_int, bool_int, eq_bl, ne_bl, eqEnd_eq, eqEnd_ne, isC_obj, isC_non, isC_bl, isC_int, isC_str, isC_tup, isC_lst, isC_dct, ownB_str, strEnd_str, ownB_bool, blEnd_bl, ext_mk, mkEnd_1, mkEnd_2, mkEnd_3, mkEnd_4, mkEnd_5, Nat.reduceLT, ex_setA, setA_last, ofO_some,
    if_true, if_false, Bool.false_eq_true, Bool.not_true, Bool.not_false, decide_true, decide_false, Bool.and_true, Bool.true_and, Bool.false_and, Bool.and_false, Bool.or_true, Bool.true_or, Bool.or_false, Bool.false_or, Nat.zero_add, Nat.reduceAdd, reduceCtorEq, reduceIte, hz]
    rw [end_ref rfl]
  · have hat' : ¬ (at_ : Int) < (ns.length : Int) := by omega
    refine ⟨_, ?_, fin 0, by simp⟩
    rw [sm__law_urn, callD_eq xm 2 3 _ [.lst (ns.map D.int), .int (at_ : Int)] _ rfl, b__law_urn]
    have hz : szOk 3 = true := by decide
    simp -implicitDefEqProofs only [exs_nil, exs_cons, ex_pass, ex_brk, ex_cnt, ex_doc, ex_expr, ex_ret, ex_retN, ex_asg, ex_par, ex_setI, ex_aug, ex_ite, ex_whl, ex_for, ex_raise, ex_try,
    ev_con, ev_glob, ev_var, ev_bin, ev_un, ev_cmp, ev_chain, ev_and, ev_or, ev_not, ev_ife, ev_tup, ev_lst, ev_sub, ev_slice, ev_rev, ev_dct0, ev_call, ev_blt, ev_isi, ev_mth, ev_comp, ev_fz, evs_nil, evs_cons, evi_val, evi_range, evo_no, evo_var, evo_con, evo_bin, evo_un, evoK_int, slice_lst, slice_tup, compG_nm, compG_tp, compO_some, compB, noR_ok, wipe_nil, wipe_cons, evt_eq,
    bnd_ok, bnd_raise, andS_ok, andS_raise, seq_nx, seq_ret, seq_raise, seq_brk, seq_cnt, ofO_some, nxO_some, nxS_some, try_raise, try_ret, try_nx, asgT_nm, asgT_tp, setAll_nil, setAll_cons,
    tru_bl, tru_int, tru_non, tru_lst, tru_tup, add_int, sub_int, mul_int, fdiv_int, mod_int, neg_int, lt_int, le_int, gt_int, ge_int, eq_int, ne_int, eq_str, ne_str, is_bl, isnot_bl, abs_int, int_int, int_bl, bool_bl, max_int, min_int, gcd_int, len_lst, len_tup, tuple_lst, sub_lst, sub_tup, items_lst, items_tup, add_lst, add_tup, add_str, rev_lst, newLst_f, newLst_t, end_nx,
    List.map_cons, List.map_nil, List.length_cons, List.length_nil, List.replicate_succ, List.replicate_zero, List.cons_append, List.nil_append, List.append_nil, List.getElem?_cons_zero, List.getElem?_cons_succ, List.set_cons_zero, List.set_cons_succ, List.reverse_cons, List.reverse_nil, Option.map_some, Option.map_none,
    ev_ext, ev_fstr, ev_meth, meth_obj, fld_obj, prop_obj, own2_obj, own2_int, ownU_obj, ownC_int, bool_int, eq_bl, ne_bl, eqEnd_eq, eqEnd_ne, isC_obj, isC_non, isC_bl, isC_int, isC_str, isC_tup, isC_lst, isC_dct, ownB_str, strEnd_str, ownB_bool, blEnd_bl, ext_mk, mkEnd_1, mkEnd_2, mkEnd_3, mkEnd_4, mkEnd_5, Nat.reduceLT, ex_setA, setA_last, ofO_some,
    if_true, if_false, Bool.false_eq_true, Bool.not_true, Bool.not_false, decide_true, decide_false, Bool.and_true, Bool.true_and, Bool.false_and, Bool.and_false, Bool.or_true, Bool.true_or, Bool.or_false, Bool.false_or, Nat.zero_add, Nat.reduceAdd, reduceCtorEq, reduceIte, m0, hrun, hat', hz, p10_50, p10_650, p10_18, n3, ne_eq, not_false_eq_true, List.length_map]
    rw [end_ref rfl]
theorem range_k {k : Nat} (hk : k ≤ 100000) : rangeD [.int (k : Int)] = some ((List.range k).map fun (j : Nat) => D.int (0 + (j : Int))) := by
  have h : (-2 ^ 62 : Int) ≤ (k : Int) ∧ (k : Int) < 2 ^ 62 := by omega
  simp only [rangeD, if_pos h, Int.toNat_natCast]
/-- a loop over a range, by an invariant -/
theorem range_inv {v : Nat} {b : EnvD → Store → OutS} (I : Nat → EnvD → Store → Prop) (k : Nat) (hk : k ≤ 100000)
    (turn : ∀ (i : Nat) (σ : EnvD) (st : Store), i < k → I i σ st → (∃ σ2 st2, b (σ.set v (some (.int (i : Int)))) st = .nx σ2 st2 ∧ I (i + 1) σ2 st2) ∨ (∃ σ2 st2, b (σ.set v (some (.int (i : Int)))) st = .cnt σ2 st2 ∧ I (i + 1) σ2 st2))
    (σ : EnvD) (st : Store) (h : I 0 σ st) : ∃ σ' st', forRun (.nm v) b (.seq ((List.range k).map fun (j : Nat) => D.int (0 + (j : Int)))) fuelD 0 σ st = .nx σ' st' ∧ I k σ' st' := by
  rw [forRun_all _ _ _ _ _ (by simp [fuelD]; omega)]
  have := forL_inv (t := .nm v) (b := b) I ((List.range k).map fun (j : Nat) => D.int (0 + (j : Int))) (by
    intro i x σ st1 hx hI
    rw [List.getElem?_map] at hx
    obtain ⟨j, hj, rfl⟩ := Option.map_eq_some_iff.mp hx
    obtain ⟨hi, rfl⟩ := List.getElem?_eq_some_iff.mp hj
    simp only [List.getElem_range, List.length_range] at hi ⊢
    refine ⟨_, rfl, ?_⟩
    rw [Int.zero_add]
    exact turn i σ st1 hi hI) σ st h
  simpa only [List.length_map, List.length_range] using this
end L02
set_option Elab.async false
set_option linter.all false
set_option maxRecDepth 100000
set_option maxHeartbeats 2000000
set_option exponentiation.threshold 20000
namespace L02
open Ip
open PySem (Str)
/-! ### pairs in lowest terms -/
structure Low (T B : Int) : Prop where
  pos : 0 < B
  co : Nat.gcd T.natAbs B.natAbs = 1
theorem low_unique {T B T' B' : Int} (h : Low T B) (k : Low T' B') (e : T * B' = T' * B) : T = T' ∧ B = B' := by
  have e1 : T.natAbs * B'.natAbs = T'.natAbs * B.natAbs := by rw [← Int.natAbs_mul, ← Int.natAbs_mul, e]
  have d1 : B.natAbs ∣ B'.natAbs := by
    have c : Nat.Coprime B.natAbs T.natAbs := by unfold Nat.Coprime; rw [Nat.gcd_comm]; exact h.co
    exact c.dvd_of_dvd_mul_left (e1 ▸ Nat.dvd_mul_left _ _)
  have d2 : B'.natAbs ∣ B.natAbs := by
    have c : Nat.Coprime B'.natAbs T'.natAbs := by unfold Nat.Coprime; rw [Nat.gcd_comm]; exact k.co
    exact c.dvd_of_dvd_mul_left (e1 ▸ Nat.dvd_mul_left _ _)
  have e2 : B.natAbs = B'.natAbs := Nat.dvd_antisymm d1 d2
  have e3 : B = B' := by have := h.pos; have := k.pos; omega
  subst e3
  exact ⟨Int.eq_of_mul_eq_mul_right (by have := h.pos; omega) e, rfl⟩
def lwS (a b : Int) : Int := if b < 0 then -((Nat.gcd a.natAbs b.natAbs : Nat) : Int) else ((Nat.gcd a.natAbs b.natAbs : Nat) : Int)
def lwT (a b : Int) : Int := a.fdiv (lwS a b)
def lwB (a b : Int) : Int := b.fdiv (lwS a b)
theorem lwS_abs (a b : Int) : (lwS a b).natAbs = Nat.gcd a.natAbs b.natAbs := by
  unfold lwS
  split <;> simp
theorem gcd_pos {a b : Int} (hb : b ≠ 0) : 0 < Nat.gcd a.natAbs b.natAbs := Nat.gcd_pos_of_pos_right _ (by omega)
theorem lwS_ne {a b : Int} (hb : b ≠ 0) : lwS a b ≠ 0 := by
  have h := lwS_abs a b
  have := gcd_pos (a := a) hb
  omega
theorem lwS_dvd (a b : Int) : lwS a b ∣ a ∧ lwS a b ∣ b := by
  have h := lwS_abs a b
  refine ⟨Int.natAbs_dvd_natAbs.mp ?_, Int.natAbs_dvd_natAbs.mp ?_⟩
  · rw [h]; exact Nat.gcd_dvd_left _ _
  · rw [h]; exact Nat.gcd_dvd_right _ _
theorem lw_mul {a b : Int} (hb : b ≠ 0) : a = lwS a b * lwT a b ∧ b = lwS a b * lwB a b := by
  have hs := lwS_ne (a := a) hb
  obtain ⟨⟨p, hp⟩, ⟨q, hq⟩⟩ := lwS_dvd a b
  have e1 : lwT a b = p := by
    unfold lwT
    conv => lhs; rw [show a.fdiv (lwS a b) = (lwS a b * p).fdiv (lwS a b) by rw [← hp]]
    exact Int.mul_fdiv_cancel_left _ hs
  have e2 : lwB a b = q := by
    unfold lwB
    conv => lhs; rw [show b.fdiv (lwS a b) = (lwS a b * q).fdiv (lwS a b) by rw [← hq]]
    exact Int.mul_fdiv_cancel_left _ hs
  rw [e1, e2]
  exact ⟨hp, hq⟩
theorem lw_low {a b : Int} (hb : b ≠ 0) : Low (lwT a b) (lwB a b) := by
  obtain ⟨h1, h2⟩ := lw_mul (a := a) hb
  have hs := lwS_abs a b
  have hp := gcd_pos (a := a) hb
  constructor
  · by_cases hn : b < 0
    · have : lwS a b < 0 := by unfold lwS; rw [if_pos hn]; omega
      rcases Int.lt_trichotomy (lwB a b) 0 with h | h | h
      · have := Int.mul_pos_of_neg_of_neg this h
        omega
      · rw [h] at h2; simp at h2; exact absurd h2 hb
      · exact h
    · have : 0 < lwS a b := by unfold lwS; rw [if_neg hn]; omega
      rcases Int.lt_trichotomy (lwB a b) 0 with h | h | h
      · have := Int.mul_neg_of_pos_of_neg this h
        omega
      · rw [h] at h2; simp at h2; exact absurd h2 hb
      · exact h
  · have e1 : a.natAbs = Nat.gcd a.natAbs b.natAbs * (lwT a b).natAbs := by rw [← hs, ← Int.natAbs_mul, ← h1]
    have e2 : b.natAbs = Nat.gcd a.natAbs b.natAbs * (lwB a b).natAbs := by rw [← hs, ← Int.natAbs_mul, ← h2]
    have e3 : Nat.gcd a.natAbs b.natAbs = Nat.gcd a.natAbs b.natAbs * Nat.gcd (lwT a b).natAbs (lwB a b).natAbs := by
      rw [← Nat.gcd_mul_left, ← e1, ← e2]
    exact Nat.eq_of_mul_eq_mul_left hp (by rw [← e3, Nat.mul_one])
theorem lw_cross {a b : Int} (hb : b ≠ 0) : a * lwB a b = lwT a b * b := by
  obtain ⟨h1, h2⟩ := lw_mul (a := a) hb
  conv => lhs; rw [h1]
  conv => rhs; rw [h2]
  grind
theorem lw_eq {a b T B : Int} (hb : b ≠ 0) (h : Low T B) (e : a * B = T * b) : lwT a b = T ∧ lwB a b = B := by
  have e2 := lw_cross (a := a) hb
  refine low_unique (lw_low hb) h ?_
  refine Int.eq_of_mul_eq_mul_right hb ?_
  have : lwT a b * B * b = lwT a b * b * B := by grind
  rw [this, ← e2]
  have : a * lwB a b * B = a * B * lwB a b := by grind
  rw [this, e]
  grind
/-- the same ratio -/
theorem lw_same {a b c d : Int} (hb : b ≠ 0) (hd : d ≠ 0) (e : a * d = c * b) : lwT a b = lwT c d ∧ lwB a b = lwB c d := by
  refine lw_eq hb (lw_low hd) ?_
  refine Int.eq_of_mul_eq_mul_right hd ?_
  have e2 := lw_cross (a := c) hd
  have : a * lwB c d * d = a * d * lwB c d := by grind
  rw [this, e]
  have : c * b * lwB c d = c * lwB c d * b := by grind
  rw [this, e2]
  grind
theorem lw_le {a b : Int} (hb : b ≠ 0) : (lwT a b).natAbs ≤ a.natAbs ∧ (lwB a b).natAbs ≤ b.natAbs := by
  obtain ⟨h1, h2⟩ := lw_mul (a := a) hb
  have hs := lwS_abs a b
  have hp := gcd_pos (a := a) hb
  have e1 : a.natAbs = (lwS a b).natAbs * (lwT a b).natAbs := by rw [← Int.natAbs_mul, ← h1]
  have e2 : b.natAbs = (lwS a b).natAbs * (lwB a b).natAbs := by rw [← Int.natAbs_mul, ← h2]
  have : 1 ≤ (lwS a b).natAbs := by omega
  constructor
  · rw [e1]; exact Nat.le_mul_of_pos_left _ (by omega)
  · rw [e2]; exact Nat.le_mul_of_pos_left _ (by omega)
theorem low_lw {T B : Int} (h : Low T B) : lwT T B = T ∧ lwB T B = B := lw_eq (by have := h.pos; omega) h rfl
/-! ### the program's ratios -/
def lo (T B : Int) : D := .obj 0 [.int B, .int T]
def rt (T B : Int) : D := .obj 1 [.int B, .int T]
theorem common_at (a b : Int) (st : Store) : sm_common_of [.int a, .int b] st = .ok (.int ((Nat.gcd a.natAbs b.natAbs : Nat) : Int)) st := by
  rw [sm_common_of, callD_eq xm 2 0 _ [.int a, .int b] _ rfl, b_common_of]
  simp -implicitDefEqProofs only [exs_nil, exs_cons, ex_pass, ex_brk, ex_cnt, ex_doc, ex_expr, ex_ret, ex_retN, ex_asg, ex_par, ex_setI, ex_aug, ex_ite, ex_whl, ex_for, ex_raise, ex_try,
    ev_con, ev_glob, ev_var, ev_bin, ev_un, ev_cmp, ev_chain, ev_and, ev_or, ev_not, ev_ife, ev_tup, ev_lst, ev_sub, ev_slice, ev_rev, ev_dct0, ev_call, ev_blt, ev_isi, ev_mth, ev_comp, ev_fz, evs_nil, evs_cons, evi_val, evi_range, evo_no, evo_var, evo_con, evo_bin, evo_un, evoK_int, slice_lst, slice_tup, compG_nm, compG_tp, compO_some, compB, noR_ok, wipe_nil, wipe_cons, evt_eq,
    bnd_ok, bnd_raise, andS_ok, andS_raise, seq_nx, seq_ret, seq_raise, seq_brk, seq_cnt, ofO_some, nxO_some, nxS_some, try_raise, try_ret, try_nx, asgT_nm, asgT_tp, setAll_nil, setAll_cons,
    tru_bl, tru_int, tru_non, tru_lst, tru_tup, add_int, sub_int, mul_int, fdiv_int, mod_int, neg_int, lt_int, le_int, gt_int, ge_int, eq_int, ne_int, eq_str, ne_str, is_bl, isnot_bl, abs_int, int_int, int_bl, bool_bl, max_int, min_int, gcd_int, len_lst, len_tup, tuple_lst, sub_lst, sub_tup, items_lst, items_tup, add_lst, add_tup, add_str, rev_lst, newLst_f, newLst_t, end_nx,
    List.map_cons, List.map_nil, List.length_cons, List.length_nil, List.replicate_succ, List.replicate_zero, List.cons_append, List.nil_append, List.append_nil, List.getElem?_cons_zero, List.getElem?_cons_succ, List.set_cons_zero, List.set_cons_succ, List.reverse_cons, List.reverse_nil, Option.map_some, Option.map_none,
    ev_ext, ev_fstr, ev_meth, meth_obj, fld_obj, prop_obj, own2_obj, own2_int, ownU_obj, ownC_int, bool_int, eq_bl, ne_bl, eqEnd_eq, eqEnd_ne, isC_obj, isC_non, isC_bl, isC_int, isC_str, isC_tup, isC_lst, isC_dct, ownB_str, strEnd_str, ownB_bool, blEnd_bl, ext_mk, mkEnd_1, mkEnd_2, mkEnd_3, mkEnd_4, mkEnd_5, Nat.reduceLT, ex_setA, setA_last, ofO_some,
    if_true, if_false, Bool.false_eq_true, Bool.not_true, Bool.not_false, decide_true, decide_false, Bool.and_true, Bool.true_and, Bool.false_and, Bool.and_false, Bool.or_true, Bool.true_or, Bool.or_false, Bool.false_or, Nat.zero_add, Nat.reduceAdd, reduceCtorEq, reduceIte]
  rw [end_ret rfl, closeSt_self]
theorem lwS_div {a b : Int} (hb : b ≠ 0) (h2 : b.natAbs < 2 ^ 8000) : divOk (lwS a b) = true := by
  refine div_ok 8000 (lwS_ne hb) ?_ (by decide) (by decide)
  rw [lwS_abs]
  exact Nat.lt_of_le_of_lt (Nat.gcd_le_right _ (by omega)) h2
theorem mk_lo {a b : Int} (hb : b ≠ 0) (h2 : b.natAbs < 2 ^ 8000) (i : Nat) (st : Store) : extD (.mk 2 0 ⟨i, [], sm_Lowest_init_⟩) [.int a, .int b] st = .ok (lo (lwT a b) (lwB a b)) (st ++ [.dead]) := by
  have hd := lwS_div (a := a) hb h2
  have e : sm_Lowest_init_ [.ref st.length, .int a, .int b] (st ++ [.ins 0 [none, none]]) = .ok .non (st ++ [.ins 0 [some (.int (lwB a b)), some (.int (lwT a b))]]) := by
    have hc := common_at a b (st ++ [.ins 0 [none, none]])
    rw [sm_Lowest_init_, callD_eq xm 3 1 _ [.ref st.length, .int a, .int b] _ rfl, b_Lowest_init_]
    by_cases hn : b < 0
    · have hs : lwS a b = -((Nat.gcd a.natAbs b.natAbs : Nat) : Int) := if_pos hn
      rw [hs] at hd
      simp -implicitDefEqProofs only [exs_nil, exs_cons, ex_pass, ex_brk, ex_cnt, ex_doc, ex_expr, ex_ret, ex_retN, ex_asg, ex_par, ex_setI, ex_aug, ex_ite, ex_whl, ex_for, ex_raise, ex_try,
    ev_con, ev_glob, ev_var, ev_bin, ev_un, ev_cmp, ev_chain, ev_and, ev_or, ev_not, ev_ife, ev_tup, ev_lst, ev_sub, ev_slice, ev_rev, ev_dct0, ev_call, ev_blt, ev_isi, ev_mth, ev_comp, ev_fz, evs_nil, evs_cons, evi_val, evi_range, evo_no, evo_var, evo_con, evo_bin, evo_un, evoK_int, slice_lst, slice_tup, compG_nm, compG_tp, compO_some, compB, noR_ok, wipe_nil, wipe_cons, evt_eq,
    bnd_ok, bnd_raise, andS_ok, andS_raise, seq_nx, seq_ret, seq_raise, seq_brk, seq_cnt, ofO_some, nxO_some, nxS_some, try_raise, try_ret, try_nx, asgT_nm, asgT_tp, setAll_nil, setAll_cons,
    tru_bl, tru_int, tru_non, tru_lst, tru_tup, add_int, sub_int, mul_int, fdiv_int, mod_int, neg_int, lt_int, le_int, gt_int, ge_int, eq_int, ne_int, eq_str, ne_str, is_bl, isnot_bl, abs_int, int_int, int_bl, bool_bl, max_int, min_int, gcd_int, len_lst, len_tup, tuple_lst, sub_lst, sub_tup, items_lst, items_tup, add_lst, add_tup, add_str, rev_lst, newLst_f, newLst_t, end_nx,
    List.map_cons, List.map_nil, List.length_cons, List.length_nil, List.replicate_succ, List.replicate_zero, List.cons_append, List.nil_append, List.append_nil, List.getElem?_cons_zero, List.getElem?_cons_succ, List.set_cons_zero, List.set_cons_succ, List.reverse_cons, List.reverse_nil, Option.map_some, Option.map_none,
    ev_ext, ev_fstr, ev_meth, meth_obj, fld_obj, prop_obj, own2_obj, own2_int, ownU_obj, ownC_int, bool_int, eq_bl, ne_bl, eqEnd_eq, eqEnd_ne, isC_obj, isC_non, isC_bl, isC_int, isC_str, isC_tup, isC_lst, isC_dct, ownB_str, strEnd_str, ownB_bool, blEnd_bl, ext_mk, mkEnd_1, mkEnd_2, mkEnd_3, mkEnd_4, mkEnd_5, Nat.reduceLT, ex_setA, setA_last, ofO_some,
    if_true, if_false, Bool.false_eq_true, Bool.not_true, Bool.not_false, decide_true, decide_false, Bool.and_true, Bool.true_and, Bool.false_and, Bool.and_false, Bool.or_true, Bool.true_or, Bool.or_false, Bool.false_or, Nat.zero_add, Nat.reduceAdd, reduceCtorEq, reduceIte, hc, hn, hd]
      rw [← hs, close_ins _ _ _ _ _ rfl]
      rfl
    · have hs : lwS a b = ((Nat.gcd a.natAbs b.natAbs : Nat) : Int) := if_neg hn
      rw [hs] at hd
      simp -implicitDefEqProofs only [exs_nil, exs_cons, ex_pass, ex_brk, ex_cnt, ex_doc, ex_expr, ex_ret, ex_retN, ex_asg, ex_par, ex_setI, ex_aug, ex_ite, ex_whl, ex_for, ex_raise, ex_try,
    ev_con, ev_glob, ev_var, ev_bin, ev_un, ev_cmp, ev_chain, ev_and, ev_or, ev_not, ev_ife, ev_tup, ev_lst, ev_sub, ev_slice, ev_rev, ev_dct0, ev_call, ev_blt, ev_isi, ev_mth, ev_comp, ev_fz, evs_nil, evs_cons, evi_val, evi_range, evo_no, evo_var, evo_con, evo_bin, evo_un, evoK_int, slice_lst, slice_tup, compG_nm, compG_tp, compO_some, compB, noR_ok, wipe_nil, wipe_cons, evt_eq,
    bnd_ok, bnd_raise, andS_ok, andS_raise, seq_nx, seq_ret, seq_raise, seq_brk, seq_cnt, ofO_some, nxO_some, nxS_some, try_raise, try_ret, try_nx, asgT_nm, asgT_tp, setAll_nil, setAll_cons,
    tru_bl, tru_int, tru_non, tru_lst, tru_tup, add_int, sub_int, mul_int, fdiv_int, mod_int, neg_int, lt_int, le_int, gt_int, ge_int, eq_int, ne_int, eq_str, ne_str, is_bl, isnot_bl, abs_int, int_int, int_bl, bool_bl, max_int, min_int, gcd_int, len_lst, len_tup, tuple_lst, sub_lst, sub_tup, items_lst, items_tup, add_lst, add_tup, add_str, rev_lst, newLst_f, newLst_t, end_nx,
    List.map_cons, List.map_nil, List.length_cons, List.length_nil, List.replicate_succ, List.replicate_zero, List.cons_append, List.nil_append, List.append_nil, List.getElem?_cons_zero, List.getElem?_cons_succ, List.set_cons_zero, List.set_cons_succ, List.reverse_cons, List.reverse_nil, Option.map_some, Option.map_none,
    ev_ext, ev_fstr, ev_meth, meth_obj, fld_obj, prop_obj, own2_obj, own2_int, ownU_obj, ownC_int, bool_int, eq_bl, ne_bl, eqEnd_eq, eqEnd_ne, isC_obj, isC_non, isC_bl, isC_int, isC_str, isC_tup, isC_lst, isC_dct, ownB_str, strEnd_str, ownB_bool, blEnd_bl, ext_mk, mkEnd_1, mkEnd_2, mkEnd_3, mkEnd_4, mkEnd_5, Nat.reduceLT, ex_setA, setA_last, ofO_some,
    if_true, if_false, Bool.false_eq_true, Bool.not_true, Bool.not_false, decide_true, decide_false, Bool.and_true, Bool.true_and, Bool.false_and, Bool.and_false, Bool.or_true, Bool.true_or, Bool.or_false, Bool.false_or, Nat.zero_add, Nat.reduceAdd, reduceCtorEq, reduceIte, hc, hn, hd]
      rw [← hs, close_ins _ _ _ _ _ rfl]
      rfl
  simp -implicitDefEqProofs only [exs_nil, exs_cons, ex_pass, ex_brk, ex_cnt, ex_doc, ex_expr, ex_ret, ex_retN, ex_asg, ex_par, ex_setI, ex_aug, ex_ite, ex_whl, ex_for, ex_raise, ex_try,
    ev_con, ev_glob, ev_var, ev_bin, ev_un, ev_cmp, ev_chain, ev_and, ev_or, ev_not, ev_ife, ev_tup, ev_lst, ev_sub, ev_slice, ev_rev, ev_dct0, ev_call, ev_blt, ev_isi, ev_mth, ev_comp, ev_fz, evs_nil, evs_cons, evi_val, evi_range, evo_no, evo_var, evo_con, evo_bin, evo_un, evoK_int, slice_lst, slice_tup, compG_nm, compG_tp, compO_some, compB, noR_ok, wipe_nil, wipe_cons, evt_eq,
    bnd_ok, bnd_raise, andS_ok, andS_raise, seq_nx, seq_ret, seq_raise, seq_brk, seq_cnt, ofO_some, nxO_some, nxS_some, try_raise, try_ret, try_nx, asgT_nm, asgT_tp, setAll_nil, setAll_cons,
    tru_bl, tru_int, tru_non, tru_lst, tru_tup, add_int, sub_int, mul_int, fdiv_int, mod_int, neg_int, lt_int, le_int, gt_int, ge_int, eq_int, ne_int, eq_str, ne_str, is_bl, isnot_bl, abs_int, int_int, int_bl, bool_bl, max_int, min_int, gcd_int, len_lst, len_tup, tuple_lst, sub_lst, sub_tup, items_lst, items_tup, add_lst, add_tup, add_str, rev_lst, newLst_f, newLst_t, end_nx,
    List.map_cons, List.map_nil, List.length_cons, List.length_nil, List.replicate_succ, List.replicate_zero, List.cons_append, List.nil_append, List.append_nil, List.getElem?_cons_zero, List.getElem?_cons_succ, List.set_cons_zero, List.set_cons_succ, List.reverse_cons, List.reverse_nil, Option.map_some, Option.map_none,
    ev_ext, ev_fstr, ev_meth, meth_obj, fld_obj, prop_obj, own2_obj, own2_int, ownU_obj, ownC_int, bool_int, eq_bl, ne_bl, eqEnd_eq, eqEnd_ne, isC_obj, isC_non, isC_bl, isC_int, isC_str, isC_tup, isC_lst, isC_dct, ownB_str, strEnd_str, ownB_bool, blEnd_bl, ext_mk, mkEnd_1, mkEnd_2, mkEnd_3, mkEnd_4, mkEnd_5, Nat.reduceLT, ex_setA, setA_last, ofO_some,
    if_true, if_false, Bool.false_eq_true, Bool.not_true, Bool.not_false, decide_true, decide_false, Bool.and_true, Bool.true_and, Bool.false_and, Bool.and_false, Bool.or_true, Bool.true_or, Bool.or_false, Bool.false_or, Nat.zero_add, Nat.reduceAdd, reduceCtorEq, reduceIte, e]
  rfl
theorem init_rt {T B : Int} (y : D) (st : Store) : sm_Ratio_init_ [.ref st.length, lo T B, y] (st ++ [.ins 1 [none, none]]) = .ok .non (st ++ [.ins 1 [some (.int B), some (.int T)]]) := by
  have hk : (0 == 0) = true := rfl
  rw [sm_Ratio_init_, callD_eq xm 3 1 _ [.ref st.length, lo T B, y] _ rfl, b_Ratio_init_, lo]
  simp -implicitDefEqProofs only [exs_nil, exs_cons, ex_pass, ex_brk, ex_cnt, ex_doc, ex_expr, ex_ret, ex_retN, ex_asg, ex_par, ex_setI, ex_aug, ex_ite, ex_whl, ex_for, ex_raise, ex_try,
    ev_con, ev_glob, ev_var, ev_bin, ev_un, ev_cmp, ev_chain, ev_and, ev_or, ev_not, ev_ife, ev_tup, ev_lst, ev_sub, ev_slice, ev_rev, ev_dct0, ev_call, ev_blt, ev_isi, ev_mth, ev_comp, ev_fz, evs_nil, evs_cons, evi_val, evi_range, evo_no, evo_var, evo_con, evo_bin, evo_un, evoK_int, slice_lst, slice_tup, compG_nm, compG_tp, compO_some, compB, noR_ok, wipe_nil, wipe_cons, evt_eq,
    bnd_ok, bnd_raise, andS_ok, andS_raise, seq_nx, seq_ret, seq_raise, seq_brk, seq_cnt, ofO_some, nxO_some, nxS_some, try_raise, try_ret, try_nx, asgT_nm, asgT_tp, setAll_nil, setAll_cons,
    tru_bl, tru_int, tru_non, tru_lst, tru_tup, add_int, sub_int, mul_int, fdiv_int, mod_int, neg_int, lt_int, le_int, gt_int, ge_int, eq_int, ne_int, eq_str, ne_str, is_bl, isnot_bl, abs_int, int_int, int_bl, bool_bl, max_int, min_int, gcd_int, len_lst, len_tup, tuple_lst, sub_lst, sub_tup, items_lst, items_tup, add_lst, add_tup, add_str, rev_lst, newLst_f, newLst_t, end_nx,
    List.map_cons, List.map_nil, List.length_cons, List.length_nil, List.replicate_succ, List.replicate_zero, List.cons_append, List.nil_append, List.append_nil, List.getElem?_cons_zero, List.getElem?_cons_succ, List.set_cons_zero, List.set_cons_succ, List.reverse_cons, List.reverse_nil, Option.map_some, Option.map_none,
    ev_ext, ev_fstr, ev_meth, meth_obj, fld_obj, prop_obj, own2_obj, own2_int, ownU_obj, ownC_int, bool_int, eq_bl, ne_bl, eqEnd_eq, eqEnd_ne, isC_obj, isC_non, isC_bl, isC_int, isC_str, isC_tup, isC_lst, isC_dct, ownB_str, strEnd_str, ownB_bool, blEnd_bl, ext_mk, mkEnd_1, mkEnd_2, mkEnd_3, mkEnd_4, mkEnd_5, Nat.reduceLT, ex_setA, setA_last, ofO_some,
    if_true, if_false, Bool.false_eq_true, Bool.not_true, Bool.not_false, decide_true, decide_false, Bool.and_true, Bool.true_and, Bool.false_and, Bool.and_false, Bool.or_true, Bool.true_or, Bool.or_false, Bool.false_or, Nat.zero_add, Nat.reduceAdd, reduceCtorEq, reduceIte, hk]
  rw [close_ins _ _ _ _ _ rfl]
theorem ratio_with_at {a b : Int} (hb : b ≠ 0) (h2 : b.natAbs < 2 ^ 8000) (st : Store) : sm_ratio_with [.int a, .int b] st = .ok (rt (lwT a b) (lwB a b)) st := by
  have e1 := mk_lo (a := a) hb h2
  have e2 := init_rt (T := lwT a b) (B := lwB a b) (.int 1) (st ++ [.dead])
  rw [sm_ratio_with, callD_eq xm 2 0 _ [.int a, .int b] _ rfl, b_ratio_with]
  rw [exs_cons, ex_ret, ev_ext, evs_cons, ev_ext]
  simp -implicitDefEqProofs only [exs_nil, exs_cons, ex_pass, ex_brk, ex_cnt, ex_doc, ex_expr, ex_ret, ex_retN, ex_asg, ex_par, ex_setI, ex_aug, ex_ite, ex_whl, ex_for, ex_raise, ex_try,
    ev_con, ev_glob, ev_var, ev_bin, ev_un, ev_cmp, ev_chain, ev_and, ev_or, ev_not, ev_ife, ev_tup, ev_lst, ev_sub, ev_slice, ev_rev, ev_dct0, ev_call, ev_blt, ev_isi, ev_mth, ev_comp, ev_fz, evs_nil, evs_cons, evi_val, evi_range, evo_no, evo_var, evo_con, evo_bin, evo_un, evoK_int, slice_lst, slice_tup, compG_nm, compG_tp, compO_some, compB, noR_ok, wipe_nil, wipe_cons, evt_eq,
    bnd_ok, bnd_raise, andS_ok, andS_raise, seq_nx, seq_ret, seq_raise, seq_brk, seq_cnt, ofO_some, nxO_some, nxS_some, try_raise, try_ret, try_nx, asgT_nm, asgT_tp, setAll_nil, setAll_cons,
    tru_bl, tru_int, tru_non, tru_lst, tru_tup, add_int, sub_int, mul_int, fdiv_int, mod_int, neg_int, lt_int, le_int, gt_int, ge_int, eq_int, ne_int, eq_str, ne_str, is_bl, isnot_bl, abs_int, int_int, int_bl, bool_bl, max_int, min_int, gcd_int, len_lst, len_tup, tuple_lst, sub_lst, sub_tup, items_lst, items_tup, add_lst, add_tup, add_str, rev_lst, newLst_f, newLst_t, end_nx,
    List.map_cons, List.map_nil, List.length_cons, List.length_nil, List.replicate_succ, List.replicate_zero, List.cons_append, List.nil_append, List.append_nil, List.getElem?_cons_zero, List.getElem?_cons_succ, List.set_cons_zero, List.set_cons_succ, List.reverse_cons, List.reverse_nil, Option.map_some, Option.map_none,
    ev_ext, ev_fstr, ev_meth, meth_obj, fld_obj, prop_obj, own2_obj, own2_int, ownU_obj, ownC_int, bool_int, eq_bl, ne_bl, eqEnd_eq, eqEnd_ne, isC_obj, isC_non, isC_bl, isC_int, isC_str, isC_tup, isC_lst, isC_dct, ownB_str, strEnd_str, ownB_bool, blEnd_bl, ext_mk, mkEnd_1, mkEnd_2, mkEnd_3, mkEnd_4, mkEnd_5, Nat.reduceLT, ex_setA, setA_last, ofO_some,
    if_true, if_false, Bool.false_eq_true, Bool.not_true, Bool.not_false, decide_true, decide_false, Bool.and_true, Bool.true_and, Bool.false_and, Bool.and_false, Bool.or_true, Bool.true_or, Bool.or_false, Bool.false_or, Nat.zero_add, Nat.reduceAdd, reduceCtorEq, reduceIte, -ext_mk, e1]
  simp -implicitDefEqProofs only [exs_nil, exs_cons, ex_pass, ex_brk, ex_cnt, ex_doc, ex_expr, ex_ret, ex_retN, ex_asg, ex_par, ex_setI, ex_aug, ex_ite, ex_whl, ex_for, ex_raise, ex_try,
    ev_con, ev_glob, ev_var, ev_bin, ev_un, ev_cmp, ev_chain, ev_and, ev_or, ev_not, ev_ife, ev_tup, ev_lst, ev_sub, ev_slice, ev_rev, ev_dct0, ev_call, ev_blt, ev_isi, ev_mth, ev_comp, ev_fz, evs_nil, evs_cons, evi_val, evi_range, evo_no, evo_var, evo_con, evo_bin, evo_un, evoK_int, slice_lst, slice_tup, compG_nm, compG_tp, compO_some, compB, noR_ok, wipe_nil, wipe_cons, evt_eq,
    bnd_ok, bnd_raise, andS_ok, andS_raise, seq_nx, seq_ret, seq_raise, seq_brk, seq_cnt, ofO_some, nxO_some, nxS_some, try_raise, try_ret, try_nx, asgT_nm, asgT_tp, setAll_nil, setAll_cons,
    tru_bl, tru_int, tru_non, tru_lst, tru_tup, add_int, sub_int, mul_int, fdiv_int, mod_int, neg_int, lt_int, le_int, gt_int, ge_int, eq_int, ne_int, eq_str, ne_str, is_bl, isnot_bl, abs_int, int_int, int_bl, bool_bl, max_int, min_int, gcd_int, len_lst, len_tup, tuple_lst, sub_lst, sub_tup, items_lst, items_tup, add_lst, add_tup, add_str, rev_lst, newLst_f, newLst_t, end_nx,
    List.map_cons, List.map_nil, List.length_cons, List.length_nil, List.replicate_succ, List.replicate_zero, List.cons_append, List.nil_append, List.append_nil, List.getElem?_cons_zero, List.getElem?_cons_succ, List.set_cons_zero, List.set_cons_succ, List.reverse_cons, List.reverse_nil, Option.map_some, Option.map_none,
    ev_ext, ev_fstr, ev_meth, meth_obj, fld_obj, prop_obj, own2_obj, own2_int, ownU_obj, ownC_int, bool_int, eq_bl, ne_bl, eqEnd_eq, eqEnd_ne, isC_obj, isC_non, isC_bl, isC_int, isC_str, isC_tup, isC_lst, isC_dct, ownB_str, strEnd_str, ownB_bool, blEnd_bl, ext_mk, mkEnd_1, mkEnd_2, mkEnd_3, mkEnd_4, mkEnd_5, Nat.reduceLT, ex_setA, setA_last, ofO_some,
    if_true, if_false, Bool.false_eq_true, Bool.not_true, Bool.not_false, decide_true, decide_false, Bool.and_true, Bool.true_and, Bool.false_and, Bool.and_false, Bool.or_true, Bool.true_or, Bool.or_false, Bool.false_or, Nat.zero_add, Nat.reduceAdd, reduceCtorEq, reduceIte, e2]
  rw [end_ret rfl, List.append_assoc, close_app]
  rfl
end L02
set_option Elab.async false
set_option linter.all false
set_option maxRecDepth 100000
set_option maxHeartbeats 2000000
set_option exponentiation.threshold 20000
namespace L02
open Ip
open PySem (Str)
theorem ints_isi (n : Int) : isiD .int (.int n) ≠ none := by simp [isiD]
theorem small_int {n : Int} (h0 : -big < n) (h1 : n < big) : Shown (.int n) := shown_int (k := 200) (by decide) (by decide) (small_of h0 h1)
theorem int_req {n : Int} (h0 : -big < n) (h1 : n < big) (st : Store) : sm_require_integer [.int n] st = .ok .non st := by
  rw [integer_req (small_int h0 h1), isInt_int h0 h1, if_pos rfl]
theorem bad_req {x : D} (h : Shown x) (hi : isInt x = false) (st : Store) : sm_require_integer [x] st = .raise ⟨1, [x]⟩ st := by
  rw [integer_req h, hi, if_neg (by decide)]
theorem told_at {a b : Int} (h0 : -big < a) (h1 : a < big) (h2 : -big < b) (h3 : b < big) (hb : b ≠ 0) (st : Store) : sm_lowest_told [.int a, .int b] st = .ok (lo (lwT a b) (lwB a b)) st := by
  have e1 := int_req h0 h1 st
  have e2 := int_req h2 h3 st
  have e3 := mk_lo (a := a) hb (small_le (small_of h2 h3) (by decide))
  have e4 : (b == 0) = false := by simp [hb]
  rw [sm_lowest_told, callD_eq xm 2 0 _ [.int a, .int b] _ rfl, b_lowest_told]
  simp -implicitDefEqProofs only [exs_nil, exs_cons, ex_pass, ex_brk, ex_cnt, ex_doc, ex_expr, ex_ret, ex_retN, ex_asg, ex_par, ex_setI, ex_aug, ex_ite, ex_whl, ex_for, ex_raise, ex_try,
    ev_con, ev_glob, ev_var, ev_bin, ev_un, ev_cmp, ev_chain, ev_and, ev_or, ev_not, ev_ife, ev_tup, ev_lst, ev_sub, ev_slice, ev_rev, ev_dct0, ev_call, ev_blt, ev_isi, ev_mth, ev_comp, ev_fz, evs_nil, evs_cons, evi_val, evi_range, evo_no, evo_var, evo_con, evo_bin, evo_un, evoK_int, slice_lst, slice_tup, compG_nm, compG_tp, compO_some, compB, noR_ok, wipe_nil, wipe_cons, evt_eq,
    bnd_ok, bnd_raise, andS_ok, andS_raise, seq_nx, seq_ret, seq_raise, seq_brk, seq_cnt, ofO_some, nxO_some, nxS_some, try_raise, try_ret, try_nx, asgT_nm, asgT_tp, setAll_nil, setAll_cons,
    tru_bl, tru_int, tru_non, tru_lst, tru_tup, add_int, sub_int, mul_int, fdiv_int, mod_int, neg_int, lt_int, le_int, gt_int, ge_int, eq_int, ne_int, eq_str, ne_str, is_bl, isnot_bl, abs_int, int_int, int_bl, bool_bl, max_int, min_int, gcd_int, len_lst, len_tup, tuple_lst, sub_lst, sub_tup, items_lst, items_tup, add_lst, add_tup, add_str, rev_lst, newLst_f, newLst_t, end_nx,
    List.map_cons, List.map_nil, List.length_cons, List.length_nil, List.replicate_succ, List.replicate_zero, List.cons_append, List.nil_append, List.append_nil, List.getElem?_cons_zero, List.getElem?_cons_succ, List.set_cons_zero, List.set_cons_succ, List.reverse_cons, List.reverse_nil, Option.map_some, Option.map_none,
    ev_ext, ev_fstr, ev_meth, meth_obj, fld_obj, prop_obj, own2_obj, own2_int, ownU_obj, ownC_int, bool_int, eq_bl, ne_bl, eqEnd_eq, eqEnd_ne, isC_obj, isC_non, isC_bl, isC_int, isC_str, isC_tup, isC_lst, isC_dct, ownB_str, strEnd_str, ownB_bool, blEnd_bl, ext_mk, mkEnd_1, mkEnd_2, mkEnd_3, mkEnd_4, mkEnd_5, Nat.reduceLT, ex_setA, setA_last, ofO_some,
    if_true, if_false, Bool.false_eq_true, Bool.not_true, Bool.not_false, decide_true, decide_false, Bool.and_true, Bool.true_and, Bool.false_and, Bool.and_false, Bool.or_true, Bool.true_or, Bool.or_false, Bool.false_or, Nat.zero_add, Nat.reduceAdd, reduceCtorEq, reduceIte, -ext_mk, e1, e2, e3, e4]
  rw [end_ret rfl, close_app]
theorem told_bad1 {x y : D} (h : Shown x) (hi : isInt x = false) (st : Store) : sm_lowest_told [x, y] st = .raise ⟨1, [x]⟩ st := by
  have e1 := bad_req h hi st
  rw [sm_lowest_told, callD_eq xm 2 0 _ [x, y] _ rfl, b_lowest_told]
  simp -implicitDefEqProofs only [exs_nil, exs_cons, ex_pass, ex_brk, ex_cnt, ex_doc, ex_expr, ex_ret, ex_retN, ex_asg, ex_par, ex_setI, ex_aug, ex_ite, ex_whl, ex_for, ex_raise, ex_try,
    ev_con, ev_glob, ev_var, ev_bin, ev_un, ev_cmp, ev_chain, ev_and, ev_or, ev_not, ev_ife, ev_tup, ev_lst, ev_sub, ev_slice, ev_rev, ev_dct0, ev_call, ev_blt, ev_isi, ev_mth, ev_comp, ev_fz, evs_nil, evs_cons, evi_val, evi_range, evo_no, evo_var, evo_con, evo_bin, evo_un, evoK_int, slice_lst, slice_tup, compG_nm, compG_tp, compO_some, compB, noR_ok, wipe_nil, wipe_cons, evt_eq,
    bnd_ok, bnd_raise, andS_ok, andS_raise, seq_nx, seq_ret, seq_raise, seq_brk, seq_cnt, ofO_some, nxO_some, nxS_some, try_raise, try_ret, try_nx, asgT_nm, asgT_tp, setAll_nil, setAll_cons,
    tru_bl, tru_int, tru_non, tru_lst, tru_tup, add_int, sub_int, mul_int, fdiv_int, mod_int, neg_int, lt_int, le_int, gt_int, ge_int, eq_int, ne_int, eq_str, ne_str, is_bl, isnot_bl, abs_int, int_int, int_bl, bool_bl, max_int, min_int, gcd_int, len_lst, len_tup, tuple_lst, sub_lst, sub_tup, items_lst, items_tup, add_lst, add_tup, add_str, rev_lst, newLst_f, newLst_t, end_nx,
    List.map_cons, List.map_nil, List.length_cons, List.length_nil, List.replicate_succ, List.replicate_zero, List.cons_append, List.nil_append, List.append_nil, List.getElem?_cons_zero, List.getElem?_cons_succ, List.set_cons_zero, List.set_cons_succ, List.reverse_cons, List.reverse_nil, Option.map_some, Option.map_none,
    ev_ext, ev_fstr, ev_meth, meth_obj, fld_obj, prop_obj, own2_obj, own2_int, ownU_obj, ownC_int, bool_int, eq_bl, ne_bl, eqEnd_eq, eqEnd_ne, isC_obj, isC_non, isC_bl, isC_int, isC_str, isC_tup, isC_lst, isC_dct, ownB_str, strEnd_str, ownB_bool, blEnd_bl, ext_mk, mkEnd_1, mkEnd_2, mkEnd_3, mkEnd_4, mkEnd_5, Nat.reduceLT, ex_setA, setA_last, ofO_some,
    if_true, if_false, Bool.false_eq_true, Bool.not_true, Bool.not_false, decide_true, decide_false, Bool.and_true, Bool.true_and, Bool.false_and, Bool.and_false, Bool.or_true, Bool.true_or, Bool.or_false, Bool.false_or, Nat.zero_add, Nat.reduceAdd, reduceCtorEq, reduceIte, -ext_mk, e1]
  rw [end_raise (by simp [noRefs, h.pure]), closeSt_self]
theorem told_bad2 {a : Int} {y : D} (h0 : -big < a) (h1 : a < big) (h : Shown y) (hi : isInt y = false) (st : Store) : sm_lowest_told [.int a, y] st = .raise ⟨1, [y]⟩ st := by
  have e1 := int_req h0 h1 st
  have e2 := bad_req h hi st
  rw [sm_lowest_told, callD_eq xm 2 0 _ [.int a, y] _ rfl, b_lowest_told]
  simp -implicitDefEqProofs only [exs_nil, exs_cons, ex_pass, ex_brk, ex_cnt, ex_doc, ex_expr, ex_ret, ex_retN, ex_asg, ex_par, ex_setI, ex_aug, ex_ite, ex_whl, ex_for, ex_raise, ex_try,
    ev_con, ev_glob, ev_var, ev_bin, ev_un, ev_cmp, ev_chain, ev_and, ev_or, ev_not, ev_ife, ev_tup, ev_lst, ev_sub, ev_slice, ev_rev, ev_dct0, ev_call, ev_blt, ev_isi, ev_mth, ev_comp, ev_fz, evs_nil, evs_cons, evi_val, evi_range, evo_no, evo_var, evo_con, evo_bin, evo_un, evoK_int, slice_lst, slice_tup, compG_nm, compG_tp, compO_some, compB, noR_ok, wipe_nil, wipe_cons, evt_eq,
    bnd_ok, bnd_raise, andS_ok, andS_raise, seq_nx, seq_ret, seq_raise, seq_brk, seq_cnt, ofO_some, nxO_some, nxS_some, try_raise, try_ret, try_nx, asgT_nm, asgT_tp, setAll_nil, setAll_cons,
    tru_bl, tru_int, tru_non, tru_lst, tru_tup, add_int, sub_int, mul_int, fdiv_int, mod_int, neg_int, lt_int, le_int, gt_int, ge_int, eq_int, ne_int, eq_str, ne_str, is_bl, isnot_bl, abs_int, int_int, int_bl, bool_bl, max_int, min_int, gcd_int, len_lst, len_tup, tuple_lst, sub_lst, sub_tup, items_lst, items_tup, add_lst, add_tup, add_str, rev_lst, newLst_f, newLst_t, end_nx,
    List.map_cons, List.map_nil, List.length_cons, List.length_nil, List.replicate_succ, List.replicate_zero, List.cons_append, List.nil_append, List.append_nil, List.getElem?_cons_zero, List.getElem?_cons_succ, List.set_cons_zero, List.set_cons_succ, List.reverse_cons, List.reverse_nil, Option.map_some, Option.map_none,
    ev_ext, ev_fstr, ev_meth, meth_obj, fld_obj, prop_obj, own2_obj, own2_int, ownU_obj, ownC_int, bool_int, eq_bl, ne_bl, eqEnd_eq, eqEnd_ne, isC_obj, isC_non, isC_bl, isC_int, isC_str, isC_tup, isC_lst, isC_dct, ownB_str, strEnd_str, ownB_bool, blEnd_bl, ext_mk, mkEnd_1, mkEnd_2, mkEnd_3, mkEnd_4, mkEnd_5, Nat.reduceLT, ex_setA, setA_last, ofO_some,
    if_true, if_false, Bool.false_eq_true, Bool.not_true, Bool.not_false, decide_true, decide_false, Bool.and_true, Bool.true_and, Bool.false_and, Bool.and_false, Bool.or_true, Bool.true_or, Bool.or_false, Bool.false_or, Nat.zero_add, Nat.reduceAdd, reduceCtorEq, reduceIte, -ext_mk, e1, e2]
  rw [end_raise (by simp [noRefs, h.pure]), closeSt_self]
theorem told_bad3 {a : Int} (h0 : -big < a) (h1 : a < big) (st : Store) : sm_lowest_told [.int a, .int 0] st = .raise ⟨1, [.int 0]⟩ st := by
  have e1 := int_req h0 h1 st
  have e2 := int_req (n := 0) (by decide) (by decide) st
  have e3 : mk_InvalidNumber [.int 0] st = some ⟨1, [.int 0]⟩ := (small_int (n := 0) (by decide) (by decide)).mkx st
  rw [sm_lowest_told, callD_eq xm 2 0 _ [.int a, .int 0] _ rfl, b_lowest_told]
  simp -implicitDefEqProofs only [exs_nil, exs_cons, ex_pass, ex_brk, ex_cnt, ex_doc, ex_expr, ex_ret, ex_retN, ex_asg, ex_par, ex_setI, ex_aug, ex_ite, ex_whl, ex_for, ex_raise, ex_try,
    ev_con, ev_glob, ev_var, ev_bin, ev_un, ev_cmp, ev_chain, ev_and, ev_or, ev_not, ev_ife, ev_tup, ev_lst, ev_sub, ev_slice, ev_rev, ev_dct0, ev_call, ev_blt, ev_isi, ev_mth, ev_comp, ev_fz, evs_nil, evs_cons, evi_val, evi_range, evo_no, evo_var, evo_con, evo_bin, evo_un, evoK_int, slice_lst, slice_tup, compG_nm, compG_tp, compO_some, compB, noR_ok, wipe_nil, wipe_cons, evt_eq,
    bnd_ok, bnd_raise, andS_ok, andS_raise, seq_nx, seq_ret, seq_raise, seq_brk, seq_cnt, ofO_some, nxO_some, nxS_some, try_raise, try_ret, try_nx, asgT_nm, asgT_tp, setAll_nil, setAll_cons,
    tru_bl, tru_int, tru_non, tru_lst, tru_tup, add_int, sub_int, mul_int, fdiv_int, mod_int, neg_int, lt_int, le_int, gt_int, ge_int, eq_int, ne_int, eq_str, ne_str, is_bl, isnot_bl, abs_int, int_int, int_bl, bool_bl, max_int, min_int, gcd_int, len_lst, len_tup, tuple_lst, sub_lst, sub_tup, items_lst, items_tup, add_lst, add_tup, add_str, rev_lst, newLst_f, newLst_t, end_nx,
    List.map_cons, List.map_nil, List.length_cons, List.length_nil, List.replicate_succ, List.replicate_zero, List.cons_append, List.nil_append, List.append_nil, List.getElem?_cons_zero, List.getElem?_cons_succ, List.set_cons_zero, List.set_cons_succ, List.reverse_cons, List.reverse_nil, Option.map_some, Option.map_none,
    ev_ext, ev_fstr, ev_meth, meth_obj, fld_obj, prop_obj, own2_obj, own2_int, ownU_obj, ownC_int, bool_int, eq_bl, ne_bl, eqEnd_eq, eqEnd_ne, isC_obj, isC_non, isC_bl, isC_int, isC_str, isC_tup, isC_lst, isC_dct, ownB_str, strEnd_str, ownB_bool, blEnd_bl, ext_mk, mkEnd_1, mkEnd_2, mkEnd_3, mkEnd_4, mkEnd_5, Nat.reduceLT, ex_setA, setA_last, ofO_some,
    if_true, if_false, Bool.false_eq_true, Bool.not_true, Bool.not_false, decide_true, decide_false, Bool.and_true, Bool.true_and, Bool.false_and, Bool.and_false, Bool.or_true, Bool.true_or, Bool.or_false, Bool.false_or, Nat.zero_add, Nat.reduceAdd, reduceCtorEq, reduceIte, -ext_mk, e1, e2, raise_at e3, beq_self_eq_true]
  rw [end_raise rfl, closeSt_self]
/-- two values that make a ratio: what comes of it -/
theorem init_told {x y d : D} (hx : isCD 0 x = some false) {st : Store} (ht : sm_lowest_told [x, y] (st ++ [.ins 1 [none, none]]) = .ok d (st ++ [.ins 1 [none, none]])) {T B : Int} (hd : d = lo T B) : sm_Ratio_init_ [.ref st.length, x, y] (st ++ [.ins 1 [none, none]]) = .ok .non (st ++ [.ins 1 [some (.int B), some (.int T)]]) := by
  subst hd
  have hk : extD (.isC 0) [x] (st ++ [.ins 1 [none, none]]) = .ok (.bl false) (st ++ [.ins 1 [none, none]]) := by
    show ofO ((isCD 0 x).map D.bl) _ = _
    rw [hx]; rfl
  rw [sm_Ratio_init_, callD_eq xm 3 1 _ [.ref st.length, x, y] _ rfl, b_Ratio_init_]
  rw [lo] at ht
  simp -implicitDefEqProofs only [exs_nil, exs_cons, ex_pass, ex_brk, ex_cnt, ex_doc, ex_expr, ex_ret, ex_retN, ex_asg, ex_par, ex_setI, ex_aug, ex_ite, ex_whl, ex_for, ex_raise, ex_try,
    ev_con, ev_glob, ev_var, ev_bin, ev_un, ev_cmp, ev_chain, ev_and, ev_or, ev_not, ev_ife, ev_tup, ev_lst, ev_sub, ev_slice, ev_rev, ev_dct0, ev_call, ev_blt, ev_isi, ev_mth, ev_comp, ev_fz, evs_nil, evs_cons, evi_val, evi_range, evo_no, evo_var, evo_con, evo_bin, evo_un, evoK_int, slice_lst, slice_tup, compG_nm, compG_tp, compO_some, compB, noR_ok, wipe_nil, wipe_cons, evt_eq,
    bnd_ok, bnd_raise, andS_ok, andS_raise, seq_nx, seq_ret, seq_raise, seq_brk, seq_cnt, ofO_some, nxO_some, nxS_some, try_raise, try_ret, try_nx, asgT_nm, asgT_tp, setAll_nil, setAll_cons,
    tru_bl, tru_int, tru_non, tru_lst, tru_tup, add_int, sub_int, mul_int, fdiv_int, mod_int, neg_int, lt_int, le_int, gt_int, ge_int, eq_int, ne_int, eq_str, ne_str, is_bl, isnot_bl, abs_int, int_int, int_bl, bool_bl, max_int, min_int, gcd_int, len_lst, len_tup, tuple_lst, sub_lst, sub_tup, items_lst, items_tup, add_lst, add_tup, add_str, rev_lst, newLst_f, newLst_t, end_nx,
    List.map_cons, List.map_nil, List.length_cons, List.length_nil, List.replicate_succ, List.replicate_zero, List.cons_append, List.nil_append, List.append_nil, List.getElem?_cons_zero, List.getElem?_cons_succ, List.set_cons_zero, List.set_cons_succ, List.reverse_cons, List.reverse_nil, Option.map_some, Option.map_none,
    ev_ext, ev_fstr, ev_meth, meth_obj, fld_obj, prop_obj, own2_obj, own2_int, ownU_obj, ownC_int, bool_int, eq_bl, ne_bl, eqEnd_eq, eqEnd_ne, isC_obj, isC_non, isC_bl, isC_int, isC_str, isC_tup, isC_lst, isC_dct, ownB_str, strEnd_str, ownB_bool, blEnd_bl, ext_mk, mkEnd_1, mkEnd_2, mkEnd_3, mkEnd_4, mkEnd_5, Nat.reduceLT, ex_setA, setA_last, ofO_some,
    if_true, if_false, Bool.false_eq_true, Bool.not_true, Bool.not_false, decide_true, decide_false, Bool.and_true, Bool.true_and, Bool.false_and, Bool.and_false, Bool.or_true, Bool.true_or, Bool.or_false, Bool.false_or, Nat.zero_add, Nat.reduceAdd, reduceCtorEq, reduceIte, hk, ht]
  rw [close_ins _ _ _ _ _ rfl]
theorem init_bad {x y : D} {e : Ex} (hx : isCD 0 x = some false) (he : noRefs e.vs = true) {st : Store} (ht : sm_lowest_told [x, y] (st ++ [.ins 1 [none, none]]) = .raise e (st ++ [.ins 1 [none, none]])) : sm_Ratio_init_ [.ref st.length, x, y] (st ++ [.ins 1 [none, none]]) = .raise e (st ++ [.ins 1 [none, none]]) := by
  have hk : extD (.isC 0) [x] (st ++ [.ins 1 [none, none]]) = .ok (.bl false) (st ++ [.ins 1 [none, none]]) := by
    show ofO ((isCD 0 x).map D.bl) _ = _
    rw [hx]; rfl
  rw [sm_Ratio_init_, callD_eq xm 3 1 _ [.ref st.length, x, y] _ rfl, b_Ratio_init_]
  simp -implicitDefEqProofs only [exs_nil, exs_cons, ex_pass, ex_brk, ex_cnt, ex_doc, ex_expr, ex_ret, ex_retN, ex_asg, ex_par, ex_setI, ex_aug, ex_ite, ex_whl, ex_for, ex_raise, ex_try,
    ev_con, ev_glob, ev_var, ev_bin, ev_un, ev_cmp, ev_chain, ev_and, ev_or, ev_not, ev_ife, ev_tup, ev_lst, ev_sub, ev_slice, ev_rev, ev_dct0, ev_call, ev_blt, ev_isi, ev_mth, ev_comp, ev_fz, evs_nil, evs_cons, evi_val, evi_range, evo_no, evo_var, evo_con, evo_bin, evo_un, evoK_int, slice_lst, slice_tup, compG_nm, compG_tp, compO_some, compB, noR_ok, wipe_nil, wipe_cons, evt_eq,
    bnd_ok, bnd_raise, andS_ok, andS_raise, seq_nx, seq_ret, seq_raise, seq_brk, seq_cnt, ofO_some, nxO_some, nxS_some, try_raise, try_ret, try_nx, asgT_nm, asgT_tp, setAll_nil, setAll_cons,
    tru_bl, tru_int, tru_non, tru_lst, tru_tup, add_int, sub_int, mul_int, fdiv_int, mod_int, neg_int, lt_int, le_int, gt_int, ge_int, eq_int, ne_int, eq_str, ne_str, is_bl, isnot_bl, abs_int, int_int, int_bl, bool_bl, max_int, min_int, gcd_int, len_lst, len_tup, tuple_lst, sub_lst, sub_tup, items_lst, items_tup, add_lst, add_tup, add_str, rev_lst, newLst_f, newLst_t, end_nx,
    List.map_cons, List.map_nil, List.length_cons, List.length_nil, List.replicate_succ, List.replicate_zero, List.cons_append, List.nil_append, List.append_nil, List.getElem?_cons_zero, List.getElem?_cons_succ, List.set_cons_zero, List.set_cons_succ, List.reverse_cons, List.reverse_nil, Option.map_some, Option.map_none,
    ev_ext, ev_fstr, ev_meth, meth_obj, fld_obj, prop_obj, own2_obj, own2_int, ownU_obj, ownC_int, bool_int, eq_bl, ne_bl, eqEnd_eq, eqEnd_ne, isC_obj, isC_non, isC_bl, isC_int, isC_str, isC_tup, isC_lst, isC_dct, ownB_str, strEnd_str, ownB_bool, blEnd_bl, ext_mk, mkEnd_1, mkEnd_2, mkEnd_3, mkEnd_4, mkEnd_5, Nat.reduceLT, ex_setA, setA_last, ofO_some,
    if_true, if_false, Bool.false_eq_true, Bool.not_true, Bool.not_false, decide_true, decide_false, Bool.and_true, Bool.true_and, Bool.false_and, Bool.and_false, Bool.or_true, Bool.true_or, Bool.or_false, Bool.false_or, Nat.zero_add, Nat.reduceAdd, reduceCtorEq, reduceIte, hk, ht]
  rw [end_raise he, closeSt_self]
theorem mk_rt {a b : Int} (h0 : -big < a) (h1 : a < big) (h2 : -big < b) (h3 : b < big) (hb : b ≠ 0) (i : Nat) (st : Store) : extD (.mk 2 1 ⟨i, [], sm_Ratio_init_⟩) [.int a, .int b] st = .ok (rt (lwT a b) (lwB a b)) (st ++ [.dead]) := by
  have e := init_told (x := .int a) (y := .int b) rfl (told_at h0 h1 h2 h3 hb (st ++ [.ins 1 [none, none]])) rfl
  simp -implicitDefEqProofs only [exs_nil, exs_cons, ex_pass, ex_brk, ex_cnt, ex_doc, ex_expr, ex_ret, ex_retN, ex_asg, ex_par, ex_setI, ex_aug, ex_ite, ex_whl, ex_for, ex_raise, ex_try,
    ev_con, ev_glob, ev_var, ev_bin, ev_un, ev_cmp, ev_chain, ev_and, ev_or, ev_not, ev_ife, ev_tup, ev_lst, ev_sub, ev_slice, ev_rev, ev_dct0, ev_call, ev_blt, ev_isi, ev_mth, ev_comp, ev_fz, evs_nil, evs_cons, evi_val, evi_range, evo_no, evo_var, evo_con, evo_bin, evo_un, evoK_int, slice_lst, slice_tup, compG_nm, compG_tp, compO_some, compB, noR_ok, wipe_nil, wipe_cons, evt_eq,
    bnd_ok, bnd_raise, andS_ok, andS_raise, seq_nx, seq_ret, seq_raise, seq_brk, seq_cnt, ofO_some, nxO_some, nxS_some, try_raise, try_ret, try_nx, asgT_nm, asgT_tp, setAll_nil, setAll_cons,
    tru_bl, tru_int, tru_non, tru_lst, tru_tup, add_int, sub_int, mul_int, fdiv_int, mod_int, neg_int, lt_int, le_int, gt_int, ge_int, eq_int, ne_int, eq_str, ne_str, is_bl, isnot_bl, abs_int, int_int, int_bl, bool_bl, max_int, min_int, gcd_int, len_lst, len_tup, tuple_lst, sub_lst, sub_tup, items_lst, items_tup, add_lst, add_tup, add_str, rev_lst, newLst_f, newLst_t, end_nx,
    List.map_cons, List.map_nil, List.length_cons, List.length_nil, List.replicate_succ, List.replicate_zero, List.cons_append, List.nil_append, List.append_nil, List.getElem?_cons_zero, List.getElem?_cons_succ, List.set_cons_zero, List.set_cons_succ, List.reverse_cons, List.reverse_nil, Option.map_some, Option.map_none,
    ev_ext, ev_fstr, ev_meth, meth_obj, fld_obj, prop_obj, own2_obj, own2_int, ownU_obj, ownC_int, bool_int, eq_bl, ne_bl, eqEnd_eq, eqEnd_ne, isC_obj, isC_non, isC_bl, isC_int, isC_str, isC_tup, isC_lst, isC_dct, ownB_str, strEnd_str, ownB_bool, blEnd_bl, ext_mk, mkEnd_1, mkEnd_2, mkEnd_3, mkEnd_4, mkEnd_5, Nat.reduceLT, ex_setA, setA_last, ofO_some,
    if_true, if_false, Bool.false_eq_true, Bool.not_true, Bool.not_false, decide_true, decide_false, Bool.and_true, Bool.true_and, Bool.false_and, Bool.and_false, Bool.or_true, Bool.true_or, Bool.or_false, Bool.false_or, Nat.zero_add, Nat.reduceAdd, reduceCtorEq, reduceIte, e]
  rfl
theorem mk_rt1 {a : Int} (h0 : -big < a) (h1 : a < big) (i : Nat) (st : Store) : extD (.mk 2 1 ⟨i, [.int 1], sm_Ratio_init_⟩) [.int a] st = .ok (rt a 1) (st ++ [.dead]) := by
  have e := init_told (x := .int a) (y := .int 1) rfl (told_at h0 h1 (b := 1) (by decide) (by decide) (by decide) (st ++ [.ins 1 [none, none]])) rfl
  obtain ⟨q1, q2⟩ := low_lw (T := a) (B := 1) ⟨by decide, by simp⟩
  rw [q1, q2] at e
  simp -implicitDefEqProofs only [exs_nil, exs_cons, ex_pass, ex_brk, ex_cnt, ex_doc, ex_expr, ex_ret, ex_retN, ex_asg, ex_par, ex_setI, ex_aug, ex_ite, ex_whl, ex_for, ex_raise, ex_try,
    ev_con, ev_glob, ev_var, ev_bin, ev_un, ev_cmp, ev_chain, ev_and, ev_or, ev_not, ev_ife, ev_tup, ev_lst, ev_sub, ev_slice, ev_rev, ev_dct0, ev_call, ev_blt, ev_isi, ev_mth, ev_comp, ev_fz, evs_nil, evs_cons, evi_val, evi_range, evo_no, evo_var, evo_con, evo_bin, evo_un, evoK_int, slice_lst, slice_tup, compG_nm, compG_tp, compO_some, compB, noR_ok, wipe_nil, wipe_cons, evt_eq,
    bnd_ok, bnd_raise, andS_ok, andS_raise, seq_nx, seq_ret, seq_raise, seq_brk, seq_cnt, ofO_some, nxO_some, nxS_some, try_raise, try_ret, try_nx, asgT_nm, asgT_tp, setAll_nil, setAll_cons,
    tru_bl, tru_int, tru_non, tru_lst, tru_tup, add_int, sub_int, mul_int, fdiv_int, mod_int, neg_int, lt_int, le_int, gt_int, ge_int, eq_int, ne_int, eq_str, ne_str, is_bl, isnot_bl, abs_int, int_int, int_bl, bool_bl, max_int, min_int, gcd_int, len_lst, len_tup, tuple_lst, sub_lst, sub_tup, items_lst, items_tup, add_lst, add_tup, add_str, rev_lst, newLst_f, newLst_t, end_nx,
    List.map_cons, List.map_nil, List.length_cons, List.length_nil, List.replicate_succ, List.replicate_zero, List.cons_append, List.nil_append, List.append_nil, List.getElem?_cons_zero, List.getElem?_cons_succ, List.set_cons_zero, List.set_cons_succ, List.reverse_cons, List.reverse_nil, Option.map_some, Option.map_none,
    ev_ext, ev_fstr, ev_meth, meth_obj, fld_obj, prop_obj, own2_obj, own2_int, ownU_obj, ownC_int, bool_int, eq_bl, ne_bl, eqEnd_eq, eqEnd_ne, isC_obj, isC_non, isC_bl, isC_int, isC_str, isC_tup, isC_lst, isC_dct, ownB_str, strEnd_str, ownB_bool, blEnd_bl, ext_mk, mkEnd_1, mkEnd_2, mkEnd_3, mkEnd_4, mkEnd_5, Nat.reduceLT, ex_setA, setA_last, ofO_some,
    if_true, if_false, Bool.false_eq_true, Bool.not_true, Bool.not_false, decide_true, decide_false, Bool.and_true, Bool.true_and, Bool.false_and, Bool.and_false, Bool.or_true, Bool.true_or, Bool.or_false, Bool.false_or, Nat.zero_add, Nat.reduceAdd, reduceCtorEq, reduceIte, e]
  rfl
theorem mk_bad {x y : D} {e : Ex} (hx : isCD 0 x = some false) (he : noRefs e.vs = true) (ht : ∀ st, sm_lowest_told [x, y] st = .raise e st) (i : Nat) (st : Store) : extD (.mk 2 1 ⟨i, [], sm_Ratio_init_⟩) [x, y] st = .raise e (st ++ [.ins 1 [none, none]]) := by
  have e := init_bad hx he (ht (st ++ [.ins 1 [none, none]]))
  simp -implicitDefEqProofs only [exs_nil, exs_cons, ex_pass, ex_brk, ex_cnt, ex_doc, ex_expr, ex_ret, ex_retN, ex_asg, ex_par, ex_setI, ex_aug, ex_ite, ex_whl, ex_for, ex_raise, ex_try,
    ev_con, ev_glob, ev_var, ev_bin, ev_un, ev_cmp, ev_chain, ev_and, ev_or, ev_not, ev_ife, ev_tup, ev_lst, ev_sub, ev_slice, ev_rev, ev_dct0, ev_call, ev_blt, ev_isi, ev_mth, ev_comp, ev_fz, evs_nil, evs_cons, evi_val, evi_range, evo_no, evo_var, evo_con, evo_bin, evo_un, evoK_int, slice_lst, slice_tup, compG_nm, compG_tp, compO_some, compB, noR_ok, wipe_nil, wipe_cons, evt_eq,
    bnd_ok, bnd_raise, andS_ok, andS_raise, seq_nx, seq_ret, seq_raise, seq_brk, seq_cnt, ofO_some, nxO_some, nxS_some, try_raise, try_ret, try_nx, asgT_nm, asgT_tp, setAll_nil, setAll_cons,
    tru_bl, tru_int, tru_non, tru_lst, tru_tup, add_int, sub_int, mul_int, fdiv_int, mod_int, neg_int, lt_int, le_int, gt_int, ge_int, eq_int, ne_int, eq_str, ne_str, is_bl, isnot_bl, abs_int, int_int, int_bl, bool_bl, max_int, min_int, gcd_int, len_lst, len_tup, tuple_lst, sub_lst, sub_tup, items_lst, items_tup, add_lst, add_tup, add_str, rev_lst, newLst_f, newLst_t, end_nx,
    List.map_cons, List.map_nil, List.length_cons, List.length_nil, List.replicate_succ, List.replicate_zero, List.cons_append, List.nil_append, List.append_nil, List.getElem?_cons_zero, List.getElem?_cons_succ, List.set_cons_zero, List.set_cons_succ, List.reverse_cons, List.reverse_nil, Option.map_some, Option.map_none,
    ev_ext, ev_fstr, ev_meth, meth_obj, fld_obj, prop_obj, own2_obj, own2_int, ownU_obj, ownC_int, bool_int, eq_bl, ne_bl, eqEnd_eq, eqEnd_ne, isC_obj, isC_non, isC_bl, isC_int, isC_str, isC_tup, isC_lst, isC_dct, ownB_str, strEnd_str, ownB_bool, blEnd_bl, ext_mk, mkEnd_1, mkEnd_2, mkEnd_3, mkEnd_4, mkEnd_5, Nat.reduceLT, ex_setA, setA_last, ofO_some,
    if_true, if_false, Bool.false_eq_true, Bool.not_true, Bool.not_false, decide_true, decide_false, Bool.and_true, Bool.true_and, Bool.false_and, Bool.and_false, Bool.or_true, Bool.true_or, Bool.or_false, Bool.false_or, Nat.zero_add, Nat.reduceAdd, reduceCtorEq, reduceIte, e]
/-! ### texts -/
def txt (T B : Int) : Str := if B = 1 then Str.ofString (toString T) else Str.ofString (toString T) ++ "/" ++ Str.ofString (toString B)
theorem str_rt {T B : Int} (h1 : T.natAbs < 2 ^ 8000) (h2 : B.natAbs < 2 ^ 8000) (st : Store) : sm_Ratio_str_ [rt T B] st = .ok (.str (txt T B)) st := by
  have l1 := len_int (by decide) h1
  have l2 := len_int (by decide) h2
  have f1 := fmt_int (by decide) (by decide) h1
  have f2 := fmt_int (by decide) (by decide) h2
  have f3 : fmtD (.str "/") = some ("/" : Str) := by
    rw [fmtD, if_pos (by decide)]
  have lb : ("/" : Str).length = 1 := by decide
  rw [sm_Ratio_str_, callD_eq xm 1 0 _ [rt T B] _ rfl, b_Ratio_str_, rt]
  by_cases hb : B = 1
  · subst hb
    have hf : fstrD [none] [.int T] "" = some (Str.ofString (toString T)) := by
      rw [fstrD, f1]
      simp only [nil_app]
      rw [if_pos (szOk_le l1), fstrD]
    simp -implicitDefEqProofs only [exs_nil, exs_cons, ex_pass, ex_brk, ex_cnt, ex_doc, ex_expr, ex_ret, ex_retN, ex_asg, ex_par, ex_setI, ex_aug, ex_ite, ex_whl, ex_for, ex_raise, ex_try,
    ev_con, ev_glob, ev_var, ev_bin, ev_un, ev_cmp, ev_chain, ev_and, ev_or, ev_not, ev_ife, ev_tup, ev_lst, ev_sub, ev_slice, ev_rev, ev_dct0, ev_call, ev_blt, ev_isi, ev_mth, ev_comp, ev_fz, evs_nil, evs_cons, evi_val, evi_range, evo_no, evo_var, evo_con, evo_bin, evo_un, evoK_int, slice_lst, slice_tup, compG_nm, compG_tp, compO_some, compB, noR_ok, wipe_nil, wipe_cons, evt_eq,
    bnd_ok, bnd_raise, andS_ok, andS_raise, seq_nx, seq_ret, seq_raise, seq_brk, seq_cnt, ofO_some, nxO_some, nxS_some, try_raise, try_ret, try_nx, asgT_nm, asgT_tp, setAll_nil, setAll_cons,
    tru_bl, tru_int, tru_non, tru_lst, tru_tup, add_int, sub_int, mul_int, fdiv_int, mod_int, neg_int, lt_int, le_int, gt_int, ge_int, eq_int, ne_int, eq_str, ne_str, is_bl, isnot_bl, abs_int, int_int, int_bl, bool_bl, max_int, min_int, gcd_int, len_lst, len_tup, tuple_lst, sub_lst, sub_tup, items_lst, items_tup, add_lst, add_tup, add_str, rev_lst, newLst_f, newLst_t, end_nx,
    List.map_cons, List.map_nil, List.length_cons, List.length_nil, List.replicate_succ, List.replicate_zero, List.cons_append, List.nil_append, List.append_nil, List.getElem?_cons_zero, List.getElem?_cons_succ, List.set_cons_zero, List.set_cons_succ, List.reverse_cons, List.reverse_nil, Option.map_some, Option.map_none,
    ev_ext, ev_fstr, ev_meth, meth_obj, fld_obj, prop_obj, own2_obj, own2_int, ownU_obj, ownC_int, bool_int, eq_bl, ne_bl, eqEnd_eq, eqEnd_ne, isC_obj, isC_non, isC_bl, isC_int, isC_str, isC_tup, isC_lst, isC_dct, ownB_str, strEnd_str, ownB_bool, blEnd_bl, ext_mk, mkEnd_1, mkEnd_2, mkEnd_3, mkEnd_4, mkEnd_5, Nat.reduceLT, ex_setA, setA_last, ofO_some,
    if_true, if_false, Bool.false_eq_true, Bool.not_true, Bool.not_false, decide_true, decide_false, Bool.and_true, Bool.true_and, Bool.false_and, Bool.and_false, Bool.or_true, Bool.true_or, Bool.or_false, Bool.false_or, Nat.zero_add, Nat.reduceAdd, reduceCtorEq, reduceIte, beq_self_eq_true, hf]
    rw [end_ret rfl, closeSt_self, txt, if_pos rfl]
  · have hb2 : (B == 1) = false := by simp [hb]
    have hf : fstrD [none, none, none] [.int T, .str "/", .int B] "" = some (Str.ofString (toString T) ++ "/" ++ Str.ofString (toString B)) := by
      rw [fstrD, f1]
      simp only [nil_app]
      rw [if_pos (szOk_le l1), fstrD, f3]
      simp only []
      rw [if_pos (szOk_le (m := 8002) (by rw [len_app, lb]; omega)), fstrD, f2]
      simp only []
      rw [if_pos (szOk_le (m := 16003) (by rw [len_app, len_app, lb]; omega)), fstrD]
    simp -implicitDefEqProofs only [exs_nil, exs_cons, ex_pass, ex_brk, ex_cnt, ex_doc, ex_expr, ex_ret, ex_retN, ex_asg, ex_par, ex_setI, ex_aug, ex_ite, ex_whl, ex_for, ex_raise, ex_try,
    ev_con, ev_glob, ev_var, ev_bin, ev_un, ev_cmp, ev_chain, ev_and, ev_or, ev_not, ev_ife, ev_tup, ev_lst, ev_sub, ev_slice, ev_rev, ev_dct0, ev_call, ev_blt, ev_isi, ev_mth, ev_comp, ev_fz, evs_nil, evs_cons, evi_val, evi_range, evo_no, evo_var, evo_con, evo_bin, evo_un, evoK_int, slice_lst, slice_tup, compG_nm, compG_tp, compO_some, compB, noR_ok, wipe_nil, wipe_cons, evt_eq,
    bnd_ok, bnd_raise, andS_ok, andS_raise, seq_nx, seq_ret, seq_raise, seq_brk, seq_cnt, ofO_some, nxO_some, nxS_some, try_raise, try_ret, try_nx, asgT_nm, asgT_tp, setAll_nil, setAll_cons,
    tru_bl, tru_int, tru_non, tru_lst, tru_tup, add_int, sub_int, mul_int, fdiv_int, mod_int, neg_int, lt_int, le_int, gt_int, ge_int, eq_int, ne_int, eq_str, ne_str, is_bl, isnot_bl, abs_int, int_int, int_bl, bool_bl, max_int, min_int, gcd_int, len_lst, len_tup, tuple_lst, sub_lst, sub_tup, items_lst, items_tup, add_lst, add_tup, add_str, rev_lst, newLst_f, newLst_t, end_nx,
    List.map_cons, List.map_nil, List.length_cons, List.length_nil, List.replicate_succ, List.replicate_zero, List.cons_append, List.nil_append, List.append_nil, List.getElem?_cons_zero, List.getElem?_cons_succ, List.set_cons_zero, List.set_cons_succ, List.reverse_cons, List.reverse_nil, Option.map_some, Option.map_none,
    ev_ext, ev_fstr, ev_meth, meth_obj, fld_obj, prop_obj, own2_obj, own2_int, ownU_obj, ownC_int, bool_int, eq_bl, ne_bl, eqEnd_eq, eqEnd_ne, isC_obj, isC_non, isC_bl, isC_int, isC_str, isC_tup, isC_lst, isC_dct, ownB_str, strEnd_str, ownB_bool, blEnd_bl, ext_mk, mkEnd_1, mkEnd_2, mkEnd_3, mkEnd_4, mkEnd_5, Nat.reduceLT, ex_setA, setA_last, ofO_some,
    if_true, if_false, Bool.false_eq_true, Bool.not_true, Bool.not_false, decide_true, decide_false, Bool.and_true, Bool.true_and, Bool.false_and, Bool.and_false, Bool.or_true, Bool.true_or, Bool.or_false, Bool.false_or, Nat.zero_add, Nat.reduceAdd, reduceCtorEq, reduceIte, hb2, hf, c_BAR]
    rw [end_ret rfl, closeSt_self, txt, if_neg hb]
theorem txt_sgn (T B : Int) : Sgn (txt T B) := by
  unfold txt
  split
  · exact sgn_of _
  · exact sgn_app (sgn_app (sgn_of _) (sgn_of _)) (sgn_of _)
theorem txt_len {T B : Int} (h1 : T.natAbs < 2 ^ 8000) (h2 : B.natAbs < 2 ^ 8000) : (txt T B).length ≤ 16003 := by
  have l1 := len_int (by decide) h1
  have l2 := len_int (by decide) h2
  have lb : ("/" : Str).length = 1 := by decide
  unfold txt
  split
  · omega
  · rw [len_app, len_app, lb]; omega
/-! ### parts, and what is reckoned -/
theorem parts_rt (T B : Int) (st : Store) : sm_parts_of [rt T B] st = .ok (.tup [.int T, .int B]) st := by
  have hz : szOk 2 = true := by decide
  have hk : (1 == 1) = true := rfl
  rw [sm_parts_of, callD_eq xm 1 0 _ [rt T B] _ rfl, b_parts_of, rt]
  simp -implicitDefEqProofs only [exs_nil, exs_cons, ex_pass, ex_brk, ex_cnt, ex_doc, ex_expr, ex_ret, ex_retN, ex_asg, ex_par, ex_setI, ex_aug, ex_ite, ex_whl, ex_for, ex_raise, ex_try,
    ev_con, ev_glob, ev_var, ev_bin, ev_un, ev_cmp, ev_chain, ev_and, ev_or, ev_not, ev_ife, ev_tup, ev_lst, ev_sub, ev_slice, ev_rev, ev_dct0, ev_call, ev_blt, ev_isi, ev_mth, ev_comp, ev_fz, evs_nil, evs_cons, evi_val, evi_range, evo_no, evo_var, evo_con, evo_bin, evo_un, evoK_int, slice_lst, slice_tup, compG_nm, compG_tp, compO_some, compB, noR_ok, wipe_nil, wipe_cons, evt_eq,
    bnd_ok, bnd_raise, andS_ok, andS_raise, seq_nx, seq_ret, seq_raise, seq_brk, seq_cnt, ofO_some, nxO_some, nxS_some, try_raise, try_ret, try_nx, asgT_nm, asgT_tp, setAll_nil, setAll_cons,
    tru_bl, tru_int, tru_non, tru_lst, tru_tup, add_int, sub_int, mul_int, fdiv_int, mod_int, neg_int, lt_int, le_int, gt_int, ge_int, eq_int, ne_int, eq_str, ne_str, is_bl, isnot_bl, abs_int, int_int, int_bl, bool_bl, max_int, min_int, gcd_int, len_lst, len_tup, tuple_lst, sub_lst, sub_tup, items_lst, items_tup, add_lst, add_tup, add_str, rev_lst, newLst_f, newLst_t, end_nx,
    List.map_cons, List.map_nil, List.length_cons, List.length_nil, List.replicate_succ, List.replicate_zero, List.cons_append, List.nil_append, List.append_nil, List.getElem?_cons_zero, List.getElem?_cons_succ, List.set_cons_zero, List.set_cons_succ, List.reverse_cons, List.reverse_nil, Option.map_some, Option.map_none,
    ev_ext, ev_fstr, ev_meth, meth_obj, fld_obj, prop_obj, own2_obj, own2_int, ownU_obj, ownC_int, bool_int, eq_bl, ne_bl, eqEnd_eq, eqEnd_ne, isC_obj, isC_non, isC_bl, isC_int, isC_str, isC_tup, isC_lst, isC_dct, ownB_str, strEnd_str, ownB_bool, blEnd_bl, ext_mk, mkEnd_1, mkEnd_2, mkEnd_3, mkEnd_4, mkEnd_5, Nat.reduceLT, ex_setA, setA_last, ofO_some,
    if_true, if_false, Bool.false_eq_true, Bool.not_true, Bool.not_false, decide_true, decide_false, Bool.and_true, Bool.true_and, Bool.false_and, Bool.and_false, Bool.or_true, Bool.true_or, Bool.or_false, Bool.false_or, Nat.zero_add, Nat.reduceAdd, reduceCtorEq, reduceIte, hz, hk]
  rw [end_ret rfl, closeSt_self]
theorem parts_int (a : Int) (st : Store) : sm_parts_of [.int a] st = .ok (.tup [.int a, .int 1]) st := by
  have hz : szOk 2 = true := by decide
  have hw := whole_at (x := .int a) (by simp [isiD]) st
  rw [sm_parts_of, callD_eq xm 1 0 _ [.int a] _ rfl, b_parts_of]
  simp -implicitDefEqProofs only [exs_nil, exs_cons, ex_pass, ex_brk, ex_cnt, ex_doc, ex_expr, ex_ret, ex_retN, ex_asg, ex_par, ex_setI, ex_aug, ex_ite, ex_whl, ex_for, ex_raise, ex_try,
    ev_con, ev_glob, ev_var, ev_bin, ev_un, ev_cmp, ev_chain, ev_and, ev_or, ev_not, ev_ife, ev_tup, ev_lst, ev_sub, ev_slice, ev_rev, ev_dct0, ev_call, ev_blt, ev_isi, ev_mth, ev_comp, ev_fz, evs_nil, evs_cons, evi_val, evi_range, evo_no, evo_var, evo_con, evo_bin, evo_un, evoK_int, slice_lst, slice_tup, compG_nm, compG_tp, compO_some, compB, noR_ok, wipe_nil, wipe_cons, evt_eq,
    bnd_ok, bnd_raise, andS_ok, andS_raise, seq_nx, seq_ret, seq_raise, seq_brk, seq_cnt, ofO_some, nxO_some, nxS_some, try_raise, try_ret, try_nx, asgT_nm, asgT_tp, setAll_nil, setAll_cons,
    tru_bl, tru_int, tru_non, tru_lst, tru_tup, add_int, sub_int, mul_int, fdiv_int, mod_int, neg_int, lt_int, le_int, gt_int, ge_int, eq_int, ne_int, eq_str, ne_str, is_bl, isnot_bl, abs_int, int_int, int_bl, bool_bl, max_int, min_int, gcd_int, len_lst, len_tup, tuple_lst, sub_lst, sub_tup, items_lst, items_tup, add_lst, add_tup, add_str, rev_lst, newLst_f, newLst_t, end_nx,
    List.map_cons, List.map_nil, List.length_cons, List.length_nil, List.replicate_succ, List.replicate_zero, List.cons_append, List.nil_append, List.append_nil, List.getElem?_cons_zero, List.getElem?_cons_succ, List.set_cons_zero, List.set_cons_succ, List.reverse_cons, List.reverse_nil, Option.map_some, Option.map_none,
    ev_ext, ev_fstr, ev_meth, meth_obj, fld_obj, prop_obj, own2_obj, own2_int, ownU_obj, ownC_int, bool_int, eq_bl, ne_bl, eqEnd_eq, eqEnd_ne, isC_obj, isC_non, isC_bl, isC_int, isC_str, isC_tup, isC_lst, isC_dct, ownB_str, strEnd_str, ownB_bool, blEnd_bl, ext_mk, mkEnd_1, mkEnd_2, mkEnd_3, mkEnd_4, mkEnd_5, Nat.reduceLT, ex_setA, setA_last, ofO_some,
    if_true, if_false, Bool.false_eq_true, Bool.not_true, Bool.not_false, decide_true, decide_false, Bool.and_true, Bool.true_and, Bool.false_and, Bool.and_false, Bool.or_true, Bool.true_or, Bool.or_false, Bool.false_or, Nat.zero_add, Nat.reduceAdd, reduceCtorEq, reduceIte, hz, hw, isWhole]
  rw [end_ret rfl, closeSt_self]
theorem parts_bad {x : D} (h : Shown x) (hw : isWhole x = false) (hc : isCD 1 x = some false) (st : Store) : sm_parts_of [x] st = .raise ⟨1, [x]⟩ st := by
  have e := whole_at h.isi st
  rw [hw] at e
  have hk : extD (.isC 1) [x] st = .ok (.bl false) st := by
    show ofO ((isCD 1 x).map D.bl) _ = _
    rw [hc]; rfl
  rw [sm_parts_of, callD_eq xm 1 0 _ [x] _ rfl, b_parts_of]
  simp -implicitDefEqProofs only [exs_nil, exs_cons, ex_pass, ex_brk, ex_cnt, ex_doc, ex_expr, ex_ret, ex_retN, ex_asg, ex_par, ex_setI, ex_aug, ex_ite, ex_whl, ex_for, ex_raise, ex_try,
    ev_con, ev_glob, ev_var, ev_bin, ev_un, ev_cmp, ev_chain, ev_and, ev_or, ev_not, ev_ife, ev_tup, ev_lst, ev_sub, ev_slice, ev_rev, ev_dct0, ev_call, ev_blt, ev_isi, ev_mth, ev_comp, ev_fz, evs_nil, evs_cons, evi_val, evi_range, evo_no, evo_var, evo_con, evo_bin, evo_un, evoK_int, slice_lst, slice_tup, compG_nm, compG_tp, compO_some, compB, noR_ok, wipe_nil, wipe_cons, evt_eq,
    bnd_ok, bnd_raise, andS_ok, andS_raise, seq_nx, seq_ret, seq_raise, seq_brk, seq_cnt, ofO_some, nxO_some, nxS_some, try_raise, try_ret, try_nx, asgT_nm, asgT_tp, setAll_nil, setAll_cons,
    tru_bl, tru_int, tru_non, tru_lst, tru_tup, add_int, sub_int, mul_int, fdiv_int, mod_int, neg_int, lt_int, le_int, gt_int, ge_int, eq_int, ne_int, eq_str, ne_str, is_bl, isnot_bl, abs_int, int_int, int_bl, bool_bl, max_int, min_int, gcd_int, len_lst, len_tup, tuple_lst, sub_lst, sub_tup, items_lst, items_tup, add_lst, add_tup, add_str, rev_lst, newLst_f, newLst_t, end_nx,
    List.map_cons, List.map_nil, List.length_cons, List.length_nil, List.replicate_succ, List.replicate_zero, List.cons_append, List.nil_append, List.append_nil, List.getElem?_cons_zero, List.getElem?_cons_succ, List.set_cons_zero, List.set_cons_succ, List.reverse_cons, List.reverse_nil, Option.map_some, Option.map_none,
    ev_ext, ev_fstr, ev_meth, meth_obj, fld_obj, prop_obj, own2_obj, own2_int, ownU_obj, ownC_int, bool_int, eq_bl, ne_bl, eqEnd_eq, eqEnd_ne, isC_obj, isC_non, isC_bl, isC_int, isC_str, isC_tup, isC_lst, isC_dct, ownB_str, strEnd_str, ownB_bool, blEnd_bl, ext_mk, mkEnd_1, mkEnd_2, mkEnd_3, mkEnd_4, mkEnd_5, Nat.reduceLT, ex_setA, setA_last, ofO_some,
    if_true, if_false, Bool.false_eq_true, Bool.not_true, Bool.not_false, decide_true, decide_false, Bool.and_true, Bool.true_and, Bool.false_and, Bool.and_false, Bool.or_true, Bool.true_or, Bool.or_false, Bool.false_or, Nat.zero_add, Nat.reduceAdd, reduceCtorEq, reduceIte, e, hk, raise_at (h.mkx st)]
  rw [end_raise (by simp [noRefs, h.pure]), closeSt_self]
theorem number_rt (T B : Int) (st : Store) : sm_is_number [rt T B] st = .ok (.bl true) st := by
  have hk : (1 == 1) = true := rfl
  rw [sm_is_number, callD_eq xm 1 0 _ [rt T B] _ rfl, b_is_number, rt]
  simp -implicitDefEqProofs only [exs_nil, exs_cons, ex_pass, ex_brk, ex_cnt, ex_doc, ex_expr, ex_ret, ex_retN, ex_asg, ex_par, ex_setI, ex_aug, ex_ite, ex_whl, ex_for, ex_raise, ex_try,
    ev_con, ev_glob, ev_var, ev_bin, ev_un, ev_cmp, ev_chain, ev_and, ev_or, ev_not, ev_ife, ev_tup, ev_lst, ev_sub, ev_slice, ev_rev, ev_dct0, ev_call, ev_blt, ev_isi, ev_mth, ev_comp, ev_fz, evs_nil, evs_cons, evi_val, evi_range, evo_no, evo_var, evo_con, evo_bin, evo_un, evoK_int, slice_lst, slice_tup, compG_nm, compG_tp, compO_some, compB, noR_ok, wipe_nil, wipe_cons, evt_eq,
    bnd_ok, bnd_raise, andS_ok, andS_raise, seq_nx, seq_ret, seq_raise, seq_brk, seq_cnt, ofO_some, nxO_some, nxS_some, try_raise, try_ret, try_nx, asgT_nm, asgT_tp, setAll_nil, setAll_cons,
    tru_bl, tru_int, tru_non, tru_lst, tru_tup, add_int, sub_int, mul_int, fdiv_int, mod_int, neg_int, lt_int, le_int, gt_int, ge_int, eq_int, ne_int, eq_str, ne_str, is_bl, isnot_bl, abs_int, int_int, int_bl, bool_bl, max_int, min_int, gcd_int, len_lst, len_tup, tuple_lst, sub_lst, sub_tup, items_lst, items_tup, add_lst, add_tup, add_str, rev_lst, newLst_f, newLst_t, end_nx,
    List.map_cons, List.map_nil, List.length_cons, List.length_nil, List.replicate_succ, List.replicate_zero, List.cons_append, List.nil_append, List.append_nil, List.getElem?_cons_zero, List.getElem?_cons_succ, List.set_cons_zero, List.set_cons_succ, List.reverse_cons, List.reverse_nil, Option.map_some, Option.map_none,
    ev_ext, ev_fstr, ev_meth, meth_obj, fld_obj, prop_obj, own2_obj, own2_int, ownU_obj, ownC_int, bool_int, eq_bl, ne_bl, eqEnd_eq, eqEnd_ne, isC_obj, isC_non, isC_bl, isC_int, isC_str, isC_tup, isC_lst, isC_dct, ownB_str, strEnd_str, ownB_bool, blEnd_bl, ext_mk, mkEnd_1, mkEnd_2, mkEnd_3, mkEnd_4, mkEnd_5, Nat.reduceLT, ex_setA, setA_last, ofO_some,
    if_true, if_false, Bool.false_eq_true, Bool.not_true, Bool.not_false, decide_true, decide_false, Bool.and_true, Bool.true_and, Bool.false_and, Bool.and_false, Bool.or_true, Bool.true_or, Bool.or_false, Bool.false_or, Nat.zero_add, Nat.reduceAdd, reduceCtorEq, reduceIte, hk]
  rw [end_ret rfl, closeSt_self]
theorem number_int (a : Int) (st : Store) : sm_is_number [.int a] st = .ok (.bl true) st := by
  have hw := whole_at (x := .int a) (by simp [isiD]) st
  rw [sm_is_number, callD_eq xm 1 0 _ [.int a] _ rfl, b_is_number]
  simp -implicitDefEqProofs only [exs_nil, exs_cons, ex_pass, ex_brk, ex_cnt, ex_doc, ex_expr, ex_ret, ex_retN, ex_asg, ex_par, ex_setI, ex_aug, ex_ite, ex_whl, ex_for, ex_raise, ex_try,
    ev_con, ev_glob, ev_var, ev_bin, ev_un, ev_cmp, ev_chain, ev_and, ev_or, ev_not, ev_ife, ev_tup, ev_lst, ev_sub, ev_slice, ev_rev, ev_dct0, ev_call, ev_blt, ev_isi, ev_mth, ev_comp, ev_fz, evs_nil, evs_cons, evi_val, evi_range, evo_no, evo_var, evo_con, evo_bin, evo_un, evoK_int, slice_lst, slice_tup, compG_nm, compG_tp, compO_some, compB, noR_ok, wipe_nil, wipe_cons, evt_eq,
    bnd_ok, bnd_raise, andS_ok, andS_raise, seq_nx, seq_ret, seq_raise, seq_brk, seq_cnt, ofO_some, nxO_some, nxS_some, try_raise, try_ret, try_nx, asgT_nm, asgT_tp, setAll_nil, setAll_cons,
    tru_bl, tru_int, tru_non, tru_lst, tru_tup, add_int, sub_int, mul_int, fdiv_int, mod_int, neg_int, lt_int, le_int, gt_int, ge_int, eq_int, ne_int, eq_str, ne_str, is_bl, isnot_bl, abs_int, int_int, int_bl, bool_bl, max_int, min_int, gcd_int, len_lst, len_tup, tuple_lst, sub_lst, sub_tup, items_lst, items_tup, add_lst, add_tup, add_str, rev_lst, newLst_f, newLst_t, end_nx,
    List.map_cons, List.map_nil, List.length_cons, List.length_nil, List.replicate_succ, List.replicate_zero, List.cons_append, List.nil_append, List.append_nil, List.getElem?_cons_zero, List.getElem?_cons_succ, List.set_cons_zero, List.set_cons_succ, List.reverse_cons, List.reverse_nil, Option.map_some, Option.map_none,
    ev_ext, ev_fstr, ev_meth, meth_obj, fld_obj, prop_obj, own2_obj, own2_int, ownU_obj, ownC_int, bool_int, eq_bl, ne_bl, eqEnd_eq, eqEnd_ne, isC_obj, isC_non, isC_bl, isC_int, isC_str, isC_tup, isC_lst, isC_dct, ownB_str, strEnd_str, ownB_bool, blEnd_bl, ext_mk, mkEnd_1, mkEnd_2, mkEnd_3, mkEnd_4, mkEnd_5, Nat.reduceLT, ex_setA, setA_last, ofO_some,
    if_true, if_false, Bool.false_eq_true, Bool.not_true, Bool.not_false, decide_true, decide_false, Bool.and_true, Bool.true_and, Bool.false_and, Bool.and_false, Bool.or_true, Bool.true_or, Bool.or_false, Bool.false_or, Nat.zero_add, Nat.reduceAdd, reduceCtorEq, reduceIte, hw, isWhole]
  rw [end_ret rfl, closeSt_self]
/-- an operand: its value, its top, its bottom -/
structure Opd (x : D) (t b : Int) : Prop where
  parts : ∀ st, sm_parts_of [x] st = .ok (.tup [.int t, .int b]) st
  num : ∀ st, sm_is_number [x] st = .ok (.bl true) st
  kind : (∃ T B, x = rt T B) ∨ ∃ i, x = .int i
theorem Opd.rt (T B : Int) : Opd (rt T B) T B := ⟨parts_rt T B, number_rt T B, .inl ⟨T, B, rfl⟩⟩
theorem Opd.int (a : Int) : Opd (.int a) a 1 := ⟨parts_int a, number_int a, .inr ⟨a, rfl⟩⟩
theorem Opd.own2 {x : D} {t b : Int} (h : Opd x t b) (o : BO) (a : Alt) (T B : Int) (st : Store) : extD (.own2 o 1 a) [L02.rt T B, x] st = a.sm (L02.rt T B :: x :: a.dv) st := by
  rcases h.kind with ⟨T', B', rfl⟩ | ⟨i, rfl⟩
  · exact own2_obj _ _ _ _ _ _
  · exact own2_int _ _ _ _ _ _
theorem Opd.cd {x : D} {t b : Int} (h : Opd x t b) : (isCD 1 x).isSome = true := by
  rcases h.kind with ⟨T', B', rfl⟩ | ⟨i, rfl⟩ <;> rfl
theorem mul_b {a b : Int} (ha : a.natAbs < 2 ^ 7000) (hb : b.natAbs < 2 ^ 7000) : mulOk a b = true := mul_ok 7000 7000 ha hb (by decide) (by decide) (by decide)
section
variable {T B t b : Int} {x : D} (h : Opd x t b) (h1 : T.natAbs < 2 ^ 3500) (h2 : B.natAbs < 2 ^ 3500) (h3 : t.natAbs < 2 ^ 3500) (h4 : b.natAbs < 2 ^ 3500) (hB : B ≠ 0) (hb : b ≠ 0)
include h h1 h2 h3 h4
theorem mul_s {p q : Int} (k1 : p.natAbs < 2 ^ 3500) (k2 : q.natAbs < 2 ^ 3500) : (p * q).natAbs < 2 ^ 7000 := by
  rw [Int.natAbs_mul]
  have : (2 : Nat) ^ 7000 = 2 ^ 3500 * 2 ^ 3500 := by rw [← Nat.pow_add]
  rw [this]
  exact Nat.mul_lt_mul'' k1 k2
theorem compared_at (st : Store) : sm_Ratio_compared [rt T B, x] st = .ok (.int ((if decide (0 < T * b - t * B) = true then (1 : Int) else 0) - (if decide (T * b - t * B < 0) = true then (1 : Int) else 0))) st := by
  have m1 : mulOk T b = true := mul_b (small_le h1 (by decide)) (small_le h4 (by decide))
  have m2 : mulOk t B = true := mul_b (small_le h3 (by decide)) (small_le h2 (by decide))
  have hp := h.parts st
  rw [sm_Ratio_compared, callD_eq xm 2 3 _ [rt T B, x] _ rfl, b_Ratio_compared, rt]
  simp -implicitDefEqProofs only [exs_nil, exs_cons, ex_pass, ex_brk, ex_cnt, ex_doc, ex_expr, ex_ret, ex_retN, ex_asg, ex_par, ex_setI, ex_aug, ex_ite, ex_whl, ex_for, ex_raise, ex_try,
    ev_con, ev_glob, ev_var, ev_bin, ev_un, ev_cmp, ev_chain, ev_and, ev_or, ev_not, ev_ife, ev_tup, ev_lst, ev_sub, ev_slice, ev_rev, ev_dct0, ev_call, ev_blt, ev_isi, ev_mth, ev_comp, ev_fz, evs_nil, evs_cons, evi_val, evi_range, evo_no, evo_var, evo_con, evo_bin, evo_un, evoK_int, slice_lst, slice_tup, compG_nm, compG_tp, compO_some, compB, noR_ok, wipe_nil, wipe_cons, evt_eq,
    bnd_ok, bnd_raise, andS_ok, andS_raise, seq_nx, seq_ret, seq_raise, seq_brk, seq_cnt, ofO_some, nxO_some, nxS_some, try_raise, try_ret, try_nx, asgT_nm, asgT_tp, setAll_nil, setAll_cons,
    tru_bl, tru_int, tru_non, tru_lst, tru_tup, add_int, sub_int, mul_int, fdiv_int, mod_int, neg_int, lt_int, le_int, gt_int, ge_int, eq_int, ne_int, eq_str, ne_str, is_bl, isnot_bl, abs_int, int_int, int_bl, bool_bl, max_int, min_int, gcd_int, len_lst, len_tup, tuple_lst, sub_lst, sub_tup, items_lst, items_tup, add_lst, add_tup, add_str, rev_lst, newLst_f, newLst_t, end_nx,
    List.map_cons, List.map_nil, List.length_cons, List.length_nil, List.replicate_succ, List.replicate_zero, List.cons_append, List.nil_append, List.append_nil, List.getElem?_cons_zero, List.getElem?_cons_succ, List.set_cons_zero, List.set_cons_succ, List.reverse_cons, List.reverse_nil, Option.map_some, Option.map_none,
    ev_ext, ev_fstr, ev_meth, meth_obj, fld_obj, prop_obj, own2_obj, own2_int, ownU_obj, ownC_int, bool_int, eq_bl, ne_bl, eqEnd_eq, eqEnd_ne, isC_obj, isC_non, isC_bl, isC_int, isC_str, isC_tup, isC_lst, isC_dct, ownB_str, strEnd_str, ownB_bool, blEnd_bl, ext_mk, mkEnd_1, mkEnd_2, mkEnd_3, mkEnd_4, mkEnd_5, Nat.reduceLT, ex_setA, setA_last, ofO_some,
    if_true, if_false, Bool.false_eq_true, Bool.not_true, Bool.not_false, decide_true, decide_false, Bool.and_true, Bool.true_and, Bool.false_and, Bool.and_false, Bool.or_true, Bool.true_or, Bool.or_false, Bool.false_or, Nat.zero_add, Nat.reduceAdd, reduceCtorEq, reduceIte, hp, m1, m2]
  rw [end_ret rfl, closeSt_self]
include hB hb
theorem mul_n : B * b ≠ 0 := Int.mul_ne_zero hB hb
theorem add_at (st : Store) : sm_Ratio_add_ [rt T B, x] st = .ok (rt (lwT (T * b + t * B) (B * b)) (lwB (T * b + t * B) (B * b))) st := by
  have m1 : mulOk T b = true := mul_b (small_le h1 (by decide)) (small_le h4 (by decide))
  have m2 : mulOk t B = true := mul_b (small_le h3 (by decide)) (small_le h2 (by decide))
  have m3 : mulOk B b = true := mul_b (small_le h2 (by decide)) (small_le h4 (by decide))
  have hp := h.parts st
  have hn := h.num st
  have hr := ratio_with_at (a := T * b + t * B) (Int.mul_ne_zero hB hb) (small_le (mul_s h h1 h2 h3 h4 h2 h4) (by decide)) st
  rw [sm_Ratio_add_, callD_eq xm 2 2 _ [rt T B, x] _ rfl, b_Ratio_add_, rt]
  simp -implicitDefEqProofs only [exs_nil, exs_cons, ex_pass, ex_brk, ex_cnt, ex_doc, ex_expr, ex_ret, ex_retN, ex_asg, ex_par, ex_setI, ex_aug, ex_ite, ex_whl, ex_for, ex_raise, ex_try,
    ev_con, ev_glob, ev_var, ev_bin, ev_un, ev_cmp, ev_chain, ev_and, ev_or, ev_not, ev_ife, ev_tup, ev_lst, ev_sub, ev_slice, ev_rev, ev_dct0, ev_call, ev_blt, ev_isi, ev_mth, ev_comp, ev_fz, evs_nil, evs_cons, evi_val, evi_range, evo_no, evo_var, evo_con, evo_bin, evo_un, evoK_int, slice_lst, slice_tup, compG_nm, compG_tp, compO_some, compB, noR_ok, wipe_nil, wipe_cons, evt_eq,
    bnd_ok, bnd_raise, andS_ok, andS_raise, seq_nx, seq_ret, seq_raise, seq_brk, seq_cnt, ofO_some, nxO_some, nxS_some, try_raise, try_ret, try_nx, asgT_nm, asgT_tp, setAll_nil, setAll_cons,
    tru_bl, tru_int, tru_non, tru_lst, tru_tup, add_int, sub_int, mul_int, fdiv_int, mod_int, neg_int, lt_int, le_int, gt_int, ge_int, eq_int, ne_int, eq_str, ne_str, is_bl, isnot_bl, abs_int, int_int, int_bl, bool_bl, max_int, min_int, gcd_int, len_lst, len_tup, tuple_lst, sub_lst, sub_tup, items_lst, items_tup, add_lst, add_tup, add_str, rev_lst, newLst_f, newLst_t, end_nx,
    List.map_cons, List.map_nil, List.length_cons, List.length_nil, List.replicate_succ, List.replicate_zero, List.cons_append, List.nil_append, List.append_nil, List.getElem?_cons_zero, List.getElem?_cons_succ, List.set_cons_zero, List.set_cons_succ, List.reverse_cons, List.reverse_nil, Option.map_some, Option.map_none,
    ev_ext, ev_fstr, ev_meth, meth_obj, fld_obj, prop_obj, own2_obj, own2_int, ownU_obj, ownC_int, bool_int, eq_bl, ne_bl, eqEnd_eq, eqEnd_ne, isC_obj, isC_non, isC_bl, isC_int, isC_str, isC_tup, isC_lst, isC_dct, ownB_str, strEnd_str, ownB_bool, blEnd_bl, ext_mk, mkEnd_1, mkEnd_2, mkEnd_3, mkEnd_4, mkEnd_5, Nat.reduceLT, ex_setA, setA_last, ofO_some,
    if_true, if_false, Bool.false_eq_true, Bool.not_true, Bool.not_false, decide_true, decide_false, Bool.and_true, Bool.true_and, Bool.false_and, Bool.and_false, Bool.or_true, Bool.true_or, Bool.or_false, Bool.false_or, Nat.zero_add, Nat.reduceAdd, reduceCtorEq, reduceIte, hp, hn, m1, m2, m3, hr]
  rw [end_ret rfl, closeSt_self]
theorem sub_at (st : Store) : sm_Ratio_sub_ [rt T B, x] st = .ok (rt (lwT (T * b - t * B) (B * b)) (lwB (T * b - t * B) (B * b))) st := by
  have m1 : mulOk T b = true := mul_b (small_le h1 (by decide)) (small_le h4 (by decide))
  have m2 : mulOk t B = true := mul_b (small_le h3 (by decide)) (small_le h2 (by decide))
  have m3 : mulOk B b = true := mul_b (small_le h2 (by decide)) (small_le h4 (by decide))
  have hp := h.parts st
  have hn := h.num st
  have hr := ratio_with_at (a := T * b - t * B) (Int.mul_ne_zero hB hb) (small_le (mul_s h h1 h2 h3 h4 h2 h4) (by decide)) st
  rw [sm_Ratio_sub_, callD_eq xm 2 2 _ [rt T B, x] _ rfl, b_Ratio_sub_, rt]
  simp -implicitDefEqProofs only [exs_nil, exs_cons, ex_pass, ex_brk, ex_cnt, ex_doc, ex_expr, ex_ret, ex_retN, ex_asg, ex_par, ex_setI, ex_aug, ex_ite, ex_whl, ex_for, ex_raise, ex_try,
    ev_con, ev_glob, ev_var, ev_bin, ev_un, ev_cmp, ev_chain, ev_and, ev_or, ev_not, ev_ife, ev_tup, ev_lst, ev_sub, ev_slice, ev_rev, ev_dct0, ev_call, ev_blt, ev_isi, ev_mth, ev_comp, ev_fz, evs_nil, evs_cons, evi_val, evi_range, evo_no, evo_var, evo_con, evo_bin, evo_un, evoK_int, slice_lst, slice_tup, compG_nm, compG_tp, compO_some, compB, noR_ok, wipe_nil, wipe_cons, evt_eq,
    bnd_ok, bnd_raise, andS_ok, andS_raise, seq_nx, seq_ret, seq_raise, seq_brk, seq_cnt, ofO_some, nxO_some, nxS_some, try_raise, try_ret, try_nx, asgT_nm, asgT_tp, setAll_nil, setAll_cons,
    tru_bl, tru_int, tru_non, tru_lst, tru_tup, add_int, sub_int, mul_int, fdiv_int, mod_int, neg_int, lt_int, le_int, gt_int, ge_int, eq_int, ne_int, eq_str, ne_str, is_bl, isnot_bl, abs_int, int_int, int_bl, bool_bl, max_int, min_int, gcd_int, len_lst, len_tup, tuple_lst, sub_lst, sub_tup, items_lst, items_tup, add_lst, add_tup, add_str, rev_lst, newLst_f, newLst_t, end_nx,
    List.map_cons, List.map_nil, List.length_cons, List.length_nil, List.replicate_succ, List.replicate_zero, List.cons_append, List.nil_append, List.append_nil, List.getElem?_cons_zero, List.getElem?_cons_succ, List.set_cons_zero, List.set_cons_succ, List.reverse_cons, List.reverse_nil, Option.map_some, Option.map_none,
    ev_ext, ev_fstr, ev_meth, meth_obj, fld_obj, prop_obj, own2_obj, own2_int, ownU_obj, ownC_int, bool_int, eq_bl, ne_bl, eqEnd_eq, eqEnd_ne, isC_obj, isC_non, isC_bl, isC_int, isC_str, isC_tup, isC_lst, isC_dct, ownB_str, strEnd_str, ownB_bool, blEnd_bl, ext_mk, mkEnd_1, mkEnd_2, mkEnd_3, mkEnd_4, mkEnd_5, Nat.reduceLT, ex_setA, setA_last, ofO_some,
    if_true, if_false, Bool.false_eq_true, Bool.not_true, Bool.not_false, decide_true, decide_false, Bool.and_true, Bool.true_and, Bool.false_and, Bool.and_false, Bool.or_true, Bool.true_or, Bool.or_false, Bool.false_or, Nat.zero_add, Nat.reduceAdd, reduceCtorEq, reduceIte, hp, hn, m1, m2, m3, hr]
  rw [end_ret rfl, closeSt_self]
theorem mul_at (st : Store) : sm_Ratio_mul_ [rt T B, x] st = .ok (rt (lwT (T * t) (B * b)) (lwB (T * t) (B * b))) st := by
  have m1 : mulOk T t = true := mul_b (small_le h1 (by decide)) (small_le h3 (by decide))
  have m3 : mulOk B b = true := mul_b (small_le h2 (by decide)) (small_le h4 (by decide))
  have hp := h.parts st
  have hn := h.num st
  have hr := ratio_with_at (a := T * t) (Int.mul_ne_zero hB hb) (small_le (mul_s h h1 h2 h3 h4 h2 h4) (by decide)) st
  rw [sm_Ratio_mul_, callD_eq xm 2 2 _ [rt T B, x] _ rfl, b_Ratio_mul_, rt]
  simp -implicitDefEqProofs only [exs_nil, exs_cons, ex_pass, ex_brk, ex_cnt, ex_doc, ex_expr, ex_ret, ex_retN, ex_asg, ex_par, ex_setI, ex_aug, ex_ite, ex_whl, ex_for, ex_raise, ex_try,
    ev_con, ev_glob, ev_var, ev_bin, ev_un, ev_cmp, ev_chain, ev_and, ev_or, ev_not, ev_ife, ev_tup, ev_lst, ev_sub, ev_slice, ev_rev, ev_dct0, ev_call, ev_blt, ev_isi, ev_mth, ev_comp, ev_fz, evs_nil, evs_cons, evi_val, evi_range, evo_no, evo_var, evo_con, evo_bin, evo_un, evoK_int, slice_lst, slice_tup, compG_nm, compG_tp, compO_some, compB, noR_ok, wipe_nil, wipe_cons, evt_eq,
    bnd_ok, bnd_raise, andS_ok, andS_raise, seq_nx, seq_ret, seq_raise, seq_brk, seq_cnt, ofO_some, nxO_some, nxS_some, try_raise, try_ret, try_nx, asgT_nm, asgT_tp, setAll_nil, setAll_cons,
    tru_bl, tru_int, tru_non, tru_lst, tru_tup, add_int, sub_int, mul_int, fdiv_int, mod_int, neg_int, lt_int, le_int, gt_int, ge_int, eq_int, ne_int, eq_str, ne_str, is_bl, isnot_bl, abs_int, int_int, int_bl, bool_bl, max_int, min_int, gcd_int, len_lst, len_tup, tuple_lst, sub_lst, sub_tup, items_lst, items_tup, add_lst, add_tup, add_str, rev_lst, newLst_f, newLst_t, end_nx,
    List.map_cons, List.map_nil, List.length_cons, List.length_nil, List.replicate_succ, List.replicate_zero, List.cons_append, List.nil_append, List.append_nil, List.getElem?_cons_zero, List.getElem?_cons_succ, List.set_cons_zero, List.set_cons_succ, List.reverse_cons, List.reverse_nil, Option.map_some, Option.map_none,
    ev_ext, ev_fstr, ev_meth, meth_obj, fld_obj, prop_obj, own2_obj, own2_int, ownU_obj, ownC_int, bool_int, eq_bl, ne_bl, eqEnd_eq, eqEnd_ne, isC_obj, isC_non, isC_bl, isC_int, isC_str, isC_tup, isC_lst, isC_dct, ownB_str, strEnd_str, ownB_bool, blEnd_bl, ext_mk, mkEnd_1, mkEnd_2, mkEnd_3, mkEnd_4, mkEnd_5, Nat.reduceLT, ex_setA, setA_last, ofO_some,
    if_true, if_false, Bool.false_eq_true, Bool.not_true, Bool.not_false, decide_true, decide_false, Bool.and_true, Bool.true_and, Bool.false_and, Bool.and_false, Bool.or_true, Bool.true_or, Bool.or_false, Bool.false_or, Nat.zero_add, Nat.reduceAdd, reduceCtorEq, reduceIte, hp, hn, m1, m3, hr]
  rw [end_ret rfl, closeSt_self]
theorem over_at (ht : t ≠ 0) (st : Store) : sm_Ratio_over [rt T B, x] st = .ok (rt (lwT (T * b) (B * t)) (lwB (T * b) (B * t))) st := by
  have m1 : mulOk T b = true := mul_b (small_le h1 (by decide)) (small_le h4 (by decide))
  have m3 : mulOk B t = true := mul_b (small_le h2 (by decide)) (small_le h3 (by decide))
  have hp := h.parts st
  have hr := ratio_with_at (a := T * b) (Int.mul_ne_zero hB ht) (small_le (mul_s h h1 h2 h3 h4 h2 h3) (by decide)) st
  have h0 : (t == 0) = false := by simp [ht]
  rw [sm_Ratio_over, callD_eq xm 2 2 _ [rt T B, x] _ rfl, b_Ratio_over, rt]
  simp -implicitDefEqProofs only [exs_nil, exs_cons, ex_pass, ex_brk, ex_cnt, ex_doc, ex_expr, ex_ret, ex_retN, ex_asg, ex_par, ex_setI, ex_aug, ex_ite, ex_whl, ex_for, ex_raise, ex_try,
    ev_con, ev_glob, ev_var, ev_bin, ev_un, ev_cmp, ev_chain, ev_and, ev_or, ev_not, ev_ife, ev_tup, ev_lst, ev_sub, ev_slice, ev_rev, ev_dct0, ev_call, ev_blt, ev_isi, ev_mth, ev_comp, ev_fz, evs_nil, evs_cons, evi_val, evi_range, evo_no, evo_var, evo_con, evo_bin, evo_un, evoK_int, slice_lst, slice_tup, compG_nm, compG_tp, compO_some, compB, noR_ok, wipe_nil, wipe_cons, evt_eq,
    bnd_ok, bnd_raise, andS_ok, andS_raise, seq_nx, seq_ret, seq_raise, seq_brk, seq_cnt, ofO_some, nxO_some, nxS_some, try_raise, try_ret, try_nx, asgT_nm, asgT_tp, setAll_nil, setAll_cons,
    tru_bl, tru_int, tru_non, tru_lst, tru_tup, add_int, sub_int, mul_int, fdiv_int, mod_int, neg_int, lt_int, le_int, gt_int, ge_int, eq_int, ne_int, eq_str, ne_str, is_bl, isnot_bl, abs_int, int_int, int_bl, bool_bl, max_int, min_int, gcd_int, len_lst, len_tup, tuple_lst, sub_lst, sub_tup, items_lst, items_tup, add_lst, add_tup, add_str, rev_lst, newLst_f, newLst_t, end_nx,
    List.map_cons, List.map_nil, List.length_cons, List.length_nil, List.replicate_succ, List.replicate_zero, List.cons_append, List.nil_append, List.append_nil, List.getElem?_cons_zero, List.getElem?_cons_succ, List.set_cons_zero, List.set_cons_succ, List.reverse_cons, List.reverse_nil, Option.map_some, Option.map_none,
    ev_ext, ev_fstr, ev_meth, meth_obj, fld_obj, prop_obj, own2_obj, own2_int, ownU_obj, ownC_int, bool_int, eq_bl, ne_bl, eqEnd_eq, eqEnd_ne, isC_obj, isC_non, isC_bl, isC_int, isC_str, isC_tup, isC_lst, isC_dct, ownB_str, strEnd_str, ownB_bool, blEnd_bl, ext_mk, mkEnd_1, mkEnd_2, mkEnd_3, mkEnd_4, mkEnd_5, Nat.reduceLT, ex_setA, setA_last, ofO_some,
    if_true, if_false, Bool.false_eq_true, Bool.not_true, Bool.not_false, decide_true, decide_false, Bool.and_true, Bool.true_and, Bool.false_and, Bool.and_false, Bool.or_true, Bool.true_or, Bool.or_false, Bool.false_or, Nat.zero_add, Nat.reduceAdd, reduceCtorEq, reduceIte, hp, m1, m3, hr, h0]
  rw [end_ret rfl, closeSt_self]
end
theorem over_zero {T B b : Int} {x : D} (h : Opd x 0 b) (st : Store) : sm_Ratio_over [rt T B, x] st = .raise ⟨0, []⟩ st := by
  have hp := h.parts st
  have hm : mk_InvalidOperation [.str "a number other than 0 is expected"] st = some ⟨0, []⟩ := by
    simp [mk_InvalidOperation, mkNo, szOk]
  rw [sm_Ratio_over, callD_eq xm 2 2 _ [rt T B, x] _ rfl, b_Ratio_over, rt]
  simp -implicitDefEqProofs only [exs_nil, exs_cons, ex_pass, ex_brk, ex_cnt, ex_doc, ex_expr, ex_ret, ex_retN, ex_asg, ex_par, ex_setI, ex_aug, ex_ite, ex_whl, ex_for, ex_raise, ex_try,
    ev_con, ev_glob, ev_var, ev_bin, ev_un, ev_cmp, ev_chain, ev_and, ev_or, ev_not, ev_ife, ev_tup, ev_lst, ev_sub, ev_slice, ev_rev, ev_dct0, ev_call, ev_blt, ev_isi, ev_mth, ev_comp, ev_fz, evs_nil, evs_cons, evi_val, evi_range, evo_no, evo_var, evo_con, evo_bin, evo_un, evoK_int, slice_lst, slice_tup, compG_nm, compG_tp, compO_some, compB, noR_ok, wipe_nil, wipe_cons, evt_eq,
    bnd_ok, bnd_raise, andS_ok, andS_raise, seq_nx, seq_ret, seq_raise, seq_brk, seq_cnt, ofO_some, nxO_some, nxS_some, try_raise, try_ret, try_nx, asgT_nm, asgT_tp, setAll_nil, setAll_cons,
    tru_bl, tru_int, tru_non, tru_lst, tru_tup, add_int, sub_int, mul_int, fdiv_int, mod_int, neg_int, lt_int, le_int, gt_int, ge_int, eq_int, ne_int, eq_str, ne_str, is_bl, isnot_bl, abs_int, int_int, int_bl, bool_bl, max_int, min_int, gcd_int, len_lst, len_tup, tuple_lst, sub_lst, sub_tup, items_lst, items_tup, add_lst, add_tup, add_str, rev_lst, newLst_f, newLst_t, end_nx,
    List.map_cons, List.map_nil, List.length_cons, List.length_nil, List.replicate_succ, List.replicate_zero, List.cons_append, List.nil_append, List.append_nil, List.getElem?_cons_zero, List.getElem?_cons_succ, List.set_cons_zero, List.set_cons_succ, List.reverse_cons, List.reverse_nil, Option.map_some, Option.map_none,
    ev_ext, ev_fstr, ev_meth, meth_obj, fld_obj, prop_obj, own2_obj, own2_int, ownU_obj, ownC_int, bool_int, eq_bl, ne_bl, eqEnd_eq, eqEnd_ne, isC_obj, isC_non, isC_bl, isC_int, isC_str, isC_tup, isC_lst, isC_dct, ownB_str, strEnd_str, ownB_bool, blEnd_bl, ext_mk, mkEnd_1, mkEnd_2, mkEnd_3, mkEnd_4, mkEnd_5, Nat.reduceLT, ex_setA, setA_last, ofO_some,
    if_true, if_false, Bool.false_eq_true, Bool.not_true, Bool.not_false, decide_true, decide_false, Bool.and_true, Bool.true_and, Bool.false_and, Bool.and_false, Bool.or_true, Bool.true_or, Bool.or_false, Bool.false_or, Nat.zero_add, Nat.reduceAdd, reduceCtorEq, reduceIte, hp, beq_self_eq_true, raise_at hm]
  rw [end_raise rfl, closeSt_self]
theorem over_bad {T B : Int} {x : D} (h : Shown x) (hw : isWhole x = false) (hc : isCD 1 x = some false) (st : Store) : sm_Ratio_over [rt T B, x] st = .raise ⟨1, [x]⟩ st := by
  have hp := parts_bad h hw hc st
  rw [sm_Ratio_over, callD_eq xm 2 2 _ [rt T B, x] _ rfl, b_Ratio_over, rt]
  simp -implicitDefEqProofs only [exs_nil, exs_cons, ex_pass, ex_brk, ex_cnt, ex_doc, ex_expr, ex_ret, ex_retN, ex_asg, ex_par, ex_setI, ex_aug, ex_ite, ex_whl, ex_for, ex_raise, ex_try,
    ev_con, ev_glob, ev_var, ev_bin, ev_un, ev_cmp, ev_chain, ev_and, ev_or, ev_not, ev_ife, ev_tup, ev_lst, ev_sub, ev_slice, ev_rev, ev_dct0, ev_call, ev_blt, ev_isi, ev_mth, ev_comp, ev_fz, evs_nil, evs_cons, evi_val, evi_range, evo_no, evo_var, evo_con, evo_bin, evo_un, evoK_int, slice_lst, slice_tup, compG_nm, compG_tp, compO_some, compB, noR_ok, wipe_nil, wipe_cons, evt_eq,
    bnd_ok, bnd_raise, andS_ok, andS_raise, seq_nx, seq_ret, seq_raise, seq_brk, seq_cnt, ofO_some, nxO_some, nxS_some, try_raise, try_ret, try_nx, asgT_nm, asgT_tp, setAll_nil, setAll_cons,
    tru_bl, tru_int, tru_non, tru_lst, tru_tup, add_int, sub_int, mul_int, fdiv_int, mod_int, neg_int, lt_int, le_int, gt_int, ge_int, eq_int, ne_int, eq_str, ne_str, is_bl, isnot_bl, abs_int, int_int, int_bl, bool_bl, max_int, min_int, gcd_int, len_lst, len_tup, tuple_lst, sub_lst, sub_tup, items_lst, items_tup, add_lst, add_tup, add_str, rev_lst, newLst_f, newLst_t, end_nx,
    List.map_cons, List.map_nil, List.length_cons, List.length_nil, List.replicate_succ, List.replicate_zero, List.cons_append, List.nil_append, List.append_nil, List.getElem?_cons_zero, List.getElem?_cons_succ, List.set_cons_zero, List.set_cons_succ, List.reverse_cons, List.reverse_nil, Option.map_some, Option.map_none,
    ev_ext, ev_fstr, ev_meth, meth_obj, fld_obj, prop_obj, own2_obj, own2_int, ownU_obj, ownC_int, bool_int, eq_bl, ne_bl, eqEnd_eq, eqEnd_ne, isC_obj, isC_non, isC_bl, isC_int, isC_str, isC_tup, isC_lst, isC_dct, ownB_str, strEnd_str, ownB_bool, blEnd_bl, ext_mk, mkEnd_1, mkEnd_2, mkEnd_3, mkEnd_4, mkEnd_5, Nat.reduceLT, ex_setA, setA_last, ofO_some,
    if_true, if_false, Bool.false_eq_true, Bool.not_true, Bool.not_false, decide_true, decide_false, Bool.and_true, Bool.true_and, Bool.false_and, Bool.and_false, Bool.or_true, Bool.true_or, Bool.or_false, Bool.false_or, Nat.zero_add, Nat.reduceAdd, reduceCtorEq, reduceIte, hp]
  rw [end_raise (by simp [noRefs, h.pure]), closeSt_self]
theorem compared_bad {T B : Int} {x : D} (h : Shown x) (hw : isWhole x = false) (hc : isCD 1 x = some false) (st : Store) : sm_Ratio_compared [rt T B, x] st = .raise ⟨1, [x]⟩ st := by
  have hp := parts_bad h hw hc st
  rw [sm_Ratio_compared, callD_eq xm 2 3 _ [rt T B, x] _ rfl, b_Ratio_compared, rt]
  simp -implicitDefEqProofs only [exs_nil, exs_cons, ex_pass, ex_brk, ex_cnt, ex_doc, ex_expr, ex_ret, ex_retN, ex_asg, ex_par, ex_setI, ex_aug, ex_ite, ex_whl, ex_for, ex_raise, ex_try,
    ev_con, ev_glob, ev_var, ev_bin, ev_un, ev_cmp, ev_chain, ev_and, ev_or, ev_not, ev_ife, ev_tup, ev_lst, ev_sub, ev_slice, ev_rev, ev_dct0, ev_call, ev_blt, ev_isi, ev_mth, ev_comp, ev_fz, evs_nil, evs_cons, evi_val, evi_range, evo_no, evo_var, evo_con, evo_bin, evo_un, evoK_int, slice_lst, slice_tup, compG_nm, compG_tp, compO_some, compB, noR_ok, wipe_nil, wipe_cons, evt_eq,
    bnd_ok, bnd_raise, andS_ok, andS_raise, seq_nx, seq_ret, seq_raise, seq_brk, seq_cnt, ofO_some, nxO_some, nxS_some, try_raise, try_ret, try_nx, asgT_nm, asgT_tp, setAll_nil, setAll_cons,
    tru_bl, tru_int, tru_non, tru_lst, tru_tup, add_int, sub_int, mul_int, fdiv_int, mod_int, neg_int, lt_int, le_int, gt_int, ge_int, eq_int, ne_int, eq_str, ne_str, is_bl, isnot_bl, abs_int, int_int, int_bl, bool_bl, max_int, min_int, gcd_int, len_lst, len_tup, tuple_lst, sub_lst, sub_tup, items_lst, items_tup, add_lst, add_tup, add_str, rev_lst, newLst_f, newLst_t, end_nx,
    List.map_cons, List.map_nil, List.length_cons, List.length_nil, List.replicate_succ, List.replicate_zero, List.cons_append, List.nil_append, List.append_nil, List.getElem?_cons_zero, List.getElem?_cons_succ, List.set_cons_zero, List.set_cons_succ, List.reverse_cons, List.reverse_nil, Option.map_some, Option.map_none,
    ev_ext, ev_fstr, ev_meth, meth_obj, fld_obj, prop_obj, own2_obj, own2_int, ownU_obj, ownC_int, bool_int, eq_bl, ne_bl, eqEnd_eq, eqEnd_ne, isC_obj, isC_non, isC_bl, isC_int, isC_str, isC_tup, isC_lst, isC_dct, ownB_str, strEnd_str, ownB_bool, blEnd_bl, ext_mk, mkEnd_1, mkEnd_2, mkEnd_3, mkEnd_4, mkEnd_5, Nat.reduceLT, ex_setA, setA_last, ofO_some,
    if_true, if_false, Bool.false_eq_true, Bool.not_true, Bool.not_false, decide_true, decide_false, Bool.and_true, Bool.true_and, Bool.false_and, Bool.and_false, Bool.or_true, Bool.true_or, Bool.or_false, Bool.false_or, Nat.zero_add, Nat.reduceAdd, reduceCtorEq, reduceIte, hp]
  rw [end_raise (by simp [noRefs, h.pure]), closeSt_self]
theorem neg_at {T B : Int} (h : Low T B) (h1 : T.natAbs < 2 ^ 3500) (h2 : B.natAbs < 2 ^ 3500) (st : Store) : sm_Ratio_neg_ [rt T B] st = .ok (rt (-T) B) st := by
  have hb : B ≠ 0 := by have := h.pos; omega
  have hr := ratio_with_at (a := -T) hb (small_le h2 (by decide)) st
  obtain ⟨q1, q2⟩ := low_lw (T := -T) (B := B) ⟨h.pos, by rw [Int.natAbs_neg]; exact h.co⟩
  rw [q1, q2] at hr
  rw [sm_Ratio_neg_, callD_eq xm 1 0 _ [rt T B] _ rfl, b_Ratio_neg_, rt]
  simp -implicitDefEqProofs only [exs_nil, exs_cons, ex_pass, ex_brk, ex_cnt, ex_doc, ex_expr, ex_ret, ex_retN, ex_asg, ex_par, ex_setI, ex_aug, ex_ite, ex_whl, ex_for, ex_raise, ex_try,
    ev_con, ev_glob, ev_var, ev_bin, ev_un, ev_cmp, ev_chain, ev_and, ev_or, ev_not, ev_ife, ev_tup, ev_lst, ev_sub, ev_slice, ev_rev, ev_dct0, ev_call, ev_blt, ev_isi, ev_mth, ev_comp, ev_fz, evs_nil, evs_cons, evi_val, evi_range, evo_no, evo_var, evo_con, evo_bin, evo_un, evoK_int, slice_lst, slice_tup, compG_nm, compG_tp, compO_some, compB, noR_ok, wipe_nil, wipe_cons, evt_eq,
    bnd_ok, bnd_raise, andS_ok, andS_raise, seq_nx, seq_ret, seq_raise, seq_brk, seq_cnt, ofO_some, nxO_some, nxS_some, try_raise, try_ret, try_nx, asgT_nm, asgT_tp, setAll_nil, setAll_cons,
    tru_bl, tru_int, tru_non, tru_lst, tru_tup, add_int, sub_int, mul_int, fdiv_int, mod_int, neg_int, lt_int, le_int, gt_int, ge_int, eq_int, ne_int, eq_str, ne_str, is_bl, isnot_bl, abs_int, int_int, int_bl, bool_bl, max_int, min_int, gcd_int, len_lst, len_tup, tuple_lst, sub_lst, sub_tup, items_lst, items_tup, add_lst, add_tup, add_str, rev_lst, newLst_f, newLst_t, end_nx,
    List.map_cons, List.map_nil, List.length_cons, List.length_nil, List.replicate_succ, List.replicate_zero, List.cons_append, List.nil_append, List.append_nil, List.getElem?_cons_zero, List.getElem?_cons_succ, List.set_cons_zero, List.set_cons_succ, List.reverse_cons, List.reverse_nil, Option.map_some, Option.map_none,
    ev_ext, ev_fstr, ev_meth, meth_obj, fld_obj, prop_obj, own2_obj, own2_int, ownU_obj, ownC_int, bool_int, eq_bl, ne_bl, eqEnd_eq, eqEnd_ne, isC_obj, isC_non, isC_bl, isC_int, isC_str, isC_tup, isC_lst, isC_dct, ownB_str, strEnd_str, ownB_bool, blEnd_bl, ext_mk, mkEnd_1, mkEnd_2, mkEnd_3, mkEnd_4, mkEnd_5, Nat.reduceLT, ex_setA, setA_last, ofO_some,
    if_true, if_false, Bool.false_eq_true, Bool.not_true, Bool.not_false, decide_true, decide_false, Bool.and_true, Bool.true_and, Bool.false_and, Bool.and_false, Bool.or_true, Bool.true_or, Bool.or_false, Bool.false_or, Nat.zero_add, Nat.reduceAdd, reduceCtorEq, reduceIte, hr]
  rw [end_ret rfl, closeSt_self]
theorem eq_rt (T B T' B' : Int) (st : Store) : sm_Ratio_eq_ [rt T B, rt T' B'] st = .ok (.bl ((T == T') && (B == B'))) st := by
  have hk : (1 == 1) = true := rfl
  rw [sm_Ratio_eq_, callD_eq xm 2 0 _ [rt T B, rt T' B'] _ rfl, b_Ratio_eq_, rt, rt]
  cases h1 : (T == T') with
  | true =>
    simp -implicitDefEqProofs only [exs_nil, exs_cons, ex_pass, ex_brk, ex_cnt, ex_doc, ex_expr, ex_ret, ex_retN, ex_asg, ex_par, ex_setI, ex_aug, ex_ite, ex_whl, ex_for, ex_raise, ex_try,
    ev_con, ev_glob, ev_var, ev_bin, ev_un, ev_cmp, ev_chain, ev_and, ev_or, ev_not, ev_ife, ev_tup, ev_lst, ev_sub, ev_slice, ev_rev, ev_dct0, ev_call, ev_blt, ev_isi, ev_mth, ev_comp, ev_fz, evs_nil, evs_cons, evi_val, evi_range, evo_no, evo_var, evo_con, evo_bin, evo_un, evoK_int, slice_lst, slice_tup, compG_nm, compG_tp, compO_some, compB, noR_ok, wipe_nil, wipe_cons, evt_eq,
    bnd_ok, bnd_raise, andS_ok, andS_raise, seq_nx, seq_ret, seq_raise, seq_brk, seq_cnt, ofO_some, nxO_some, nxS_some, try_raise, try_ret, try_nx, asgT_nm, asgT_tp, setAll_nil, setAll_cons,
    tru_bl, tru_int, tru_non, tru_lst, tru_tup, add_int, sub_int, mul_int, fdiv_int, mod_int, neg_int, lt_int, le_int, gt_int, ge_int, eq_int, ne_int, eq_str, ne_str, is_bl, isnot_bl, abs_int, int_int, int_bl, bool_bl, max_int, min_int, gcd_int, len_lst, len_tup, tuple_lst, sub_lst, sub_tup, items_lst, items_tup, add_lst, add_tup, add_str, rev_lst, newLst_f, newLst_t, end_nx,
    List.map_cons, List.map_nil, List.length_cons, List.length_nil, List.replicate_succ, List.replicate_zero, List.cons_append, List.nil_append, List.append_nil, List.getElem?_cons_zero, List.getElem?_cons_succ, List.set_cons_zero, List.set_cons_succ, List.reverse_cons, List.reverse_nil, Option.map_some, Option.map_none,
    ev_ext, ev_fstr, ev_meth, meth_obj, fld_obj, prop_obj, own2_obj, own2_int, ownU_obj, ownC_int, bool_int, eq_bl, ne_bl, eqEnd_eq, eqEnd_ne, isC_obj, isC_non, isC_bl, isC_int, isC_str, isC_tup, isC_lst, isC_dct, ownB_str, strEnd_str, ownB_bool, blEnd_bl, ext_mk, mkEnd_1, mkEnd_2, mkEnd_3, mkEnd_4, mkEnd_5, Nat.reduceLT, ex_setA, setA_last, ofO_some,
    if_true, if_false, Bool.false_eq_true, Bool.not_true, Bool.not_false, decide_true, decide_false, Bool.and_true, Bool.true_and, Bool.false_and, Bool.and_false, Bool.or_true, Bool.true_or, Bool.or_false, Bool.false_or, Nat.zero_add, Nat.reduceAdd, reduceCtorEq, reduceIte, hk, h1]
    rw [end_ret rfl, closeSt_self]
  | false =>
    simp -implicitDefEqProofs only [exs_nil, exs_cons, ex_pass, ex_brk, ex_cnt, ex_doc, ex_expr, ex_ret, ex_retN, ex_asg, ex_par, ex_setI, ex_aug, ex_ite, ex_whl, ex_for, ex_raise, ex_try,
    ev_con, ev_glob, ev_var, ev_bin, ev_un, ev_cmp, ev_chain, ev_and, ev_or, ev_not, ev_ife, ev_tup, ev_lst, ev_sub, ev_slice, ev_rev, ev_dct0, ev_call, ev_blt, ev_isi, ev_mth, ev_comp, ev_fz, evs_nil, evs_cons, evi_val, evi_range, evo_no, evo_var, evo_con, evo_bin, evo_un, evoK_int, slice_lst, slice_tup, compG_nm, compG_tp, compO_some, compB, noR_ok, wipe_nil, wipe_cons, evt_eq,
    bnd_ok, bnd_raise, andS_ok, andS_raise, seq_nx, seq_ret, seq_raise, seq_brk, seq_cnt, ofO_some, nxO_some, nxS_some, try_raise, try_ret, try_nx, asgT_nm, asgT_tp, setAll_nil, setAll_cons,
    tru_bl, tru_int, tru_non, tru_lst, tru_tup, add_int, sub_int, mul_int, fdiv_int, mod_int, neg_int, lt_int, le_int, gt_int, ge_int, eq_int, ne_int, eq_str, ne_str, is_bl, isnot_bl, abs_int, int_int, int_bl, bool_bl, max_int, min_int, gcd_int, len_lst, len_tup, tuple_lst, sub_lst, sub_tup, items_lst, items_tup, add_lst, add_tup, add_str, rev_lst, newLst_f, newLst_t, end_nx,
    List.map_cons, List.map_nil, List.length_cons, List.length_nil, List.replicate_succ, List.replicate_zero, List.cons_append, List.nil_append, List.append_nil, List.getElem?_cons_zero, List.getElem?_cons_succ, List.set_cons_zero, List.set_cons_succ, List.reverse_cons, List.reverse_nil, Option.map_some, Option.map_none,
    ev_ext, ev_fstr, ev_meth, meth_obj, fld_obj, prop_obj, own2_obj, own2_int, ownU_obj, ownC_int, bool_int, eq_bl, ne_bl, eqEnd_eq, eqEnd_ne, isC_obj, isC_non, isC_bl, isC_int, isC_str, isC_tup, isC_lst, isC_dct, ownB_str, strEnd_str, ownB_bool, blEnd_bl, ext_mk, mkEnd_1, mkEnd_2, mkEnd_3, mkEnd_4, mkEnd_5, Nat.reduceLT, ex_setA, setA_last, ofO_some,
    if_true, if_false, Bool.false_eq_true, Bool.not_true, Bool.not_false, decide_true, decide_false, Bool.and_true, Bool.true_and, Bool.false_and, Bool.and_false, Bool.or_true, Bool.true_or, Bool.or_false, Bool.false_or, Nat.zero_add, Nat.reduceAdd, reduceCtorEq, reduceIte, hk, h1]
    rw [end_ret rfl, closeSt_self]
theorem eq_other {T B : Int} {x : D} (hc : isCD 1 x = some false) (st : Store) : sm_Ratio_eq_ [rt T B, x] st = .ok (.bl false) st := by
  have hk : extD (.isC 1) [x] st = .ok (.bl false) st := by
    show ofO ((isCD 1 x).map D.bl) _ = _
    rw [hc]; rfl
  rw [sm_Ratio_eq_, callD_eq xm 2 0 _ [rt T B, x] _ rfl, b_Ratio_eq_]
  simp -implicitDefEqProofs only [exs_nil, exs_cons, ex_pass, ex_brk, ex_cnt, ex_doc, ex_expr, ex_ret, ex_retN, ex_asg, ex_par, ex_setI, ex_aug, ex_ite, ex_whl, ex_for, ex_raise, ex_try,
    ev_con, ev_glob, ev_var, ev_bin, ev_un, ev_cmp, ev_chain, ev_and, ev_or, ev_not, ev_ife, ev_tup, ev_lst, ev_sub, ev_slice, ev_rev, ev_dct0, ev_call, ev_blt, ev_isi, ev_mth, ev_comp, ev_fz, evs_nil, evs_cons, evi_val, evi_range, evo_no, evo_var, evo_con, evo_bin, evo_un, evoK_int, slice_lst, slice_tup, compG_nm, compG_tp, compO_some, compB, noR_ok, wipe_nil, wipe_cons, evt_eq,
    bnd_ok, bnd_raise, andS_ok, andS_raise, seq_nx, seq_ret, seq_raise, seq_brk, seq_cnt, ofO_some, nxO_some, nxS_some, try_raise, try_ret, try_nx, asgT_nm, asgT_tp, setAll_nil, setAll_cons,
    tru_bl, tru_int, tru_non, tru_lst, tru_tup, add_int, sub_int, mul_int, fdiv_int, mod_int, neg_int, lt_int, le_int, gt_int, ge_int, eq_int, ne_int, eq_str, ne_str, is_bl, isnot_bl, abs_int, int_int, int_bl, bool_bl, max_int, min_int, gcd_int, len_lst, len_tup, tuple_lst, sub_lst, sub_tup, items_lst, items_tup, add_lst, add_tup, add_str, rev_lst, newLst_f, newLst_t, end_nx,
    List.map_cons, List.map_nil, List.length_cons, List.length_nil, List.replicate_succ, List.replicate_zero, List.cons_append, List.nil_append, List.append_nil, List.getElem?_cons_zero, List.getElem?_cons_succ, List.set_cons_zero, List.set_cons_succ, List.reverse_cons, List.reverse_nil, Option.map_some, Option.map_none,
    ev_ext, ev_fstr, ev_meth, meth_obj, fld_obj, prop_obj, own2_obj, own2_int, ownU_obj, ownC_int, bool_int, eq_bl, ne_bl, eqEnd_eq, eqEnd_ne, isC_obj, isC_non, isC_bl, isC_int, isC_str, isC_tup, isC_lst, isC_dct, ownB_str, strEnd_str, ownB_bool, blEnd_bl, ext_mk, mkEnd_1, mkEnd_2, mkEnd_3, mkEnd_4, mkEnd_5, Nat.reduceLT, ex_setA, setA_last, ofO_some,
    if_true, if_false, Bool.false_eq_true, Bool.not_true, Bool.not_false, decide_true, decide_false, Bool.and_true, Bool.true_and, Bool.false_and, Bool.and_false, Bool.or_true, Bool.true_or, Bool.or_false, Bool.false_or, Nat.zero_add, Nat.reduceAdd, reduceCtorEq, reduceIte, hk]
  rw [end_ret rfl, closeSt_self]
theorem top_at (T B : Int) (st : Store) : sm_Ratio_top [rt T B] st = .ok (.int T) st := by
  rw [sm_Ratio_top, callD_eq xm 1 0 _ [rt T B] _ rfl, b_Ratio_top, rt]
  simp -implicitDefEqProofs only [exs_nil, exs_cons, ex_pass, ex_brk, ex_cnt, ex_doc, ex_expr, ex_ret, ex_retN, ex_asg, ex_par, ex_setI, ex_aug, ex_ite, ex_whl, ex_for, ex_raise, ex_try,
    ev_con, ev_glob, ev_var, ev_bin, ev_un, ev_cmp, ev_chain, ev_and, ev_or, ev_not, ev_ife, ev_tup, ev_lst, ev_sub, ev_slice, ev_rev, ev_dct0, ev_call, ev_blt, ev_isi, ev_mth, ev_comp, ev_fz, evs_nil, evs_cons, evi_val, evi_range, evo_no, evo_var, evo_con, evo_bin, evo_un, evoK_int, slice_lst, slice_tup, compG_nm, compG_tp, compO_some, compB, noR_ok, wipe_nil, wipe_cons, evt_eq,
    bnd_ok, bnd_raise, andS_ok, andS_raise, seq_nx, seq_ret, seq_raise, seq_brk, seq_cnt, ofO_some, nxO_some, nxS_some, try_raise, try_ret, try_nx, asgT_nm, asgT_tp, setAll_nil, setAll_cons,
    tru_bl, tru_int, tru_non, tru_lst, tru_tup, add_int, sub_int, mul_int, fdiv_int, mod_int, neg_int, lt_int, le_int, gt_int, ge_int, eq_int, ne_int, eq_str, ne_str, is_bl, isnot_bl, abs_int, int_int, int_bl, bool_bl, max_int, min_int, gcd_int, len_lst, len_tup, tuple_lst, sub_lst, sub_tup, items_lst, items_tup, add_lst, add_tup, add_str, rev_lst, newLst_f, newLst_t, end_nx,
    List.map_cons, List.map_nil, List.length_cons, List.length_nil, List.replicate_succ, List.replicate_zero, List.cons_append, List.nil_append, List.append_nil, List.getElem?_cons_zero, List.getElem?_cons_succ, List.set_cons_zero, List.set_cons_succ, List.reverse_cons, List.reverse_nil, Option.map_some, Option.map_none,
    ev_ext, ev_fstr, ev_meth, meth_obj, fld_obj, prop_obj, own2_obj, own2_int, ownU_obj, ownC_int, bool_int, eq_bl, ne_bl, eqEnd_eq, eqEnd_ne, isC_obj, isC_non, isC_bl, isC_int, isC_str, isC_tup, isC_lst, isC_dct, ownB_str, strEnd_str, ownB_bool, blEnd_bl, ext_mk, mkEnd_1, mkEnd_2, mkEnd_3, mkEnd_4, mkEnd_5, Nat.reduceLT, ex_setA, setA_last, ofO_some,
    if_true, if_false, Bool.false_eq_true, Bool.not_true, Bool.not_false, decide_true, decide_false, Bool.and_true, Bool.true_and, Bool.false_and, Bool.and_false, Bool.or_true, Bool.true_or, Bool.or_false, Bool.false_or, Nat.zero_add, Nat.reduceAdd, reduceCtorEq, reduceIte]
  rw [end_ret rfl, closeSt_self]
theorem bottom_at (T B : Int) (st : Store) : sm_Ratio_bottom [rt T B] st = .ok (.int B) st := by
  rw [sm_Ratio_bottom, callD_eq xm 1 0 _ [rt T B] _ rfl, b_Ratio_bottom, rt]
  simp -implicitDefEqProofs only [exs_nil, exs_cons, ex_pass, ex_brk, ex_cnt, ex_doc, ex_expr, ex_ret, ex_retN, ex_asg, ex_par, ex_setI, ex_aug, ex_ite, ex_whl, ex_for, ex_raise, ex_try,
    ev_con, ev_glob, ev_var, ev_bin, ev_un, ev_cmp, ev_chain, ev_and, ev_or, ev_not, ev_ife, ev_tup, ev_lst, ev_sub, ev_slice, ev_rev, ev_dct0, ev_call, ev_blt, ev_isi, ev_mth, ev_comp, ev_fz, evs_nil, evs_cons, evi_val, evi_range, evo_no, evo_var, evo_con, evo_bin, evo_un, evoK_int, slice_lst, slice_tup, compG_nm, compG_tp, compO_some, compB, noR_ok, wipe_nil, wipe_cons, evt_eq,
    bnd_ok, bnd_raise, andS_ok, andS_raise, seq_nx, seq_ret, seq_raise, seq_brk, seq_cnt, ofO_some, nxO_some, nxS_some, try_raise, try_ret, try_nx, asgT_nm, asgT_tp, setAll_nil, setAll_cons,
    tru_bl, tru_int, tru_non, tru_lst, tru_tup, add_int, sub_int, mul_int, fdiv_int, mod_int, neg_int, lt_int, le_int, gt_int, ge_int, eq_int, ne_int, eq_str, ne_str, is_bl, isnot_bl, abs_int, int_int, int_bl, bool_bl, max_int, min_int, gcd_int, len_lst, len_tup, tuple_lst, sub_lst, sub_tup, items_lst, items_tup, add_lst, add_tup, add_str, rev_lst, newLst_f, newLst_t, end_nx,
    List.map_cons, List.map_nil, List.length_cons, List.length_nil, List.replicate_succ, List.replicate_zero, List.cons_append, List.nil_append, List.append_nil, List.getElem?_cons_zero, List.getElem?_cons_succ, List.set_cons_zero, List.set_cons_succ, List.reverse_cons, List.reverse_nil, Option.map_some, Option.map_none,
    ev_ext, ev_fstr, ev_meth, meth_obj, fld_obj, prop_obj, own2_obj, own2_int, ownU_obj, ownC_int, bool_int, eq_bl, ne_bl, eqEnd_eq, eqEnd_ne, isC_obj, isC_non, isC_bl, isC_int, isC_str, isC_tup, isC_lst, isC_dct, ownB_str, strEnd_str, ownB_bool, blEnd_bl, ext_mk, mkEnd_1, mkEnd_2, mkEnd_3, mkEnd_4, mkEnd_5, Nat.reduceLT, ex_setA, setA_last, ofO_some,
    if_true, if_false, Bool.false_eq_true, Bool.not_true, Bool.not_false, decide_true, decide_false, Bool.and_true, Bool.true_and, Bool.false_and, Bool.and_false, Bool.or_true, Bool.true_or, Bool.or_false, Bool.false_or, Nat.zero_add, Nat.reduceAdd, reduceCtorEq, reduceIte]
  rw [end_ret rfl, closeSt_self]
end L02
set_option Elab.async false
set_option linter.all false
set_option maxRecDepth 100000
set_option maxHeartbeats 2000000
set_option exponentiation.threshold 20000
namespace L02
open Ip
open PySem (Str)
/-! ### the law's pairs -/
def steps (x y : Nat) : Nat := if h : y = 0 then 0 else 1 + steps y (x % y)
termination_by y
decreasing_by exact Nat.mod_lt _ (by omega)
theorem steps_le : ∀ (n x y : Nat), y < 2 ^ n → steps x y ≤ 2 * n
  | 0, x, y, h => by
    rw [steps, dif_pos (by simpa using h)]; omega
  | n + 1, x, y, h => by
    rw [steps]
    split
    · omega
    · rename_i hy
      rw [steps]
      split
      · omega
      · rename_i hr
        have h1 : x % y < y := Nat.mod_lt _ (by omega)
        have h2 : y % (x % y) < x % y := Nat.mod_lt _ (by omega)
        have h3 : (x % y) * (y / (x % y)) + y % (x % y) = y := Nat.div_add_mod _ _
        have h4 : 1 ≤ y / (x % y) := Nat.div_pos (by omega) (by omega)
        have h5 : (x % y) * 1 ≤ (x % y) * (y / (x % y)) := Nat.mul_le_mul_left _ h4
        have := steps_le n (x % y) (y % (x % y)) (by rw [Nat.pow_succ] at h; omega)
        omega
theorem low_at {a b : Int} (hb : b ≠ 0) (h2 : b.natAbs < 2 ^ 8000) (st : Store) : sm__law_low [.int a, .int b] st = .ok (.tup [.int (lwT a b), .int (lwB a b)]) st := by
  obtain ⟨σ', st', e, rfl, rfl⟩ := whl_inv (c := evt w1__law_low) (b := execs xm l1__law_low)
    (fun σ st' => ∃ x y : Nat, σ = [some (.int a), some (.int b), some (.int (x : Int)), some (.int (y : Int))] ∧ Nat.gcd x y = Nat.gcd a.natAbs b.natAbs ∧ st' = st)
    (fun σ _ => match σ with
      | [_, _, some (.int x), some (.int y)] => steps x.natAbs y.natAbs
      | _ => 0)
    (fun σ st' => σ = [some (.int a), some (.int b), some (.int (Nat.gcd a.natAbs b.natAbs : Nat)), some (.int 0)] ∧ st' = st)
    (by
      rintro σ st1 ⟨x, y, rfl, hg, rfl⟩
      by_cases hy : y = 0
      · subst hy
        refine .inl ⟨st1, ?_, ?_, rfl⟩
        · rw [w1__law_low]
          simp -implicitDefEqProofs only [exs_nil, exs_cons, ex_pass, ex_brk, ex_cnt, ex_doc, ex_expr, ex_ret, ex_retN, ex_asg, ex_par, ex_setI, ex_aug, ex_ite, ex_whl, ex_for, ex_raise, ex_try,
    ev_con, ev_glob, ev_var, ev_bin, ev_un, ev_cmp, ev_chain, ev_and, ev_or, ev_not, ev_ife, ev_tup, ev_lst, ev_sub, ev_slice, ev_rev, ev_dct0, ev_call, ev_blt, ev_isi, ev_mth, ev_comp, ev_fz, evs_nil, evs_cons, evi_val, evi_range, evo_no, evo_var, evo_con, evo_bin, evo_un, evoK_int, slice_lst, slice_tup, compG_nm, compG_tp, compO_some, compB, noR_ok, wipe_nil, wipe_cons, evt_eq,
    bnd_ok, bnd_raise, andS_ok, andS_raise, seq_nx, seq_ret, seq_raise, seq_brk, seq_cnt, ofO_some, nxO_some, nxS_some, try_raise, try_ret, try_nx, asgT_nm, asgT_tp, setAll_nil, setAll_cons,
    tru_bl, tru_int, tru_non, tru_lst, tru_tup, add_int, sub_int, mul_int, fdiv_int, mod_int, neg_int, lt_int, le_int, gt_int, ge_int, eq_int, ne_int, eq_str, ne_str, is_bl, isnot_bl, abs_int, int_int, int_bl, bool_bl, max_int, min_int, gcd_int, len_lst, len_tup, tuple_lst, sub_lst, sub_tup, items_lst, items_tup, add_lst, add_tup, add_str, rev_lst, newLst_f, newLst_t, end_nx,
    List.map_cons, List.map_nil, List.length_cons, List.length_nil, List.replicate_succ, List.replicate_zero, List.cons_append, List.nil_append, List.append_nil, List.getElem?_cons_zero, List.getElem?_cons_succ, List.set_cons_zero, List.set_cons_succ, List.reverse_cons, List.reverse_nil, Option.map_some, Option.map_none,
    ev_ext, ev_fstr, ev_meth, meth_obj, fld_obj, prop_obj, own2_obj, own2_int, ownU_obj, ownC_int, bool_int, eq_bl, ne_bl, eqEnd_eq, eqEnd_ne, isC_obj, isC_non, isC_bl, isC_int, isC_str, isC_tup, isC_lst, isC_dct, ownB_str, strEnd_str, ownB_bool, blEnd_bl, ext_mk, mkEnd_1, mkEnd_2, mkEnd_3, mkEnd_4, mkEnd_5, Nat.reduceLT, ex_setA, setA_last, ofO_some,
    if_true, if_false, Bool.false_eq_true, Bool.not_true, Bool.not_false, decide_true, decide_false, Bool.and_true, Bool.true_and, Bool.false_and, Bool.and_false, Bool.or_true, Bool.true_or, Bool.or_false, Bool.false_or, Nat.zero_add, Nat.reduceAdd, reduceCtorEq, reduceIte]
          rfl
        · rw [← hg]; simp
      · refine .inr ⟨st1, [some (.int a), some (.int b), some (.int (y : Int)), some (.int ((x % y : Nat) : Int))], st1, ?_, ?_, ⟨y, x % y, rfl, ?_, rfl⟩, ?_⟩
        · have : (0 : Int) < (y : Int) := by omega
          rw [w1__law_low]
          simp -implicitDefEqProofs only [exs_nil, exs_cons, ex_pass, ex_brk, ex_cnt, ex_doc, ex_expr, ex_ret, ex_retN, ex_asg, ex_par, ex_setI, ex_aug, ex_ite, ex_whl, ex_for, ex_raise, ex_try,
    ev_con, ev_glob, ev_var, ev_bin, ev_un, ev_cmp, ev_chain, ev_and, ev_or, ev_not, ev_ife, ev_tup, ev_lst, ev_sub, ev_slice, ev_rev, ev_dct0, ev_call, ev_blt, ev_isi, ev_mth, ev_comp, ev_fz, evs_nil, evs_cons, evi_val, evi_range, evo_no, evo_var, evo_con, evo_bin, evo_un, evoK_int, slice_lst, slice_tup, compG_nm, compG_tp, compO_some, compB, noR_ok, wipe_nil, wipe_cons, evt_eq,
    bnd_ok, bnd_raise, andS_ok, andS_raise, seq_nx, seq_ret, seq_raise, seq_brk, seq_cnt, ofO_some, nxO_some, nxS_some, try_raise, try_ret, try_nx, asgT_nm, asgT_tp, setAll_nil, setAll_cons,
    tru_bl, tru_int, tru_non, tru_lst, tru_tup, add_int, sub_int, mul_int, fdiv_int, mod_int, neg_int, lt_int, le_int, gt_int, ge_int, eq_int, ne_int, eq_str, ne_str, is_bl, isnot_bl, abs_int, int_int, int_bl, bool_bl, max_int, min_int, gcd_int, len_lst, len_tup, tuple_lst, sub_lst, sub_tup, items_lst, items_tup, add_lst, add_tup, add_str, rev_lst, newLst_f, newLst_t, end_nx,
    List.map_cons, List.map_nil, List.length_cons, List.length_nil, List.replicate_succ, List.replicate_zero, List.cons_append, List.nil_append, List.append_nil, List.getElem?_cons_zero, List.getElem?_cons_succ, List.set_cons_zero, List.set_cons_succ, List.reverse_cons, List.reverse_nil, Option.map_some, Option.map_none,
    ev_ext, ev_fstr, ev_meth, meth_obj, fld_obj, prop_obj, own2_obj, own2_int, ownU_obj, ownC_int, bool_int, eq_bl, ne_bl, eqEnd_eq, eqEnd_ne, isC_obj, isC_non, isC_bl, isC_int, isC_str, isC_tup, isC_lst, isC_dct, ownB_str, strEnd_str, ownB_bool, blEnd_bl, ext_mk, mkEnd_1, mkEnd_2, mkEnd_3, mkEnd_4, mkEnd_5, Nat.reduceLT, ex_setA, setA_last, ofO_some,
    if_true, if_false, Bool.false_eq_true, Bool.not_true, Bool.not_false, decide_true, decide_false, Bool.and_true, Bool.true_and, Bool.false_and, Bool.and_false, Bool.or_true, Bool.true_or, Bool.or_false, Bool.false_or, Nat.zero_add, Nat.reduceAdd, reduceCtorEq, reduceIte, this]
        · have : (y : Int) ≠ 0 := by omega
          have e : ((x : Int)).fmod (y : Int) = ((x % y : Nat) : Int) := by
            rw [Int.fmod_eq_emod_of_nonneg _ (by omega)]; rfl
          rw [l1__law_low]
          simp -implicitDefEqProofs only [exs_nil, exs_cons, ex_pass, ex_brk, ex_cnt, ex_doc, ex_expr, ex_ret, ex_retN, ex_asg, ex_par, ex_setI, ex_aug, ex_ite, ex_whl, ex_for, ex_raise, ex_try,
    ev_con, ev_glob, ev_var, ev_bin, ev_un, ev_cmp, ev_chain, ev_and, ev_or, ev_not, ev_ife, ev_tup, ev_lst, ev_sub, ev_slice, ev_rev, ev_dct0, ev_call, ev_blt, ev_isi, ev_mth, ev_comp, ev_fz, evs_nil, evs_cons, evi_val, evi_range, evo_no, evo_var, evo_con, evo_bin, evo_un, evoK_int, slice_lst, slice_tup, compG_nm, compG_tp, compO_some, compB, noR_ok, wipe_nil, wipe_cons, evt_eq,
    bnd_ok, bnd_raise, andS_ok, andS_raise, seq_nx, seq_ret, seq_raise, seq_brk, seq_cnt, ofO_some, nxO_some, nxS_some, try_raise, try_ret, try_nx, asgT_nm, asgT_tp, setAll_nil, setAll_cons,
    tru_bl, tru_int, tru_non, tru_lst, tru_tup, add_int, sub_int, mul_int, fdiv_int, mod_int, neg_int, lt_int, le_int, gt_int, ge_int, eq_int, ne_int, eq_str, ne_str, is_bl, isnot_bl, abs_int, int_int, int_bl, bool_bl, max_int, min_int, gcd_int, len_lst, len_tup, tuple_lst, sub_lst, sub_tup, items_lst, items_tup, add_lst, add_tup, add_str, rev_lst, newLst_f, newLst_t, end_nx,
    List.map_cons, List.map_nil, List.length_cons, List.length_nil, List.replicate_succ, List.replicate_zero, List.cons_append, List.nil_append, List.append_nil, List.getElem?_cons_zero, List.getElem?_cons_succ, List.set_cons_zero, List.set_cons_succ, List.reverse_cons, List.reverse_nil, Option.map_some, Option.map_none,
    ev_ext, ev_fstr, ev_meth, meth_obj, fld_obj, prop_obj, own2_obj, own2_int, ownU_obj, ownC_int, bool_int, eq_bl, ne_bl, eqEnd_eq, eqEnd_ne, isC_obj, isC_non, isC_bl, isC_int, isC_str, isC_tup, isC_lst, isC_dct, ownB_str, strEnd_str, ownB_bool, blEnd_bl, ext_mk, mkEnd_1, mkEnd_2, mkEnd_3, mkEnd_4, mkEnd_5, Nat.reduceLT, ex_setA, setA_last, ofO_some,
    if_true, if_false, Bool.false_eq_true, Bool.not_true, Bool.not_false, decide_true, decide_false, Bool.and_true, Bool.true_and, Bool.false_and, Bool.and_false, Bool.or_true, Bool.true_or, Bool.or_false, Bool.false_or, Nat.zero_add, Nat.reduceAdd, reduceCtorEq, reduceIte, this, e, ne_eq, not_false_eq_true]
        · rw [← hg, Nat.gcd_comm x y, Nat.gcd_rec y x, Nat.gcd_comm]
        · show steps y (x % y) < steps x y
          rw [steps.eq_1 x y, dif_neg hy]; omega)
    fuelD [some (.int a), some (.int b), some (.int (a.natAbs : Int)), some (.int (b.natAbs : Int))] st (by
      have := steps_le 8000 a.natAbs b.natAbs h2
      show steps a.natAbs b.natAbs < fuelD
      unfold fuelD; omega) ⟨a.natAbs, b.natAbs, rfl, rfl, rfl⟩
  obtain ⟨k1, k2⟩ := lw_mul (a := a) hb
  have hp := gcd_pos (a := a) hb
  have hgb : Nat.gcd a.natAbs b.natAbs ≤ b.natAbs := Nat.gcd_le_right _ (by omega)
  have hd : divOk ((Nat.gcd a.natAbs b.natAbs : Nat) : Int) = true := div_ok 8000 (by omega) (by rw [Int.natAbs_natCast]; omega) (by decide) (by decide)
  have hz : szOk 2 = true := by decide
  generalize hg : ((Nat.gcd a.natAbs b.natAbs : Nat) : Int) = g at *
  have g0 : g ≠ 0 := by omega
  have f1 : (g * lwT a b).fdiv g = lwT a b := Int.mul_fdiv_cancel_left _ g0
  have f2 : 0 - (0 - g * lwT a b).fdiv g = lwT a b := by
    rw [show 0 - g * lwT a b = g * (-lwT a b) by grind, Int.mul_fdiv_cancel_left _ g0]; omega
  have f3 : (g * lwB a b).fdiv g = lwB a b := Int.mul_fdiv_cancel_left _ g0
  rw [sm__law_low, callD_eq xm 2 2 _ [.int a, .int b] _ rfl, b__law_low]
  by_cases hn : b < 0
  · have hs : lwS a b = -g := by rw [← hg]; exact if_pos hn
    have p1 : 0 - a = g * lwT a b := by
      rw [hs] at k1
      conv => lhs; rw [k1]
      grind
    have p2 : 0 - b = g * lwB a b := by
      rw [hs] at k2
      conv => lhs; rw [k2]
      grind
    by_cases hm : g * lwT a b < 0
    · simp -implicitDefEqProofs only [exs_nil, exs_cons, ex_pass, ex_brk, ex_cnt, ex_doc, ex_expr, ex_ret, ex_retN, ex_asg, ex_par, ex_setI, ex_aug, ex_ite, ex_whl, ex_for, ex_raise, ex_try,
    ev_con, ev_glob, ev_var, ev_bin, ev_un, ev_cmp, ev_chain, ev_and, ev_or, ev_not, ev_ife, ev_tup, ev_lst, ev_sub, ev_slice, ev_rev, ev_dct0, ev_call, ev_blt, ev_isi, ev_mth, ev_comp, ev_fz, evs_nil, evs_cons, evi_val, evi_range, evo_no, evo_var, evo_con, evo_bin, evo_un, evoK_int, slice_lst, slice_tup, compG_nm, compG_tp, compO_some, compB, noR_ok, wipe_nil, wipe_cons, evt_eq,
    bnd_ok, bnd_raise, andS_ok, andS_raise, seq_nx, seq_ret, seq_raise, seq_brk, seq_cnt, ofO_some, nxO_some, nxS_some, try_raise, try_ret, try_nx, asgT_nm, asgT_tp, setAll_nil, setAll_cons,
    tru_bl, tru_int, tru_non, tru_lst, tru_tup, add_int, sub_int, mul_int, fdiv_int, mod_int, neg_int, lt_int, le_int, gt_int, ge_int, eq_int, ne_int, eq_str, ne_str, is_bl, isnot_bl, abs_int, int_int, int_bl, bool_bl, max_int, min_int, gcd_int, len_lst, len_tup, tuple_lst, sub_lst, sub_tup, items_lst, items_tup, add_lst, add_tup, add_str, rev_lst, newLst_f, newLst_t, end_nx,
    List.map_cons, List.map_nil, List.length_cons, List.length_nil, List.replicate_succ, List.replicate_zero, List.cons_append, List.nil_append, List.append_nil, List.getElem?_cons_zero, List.getElem?_cons_succ, List.set_cons_zero, List.set_cons_succ, List.reverse_cons, List.reverse_nil, Option.map_some, Option.map_none,
    ev_ext, ev_fstr, ev_meth, meth_obj, fld_obj, prop_obj, own2_obj, own2_int, ownU_obj, ownC_int, bool_int, eq_bl, ne_bl, eqEnd_eq, eqEnd_ne, isC_obj, isC_non, isC_bl, isC_int, isC_str, isC_tup, isC_lst, isC_dct, ownB_str, strEnd_str, ownB_bool, blEnd_bl, ext_mk, mkEnd_1, mkEnd_2, mkEnd_3, mkEnd_4, mkEnd_5, Nat.reduceLT, ex_setA, setA_last, ofO_some,
    if_true, if_false, Bool.false_eq_true, Bool.not_true, Bool.not_false, decide_true, decide_false, Bool.and_true, Bool.true_and, Bool.false_and, Bool.and_false, Bool.or_true, Bool.true_or, Bool.or_false, Bool.false_or, Nat.zero_add, Nat.reduceAdd, reduceCtorEq, reduceIte, e, hn, p1, p2, hm, hd, f1, f2, f3, hz]
      rw [end_ret rfl, closeSt_self]
    · simp -implicitDefEqProofs only [exs_nil, exs_cons, ex_pass, ex_brk, ex_cnt, ex_doc, ex_expr, ex_ret, ex_retN, ex_asg, ex_par, ex_setI, ex_aug, ex_ite, ex_whl, ex_for, ex_raise, ex_try,
    ev_con, ev_glob, ev_var, ev_bin, ev_un, ev_cmp, ev_chain, ev_and, ev_or, ev_not, ev_ife, ev_tup, ev_lst, ev_sub, ev_slice, ev_rev, ev_dct0, ev_call, ev_blt, ev_isi, ev_mth, ev_comp, ev_fz, evs_nil, evs_cons, evi_val, evi_range, evo_no, evo_var, evo_con, evo_bin, evo_un, evoK_int, slice_lst, slice_tup, compG_nm, compG_tp, compO_some, compB, noR_ok, wipe_nil, wipe_cons, evt_eq,
    bnd_ok, bnd_raise, andS_ok, andS_raise, seq_nx, seq_ret, seq_raise, seq_brk, seq_cnt, ofO_some, nxO_some, nxS_some, try_raise, try_ret, try_nx, asgT_nm, asgT_tp, setAll_nil, setAll_cons,
    tru_bl, tru_int, tru_non, tru_lst, tru_tup, add_int, sub_int, mul_int, fdiv_int, mod_int, neg_int, lt_int, le_int, gt_int, ge_int, eq_int, ne_int, eq_str, ne_str, is_bl, isnot_bl, abs_int, int_int, int_bl, bool_bl, max_int, min_int, gcd_int, len_lst, len_tup, tuple_lst, sub_lst, sub_tup, items_lst, items_tup, add_lst, add_tup, add_str, rev_lst, newLst_f, newLst_t, end_nx,
    List.map_cons, List.map_nil, List.length_cons, List.length_nil, List.replicate_succ, List.replicate_zero, List.cons_append, List.nil_append, List.append_nil, List.getElem?_cons_zero, List.getElem?_cons_succ, List.set_cons_zero, List.set_cons_succ, List.reverse_cons, List.reverse_nil, Option.map_some, Option.map_none,
    ev_ext, ev_fstr, ev_meth, meth_obj, fld_obj, prop_obj, own2_obj, own2_int, ownU_obj, ownC_int, bool_int, eq_bl, ne_bl, eqEnd_eq, eqEnd_ne, isC_obj, isC_non, isC_bl, isC_int, isC_str, isC_tup, isC_lst, isC_dct, ownB_str, strEnd_str, ownB_bool, blEnd_bl, ext_mk, mkEnd_1, mkEnd_2, mkEnd_3, mkEnd_4, mkEnd_5, Nat.reduceLT, ex_setA, setA_last, ofO_some,
    if_true, if_false, Bool.false_eq_true, Bool.not_true, Bool.not_false, decide_true, decide_false, Bool.and_true, Bool.true_and, Bool.false_and, Bool.and_false, Bool.or_true, Bool.true_or, Bool.or_false, Bool.false_or, Nat.zero_add, Nat.reduceAdd, reduceCtorEq, reduceIte, e, hn, p1, p2, hm, hd, f1, f2, f3, hz]
      rw [end_ret rfl, closeSt_self]
  · have hs : lwS a b = g := by rw [← hg]; exact if_neg hn
    rw [hs] at k1 k2
    have q1 : a.fdiv g = lwT a b := by rw [← f1, ← k1]
    have q2 : 0 - (0 - a).fdiv g = lwT a b := by rw [← f2, ← k1]
    have q3 : b.fdiv g = lwB a b := by rw [← f3, ← k2]
    by_cases hm : a < 0
    · simp -implicitDefEqProofs only [exs_nil, exs_cons, ex_pass, ex_brk, ex_cnt, ex_doc, ex_expr, ex_ret, ex_retN, ex_asg, ex_par, ex_setI, ex_aug, ex_ite, ex_whl, ex_for, ex_raise, ex_try,
    ev_con, ev_glob, ev_var, ev_bin, ev_un, ev_cmp, ev_chain, ev_and, ev_or, ev_not, ev_ife, ev_tup, ev_lst, ev_sub, ev_slice, ev_rev, ev_dct0, ev_call, ev_blt, ev_isi, ev_mth, ev_comp, ev_fz, evs_nil, evs_cons, evi_val, evi_range, evo_no, evo_var, evo_con, evo_bin, evo_un, evoK_int, slice_lst, slice_tup, compG_nm, compG_tp, compO_some, compB, noR_ok, wipe_nil, wipe_cons, evt_eq,
    bnd_ok, bnd_raise, andS_ok, andS_raise, seq_nx, seq_ret, seq_raise, seq_brk, seq_cnt, ofO_some, nxO_some, nxS_some, try_raise, try_ret, try_nx, asgT_nm, asgT_tp, setAll_nil, setAll_cons,
    tru_bl, tru_int, tru_non, tru_lst, tru_tup, add_int, sub_int, mul_int, fdiv_int, mod_int, neg_int, lt_int, le_int, gt_int, ge_int, eq_int, ne_int, eq_str, ne_str, is_bl, isnot_bl, abs_int, int_int, int_bl, bool_bl, max_int, min_int, gcd_int, len_lst, len_tup, tuple_lst, sub_lst, sub_tup, items_lst, items_tup, add_lst, add_tup, add_str, rev_lst, newLst_f, newLst_t, end_nx,
    List.map_cons, List.map_nil, List.length_cons, List.length_nil, List.replicate_succ, List.replicate_zero, List.cons_append, List.nil_append, List.append_nil, List.getElem?_cons_zero, List.getElem?_cons_succ, List.set_cons_zero, List.set_cons_succ, List.reverse_cons, List.reverse_nil, Option.map_some, Option.map_none,
    ev_ext, ev_fstr, ev_meth, meth_obj, fld_obj, prop_obj, own2_obj, own2_int, ownU_obj, ownC_int, bool_int, eq_bl, ne_bl, eqEnd_eq, eqEnd_ne, isC_obj, isC_non, isC_bl, isC_int, isC_str, isC_tup, isC_lst, isC_dct, ownB_str, strEnd_str, ownB_bool, blEnd_bl, ext_mk, mkEnd_1, mkEnd_2, mkEnd_3, mkEnd_4, mkEnd_5, Nat.reduceLT, ex_setA, setA_last, ofO_some,
    if_true, if_false, Bool.false_eq_true, Bool.not_true, Bool.not_false, decide_true, decide_false, Bool.and_true, Bool.true_and, Bool.false_and, Bool.and_false, Bool.or_true, Bool.true_or, Bool.or_false, Bool.false_or, Nat.zero_add, Nat.reduceAdd, reduceCtorEq, reduceIte, e, hn, hm, hd, q1, q2, q3, hz]
      rw [end_ret rfl, closeSt_self]
    · simp -implicitDefEqProofs only [exs_nil, exs_cons, ex_pass, ex_brk, ex_cnt, ex_doc, ex_expr, ex_ret, ex_retN, ex_asg, ex_par, ex_setI, ex_aug, ex_ite, ex_whl, ex_for, ex_raise, ex_try,
    ev_con, ev_glob, ev_var, ev_bin, ev_un, ev_cmp, ev_chain, ev_and, ev_or, ev_not, ev_ife, ev_tup, ev_lst, ev_sub, ev_slice, ev_rev, ev_dct0, ev_call, ev_blt, ev_isi, ev_mth, ev_comp, ev_fz, evs_nil, evs_cons, evi_val, evi_range, evo_no, evo_var, evo_con, evo_bin, evo_un, evoK_int, slice_lst, slice_tup, compG_nm, compG_tp, compO_some, compB, noR_ok, wipe_nil, wipe_cons, evt_eq,
    bnd_ok, bnd_raise, andS_ok, andS_raise, seq_nx, seq_ret, seq_raise, seq_brk, seq_cnt, ofO_some, nxO_some, nxS_some, try_raise, try_ret, try_nx, asgT_nm, asgT_tp, setAll_nil, setAll_cons,
    tru_bl, tru_int, tru_non, tru_lst, tru_tup, add_int, sub_int, mul_int, fdiv_int, mod_int, neg_int, lt_int, le_int, gt_int, ge_int, eq_int, ne_int, eq_str, ne_str, is_bl, isnot_bl, abs_int, int_int, int_bl, bool_bl, max_int, min_int, gcd_int, len_lst, len_tup, tuple_lst, sub_lst, sub_tup, items_lst, items_tup, add_lst, add_tup, add_str, rev_lst, newLst_f, newLst_t, end_nx,
    List.map_cons, List.map_nil, List.length_cons, List.length_nil, List.replicate_succ, List.replicate_zero, List.cons_append, List.nil_append, List.append_nil, List.getElem?_cons_zero, List.getElem?_cons_succ, List.set_cons_zero, List.set_cons_succ, List.reverse_cons, List.reverse_nil, Option.map_some, Option.map_none,
    ev_ext, ev_fstr, ev_meth, meth_obj, fld_obj, prop_obj, own2_obj, own2_int, ownU_obj, ownC_int, bool_int, eq_bl, ne_bl, eqEnd_eq, eqEnd_ne, isC_obj, isC_non, isC_bl, isC_int, isC_str, isC_tup, isC_lst, isC_dct, ownB_str, strEnd_str, ownB_bool, blEnd_bl, ext_mk, mkEnd_1, mkEnd_2, mkEnd_3, mkEnd_4, mkEnd_5, Nat.reduceLT, ex_setA, setA_last, ofO_some,
    if_true, if_false, Bool.false_eq_true, Bool.not_true, Bool.not_false, decide_true, decide_false, Bool.and_true, Bool.true_and, Bool.false_and, Bool.and_false, Bool.or_true, Bool.true_or, Bool.or_false, Bool.false_or, Nat.zero_add, Nat.reduceAdd, reduceCtorEq, reduceIte, e, hn, hm, hd, q1, q2, q3, hz]
      rw [end_ret rfl, closeSt_self]
/-! ### draws -/
theorem p10_59 (st : Store) : binD .pow st (.int 10) (.int 59) = some (.int (10 ^ 59)) := pow_at (by decide) (by decide) st
theorem p10_60 (st : Store) : binD .pow st (.int 10) (.int 60) = some (.int (10 ^ 60)) := pow_at (by decide) (by decide) st
theorem p10_30 (st : Store) : binD .pow st (.int 10) (.int 30) = some (.int (10 ^ 30)) := pow_at (by decide) (by decide) st
theorem p10_39 (st : Store) : binD .pow st (.int 10) (.int 39) = some (.int (10 ^ 39)) := pow_at (by decide) (by decide) st
theorem p10_62 (st : Store) : binD .pow st (.int 10) (.int 62) = some (.int (10 ^ 62)) := pow_at (by decide) (by decide) st
theorem p59v : (10 : Int) ^ 59 = 100000000000000000000000000000000000000000000000000000000000 := by decide
theorem p60v : (10 : Int) ^ 60 = 1000000000000000000000000000000000000000000000000000000000000 := by decide
theorem p30v : (10 : Int) ^ 30 = 1000000000000000000000000000000 := by decide
theorem part_at {k r : Nat} {st : Store} (h : Urn k r st) (hk : k + 2 < 2 ^ 60) :
    ∃ v st', sm__law_part [.ref r] st = .ok (.int v) st' ∧ -(10 ^ 59) ≤ v ∧ v ≤ 10 ^ 59 ∧ Urn (k + 2) r st' ∧ st'.length = st.length := by
  obtain ⟨x, st1, e1, hx, u1, l1⟩ := some_at h (by omega) [.int 2, .int 5, .int 12, .int 12, .int 1000, .int (10 ^ 18), .int (10 ^ 59)] (by simp) (by decide) (by simp [noRef])
  obtain ⟨b, rfl, hb0, hb1⟩ : ∃ b : Int, x = .int b ∧ 0 < b ∧ b ≤ 10 ^ 59 := by
    simp only [List.mem_cons, List.mem_nil_iff, or_false] at hx
    rcases hx with rfl | rfl | rfl | rfl | rfl | rfl | rfl <;> exact ⟨_, rfl, by decide, by decide⟩
  rw [p59v] at hb1
  have p210 : (2 : Nat) ^ 210 = 1645504557321206042154969182557350504982735865633579863348609024 := by decide
  have hb2 : (2 * b + 1).natAbs < 2 ^ 210 := by rw [p210]; omega
  obtain ⟨v, st2, e2, v0, v1, u2, l2⟩ := take_at u1 (by omega) (t := 2 * b + 1) (by omega) (Nat.lt_of_lt_of_le hb2 (Nat.pow_le_pow_right (by decide) (by decide)))
  refine ⟨v - b, st2, ?_, by rw [p59v]; omega, by rw [p59v]; omega, u2, by omega⟩
  have m1 : mulOk 2 b = true := mul_ok 61 210 (by decide) (by rw [p210]; omega) (by decide) (by decide) (by decide)
  have hz : szOk 7 = true := by decide
  rw [sm__law_part, callD_eq xm 1 1 _ [.ref r] _ rfl, b__law_part]
  simp -implicitDefEqProofs only [exs_nil, exs_cons, ex_pass, ex_brk, ex_cnt, ex_doc, ex_expr, ex_ret, ex_retN, ex_asg, ex_par, ex_setI, ex_aug, ex_ite, ex_whl, ex_for, ex_raise, ex_try,
    ev_con, ev_glob, ev_var, ev_bin, ev_un, ev_cmp, ev_chain, ev_and, ev_or, ev_not, ev_ife, ev_tup, ev_lst, ev_sub, ev_slice, ev_rev, ev_dct0, ev_call, ev_blt, ev_isi, ev_mth, ev_comp, ev_fz, evs_nil, evs_cons, evi_val, evi_range, evo_no, evo_var, evo_con, evo_bin, evo_un, evoK_int, slice_lst, slice_tup, compG_nm, compG_tp, compO_some, compB, noR_ok, wipe_nil, wipe_cons, evt_eq,
    bnd_ok, bnd_raise, andS_ok, andS_raise, seq_nx, seq_ret, seq_raise, seq_brk, seq_cnt, ofO_some, nxO_some, nxS_some, try_raise, try_ret, try_nx, asgT_nm, asgT_tp, setAll_nil, setAll_cons,
    tru_bl, tru_int, tru_non, tru_lst, tru_tup, add_int, sub_int, mul_int, fdiv_int, mod_int, neg_int, lt_int, le_int, gt_int, ge_int, eq_int, ne_int, eq_str, ne_str, is_bl, isnot_bl, abs_int, int_int, int_bl, bool_bl, max_int, min_int, gcd_int, len_lst, len_tup, tuple_lst, sub_lst, sub_tup, items_lst, items_tup, add_lst, add_tup, add_str, rev_lst, newLst_f, newLst_t, end_nx,
    List.map_cons, List.map_nil, List.length_cons, List.length_nil, List.replicate_succ, List.replicate_zero, List.cons_append, List.nil_append, List.append_nil, List.getElem?_cons_zero, List.getElem?_cons_succ, List.set_cons_zero, List.set_cons_succ, List.reverse_cons, List.reverse_nil, Option.map_some, Option.map_none,
    ev_ext, ev_fstr, ev_meth, meth_obj, fld_obj, prop_obj, own2_obj, own2_int, ownU_obj, ownC_int, bool_int, eq_bl, ne_bl, eqEnd_eq, eqEnd_ne, isC_obj, isC_non, isC_bl, isC_int, isC_str, isC_tup, isC_lst, isC_dct, ownB_str, strEnd_str, ownB_bool, blEnd_bl, ext_mk, mkEnd_1, mkEnd_2, mkEnd_3, mkEnd_4, mkEnd_5, Nat.reduceLT, ex_setA, setA_last, ofO_some,
    if_true, if_false, Bool.false_eq_true, Bool.not_true, Bool.not_false, decide_true, decide_false, Bool.and_true, Bool.true_and, Bool.false_and, Bool.and_false, Bool.or_true, Bool.true_or, Bool.or_false, Bool.false_or, Nat.zero_add, Nat.reduceAdd, reduceCtorEq, reduceIte, e1, e2, m1, hz, p10_18, p10_59]
  rw [end_ret rfl, closeSt_len (by omega)]
theorem pair_at {k r : Nat} {st : Store} (h : Urn k r st) (hk : k + 4 < 2 ^ 60) :
    ∃ a b st', sm__law_pair [.ref r] st = .ok (.tup [.int a, .int b]) st' ∧ -(10 ^ 59) ≤ a ∧ a ≤ 10 ^ 59 ∧ -(10 ^ 59) ≤ b ∧ b ≤ 10 ^ 59 ∧ b ≠ 0 ∧ Urn (k + 4) r st' ∧ st'.length = st.length := by
  obtain ⟨b, st1, e1, b0, b1, u1, l1⟩ := part_at h (by omega)
  obtain ⟨a, st2, e2, a0, a1, u2, l2⟩ := part_at u1 (by omega)
  have hz : szOk 2 = true := by decide
  by_cases hb : b = 0
  · subst hb
    refine ⟨a, 6, st2, ?_, a0, a1, by decide, by decide, by decide, u2, by omega⟩
    rw [sm__law_pair, callD_eq xm 1 1 _ [.ref r] _ rfl, b__law_pair]
    simp -implicitDefEqProofs only [exs_nil, exs_cons, ex_pass, ex_brk, ex_cnt, ex_doc, ex_expr, ex_ret, ex_retN, ex_asg, ex_par, ex_setI, ex_aug, ex_ite, ex_whl, ex_for, ex_raise, ex_try,
    ev_con, ev_glob, ev_var, ev_bin, ev_un, ev_cmp, ev_chain, ev_and, ev_or, ev_not, ev_ife, ev_tup, ev_lst, ev_sub, ev_slice, ev_rev, ev_dct0, ev_call, ev_blt, ev_isi, ev_mth, ev_comp, ev_fz, evs_nil, evs_cons, evi_val, evi_range, evo_no, evo_var, evo_con, evo_bin, evo_un, evoK_int, slice_lst, slice_tup, compG_nm, compG_tp, compO_some, compB, noR_ok, wipe_nil, wipe_cons, evt_eq,
    bnd_ok, bnd_raise, andS_ok, andS_raise, seq_nx, seq_ret, seq_raise, seq_brk, seq_cnt, ofO_some, nxO_some, nxS_some, try_raise, try_ret, try_nx, asgT_nm, asgT_tp, setAll_nil, setAll_cons,
    tru_bl, tru_int, tru_non, tru_lst, tru_tup, add_int, sub_int, mul_int, fdiv_int, mod_int, neg_int, lt_int, le_int, gt_int, ge_int, eq_int, ne_int, eq_str, ne_str, is_bl, isnot_bl, abs_int, int_int, int_bl, bool_bl, max_int, min_int, gcd_int, len_lst, len_tup, tuple_lst, sub_lst, sub_tup, items_lst, items_tup, add_lst, add_tup, add_str, rev_lst, newLst_f, newLst_t, end_nx,
    List.map_cons, List.map_nil, List.length_cons, List.length_nil, List.replicate_succ, List.replicate_zero, List.cons_append, List.nil_append, List.append_nil, List.getElem?_cons_zero, List.getElem?_cons_succ, List.set_cons_zero, List.set_cons_succ, List.reverse_cons, List.reverse_nil, Option.map_some, Option.map_none,
    ev_ext, ev_fstr, ev_meth, meth_obj, fld_obj, prop_obj, own2_obj, own2_int, ownU_obj, ownC_int, bool_int, eq_bl, ne_bl, eqEnd_eq, eqEnd_ne, isC_obj, isC_non, isC_bl, isC_int, isC_str, isC_tup, isC_lst, isC_dct, ownB_str, strEnd_str, ownB_bool, blEnd_bl, ext_mk, mkEnd_1, mkEnd_2, mkEnd_3, mkEnd_4, mkEnd_5, Nat.reduceLT, ex_setA, setA_last, ofO_some,
    if_true, if_false, Bool.false_eq_true, Bool.not_true, Bool.not_false, decide_true, decide_false, Bool.and_true, Bool.true_and, Bool.false_and, Bool.and_false, Bool.or_true, Bool.true_or, Bool.or_false, Bool.false_or, Nat.zero_add, Nat.reduceAdd, reduceCtorEq, reduceIte, e1, e2, hz, beq_self_eq_true]
    rw [end_ret rfl, closeSt_len (by omega)]
  · have h0 : (b == 0) = false := by simp [hb]
    refine ⟨a, b, st2, ?_, a0, a1, b0, b1, hb, u2, by omega⟩
    rw [sm__law_pair, callD_eq xm 1 1 _ [.ref r] _ rfl, b__law_pair]
    simp -implicitDefEqProofs only [exs_nil, exs_cons, ex_pass, ex_brk, ex_cnt, ex_doc, ex_expr, ex_ret, ex_retN, ex_asg, ex_par, ex_setI, ex_aug, ex_ite, ex_whl, ex_for, ex_raise, ex_try,
    ev_con, ev_glob, ev_var, ev_bin, ev_un, ev_cmp, ev_chain, ev_and, ev_or, ev_not, ev_ife, ev_tup, ev_lst, ev_sub, ev_slice, ev_rev, ev_dct0, ev_call, ev_blt, ev_isi, ev_mth, ev_comp, ev_fz, evs_nil, evs_cons, evi_val, evi_range, evo_no, evo_var, evo_con, evo_bin, evo_un, evoK_int, slice_lst, slice_tup, compG_nm, compG_tp, compO_some, compB, noR_ok, wipe_nil, wipe_cons, evt_eq,
    bnd_ok, bnd_raise, andS_ok, andS_raise, seq_nx, seq_ret, seq_raise, seq_brk, seq_cnt, ofO_some, nxO_some, nxS_some, try_raise, try_ret, try_nx, asgT_nm, asgT_tp, setAll_nil, setAll_cons,
    tru_bl, tru_int, tru_non, tru_lst, tru_tup, add_int, sub_int, mul_int, fdiv_int, mod_int, neg_int, lt_int, le_int, gt_int, ge_int, eq_int, ne_int, eq_str, ne_str, is_bl, isnot_bl, abs_int, int_int, int_bl, bool_bl, max_int, min_int, gcd_int, len_lst, len_tup, tuple_lst, sub_lst, sub_tup, items_lst, items_tup, add_lst, add_tup, add_str, rev_lst, newLst_f, newLst_t, end_nx,
    List.map_cons, List.map_nil, List.length_cons, List.length_nil, List.replicate_succ, List.replicate_zero, List.cons_append, List.nil_append, List.append_nil, List.getElem?_cons_zero, List.getElem?_cons_succ, List.set_cons_zero, List.set_cons_succ, List.reverse_cons, List.reverse_nil, Option.map_some, Option.map_none,
    ev_ext, ev_fstr, ev_meth, meth_obj, fld_obj, prop_obj, own2_obj, own2_int, ownU_obj, ownC_int, bool_int, eq_bl, ne_bl, eqEnd_eq, eqEnd_ne, isC_obj, isC_non, isC_bl, isC_int, isC_str, isC_tup, isC_lst, isC_dct, ownB_str, strEnd_str, ownB_bool, blEnd_bl, ext_mk, mkEnd_1, mkEnd_2, mkEnd_3, mkEnd_4, mkEnd_5, Nat.reduceLT, ex_setA, setA_last, ofO_some,
    if_true, if_false, Bool.false_eq_true, Bool.not_true, Bool.not_false, decide_true, decide_false, Bool.and_true, Bool.true_and, Bool.false_and, Bool.and_false, Bool.or_true, Bool.true_or, Bool.or_false, Bool.false_or, Nat.zero_add, Nat.reduceAdd, reduceCtorEq, reduceIte, e1, e2, hz, h0]
    rw [end_ret rfl, closeSt_len (by omega)]
/-! ### what is shown -/
theorem sign_at (T B : Int) (st : Store) : sm_Ratio_sign [rt T B] st = .ok (.int ((if decide (0 < T) = true then (1 : Int) else 0) - (if decide (T < 0) = true then (1 : Int) else 0))) st := by
  rw [sm_Ratio_sign, callD_eq xm 1 0 _ [rt T B] _ rfl, b_Ratio_sign, rt]
  simp -implicitDefEqProofs only [exs_nil, exs_cons, ex_pass, ex_brk, ex_cnt, ex_doc, ex_expr, ex_ret, ex_retN, ex_asg, ex_par, ex_setI, ex_aug, ex_ite, ex_whl, ex_for, ex_raise, ex_try,
    ev_con, ev_glob, ev_var, ev_bin, ev_un, ev_cmp, ev_chain, ev_and, ev_or, ev_not, ev_ife, ev_tup, ev_lst, ev_sub, ev_slice, ev_rev, ev_dct0, ev_call, ev_blt, ev_isi, ev_mth, ev_comp, ev_fz, evs_nil, evs_cons, evi_val, evi_range, evo_no, evo_var, evo_con, evo_bin, evo_un, evoK_int, slice_lst, slice_tup, compG_nm, compG_tp, compO_some, compB, noR_ok, wipe_nil, wipe_cons, evt_eq,
    bnd_ok, bnd_raise, andS_ok, andS_raise, seq_nx, seq_ret, seq_raise, seq_brk, seq_cnt, ofO_some, nxO_some, nxS_some, try_raise, try_ret, try_nx, asgT_nm, asgT_tp, setAll_nil, setAll_cons,
    tru_bl, tru_int, tru_non, tru_lst, tru_tup, add_int, sub_int, mul_int, fdiv_int, mod_int, neg_int, lt_int, le_int, gt_int, ge_int, eq_int, ne_int, eq_str, ne_str, is_bl, isnot_bl, abs_int, int_int, int_bl, bool_bl, max_int, min_int, gcd_int, len_lst, len_tup, tuple_lst, sub_lst, sub_tup, items_lst, items_tup, add_lst, add_tup, add_str, rev_lst, newLst_f, newLst_t, end_nx,
    List.map_cons, List.map_nil, List.length_cons, List.length_nil, List.replicate_succ, List.replicate_zero, List.cons_append, List.nil_append, List.append_nil, List.getElem?_cons_zero, List.getElem?_cons_succ, List.set_cons_zero, List.set_cons_succ, List.reverse_cons, List.reverse_nil, Option.map_some, Option.map_none,
    ev_ext, ev_fstr, ev_meth, meth_obj, fld_obj, prop_obj, own2_obj, own2_int, ownU_obj, ownC_int, bool_int, eq_bl, ne_bl, eqEnd_eq, eqEnd_ne, isC_obj, isC_non, isC_bl, isC_int, isC_str, isC_tup, isC_lst, isC_dct, ownB_str, strEnd_str, ownB_bool, blEnd_bl, ext_mk, mkEnd_1, mkEnd_2, mkEnd_3, mkEnd_4, mkEnd_5, Nat.reduceLT, ex_setA, setA_last, ofO_some,
    if_true, if_false, Bool.false_eq_true, Bool.not_true, Bool.not_false, decide_true, decide_false, Bool.and_true, Bool.true_and, Bool.false_and, Bool.and_false, Bool.or_true, Bool.true_or, Bool.or_false, Bool.false_or, Nat.zero_add, Nat.reduceAdd, reduceCtorEq, reduceIte]
  rw [end_ret rfl, closeSt_self]
theorem bool_at (T B : Int) (st : Store) : sm_Ratio_bool_ [rt T B] st = .ok (.bl (!(T == 0))) st := by
  rw [sm_Ratio_bool_, callD_eq xm 1 0 _ [rt T B] _ rfl, b_Ratio_bool_, rt]
  simp -implicitDefEqProofs only [exs_nil, exs_cons, ex_pass, ex_brk, ex_cnt, ex_doc, ex_expr, ex_ret, ex_retN, ex_asg, ex_par, ex_setI, ex_aug, ex_ite, ex_whl, ex_for, ex_raise, ex_try,
    ev_con, ev_glob, ev_var, ev_bin, ev_un, ev_cmp, ev_chain, ev_and, ev_or, ev_not, ev_ife, ev_tup, ev_lst, ev_sub, ev_slice, ev_rev, ev_dct0, ev_call, ev_blt, ev_isi, ev_mth, ev_comp, ev_fz, evs_nil, evs_cons, evi_val, evi_range, evo_no, evo_var, evo_con, evo_bin, evo_un, evoK_int, slice_lst, slice_tup, compG_nm, compG_tp, compO_some, compB, noR_ok, wipe_nil, wipe_cons, evt_eq,
    bnd_ok, bnd_raise, andS_ok, andS_raise, seq_nx, seq_ret, seq_raise, seq_brk, seq_cnt, ofO_some, nxO_some, nxS_some, try_raise, try_ret, try_nx, asgT_nm, asgT_tp, setAll_nil, setAll_cons,
    tru_bl, tru_int, tru_non, tru_lst, tru_tup, add_int, sub_int, mul_int, fdiv_int, mod_int, neg_int, lt_int, le_int, gt_int, ge_int, eq_int, ne_int, eq_str, ne_str, is_bl, isnot_bl, abs_int, int_int, int_bl, bool_bl, max_int, min_int, gcd_int, len_lst, len_tup, tuple_lst, sub_lst, sub_tup, items_lst, items_tup, add_lst, add_tup, add_str, rev_lst, newLst_f, newLst_t, end_nx,
    List.map_cons, List.map_nil, List.length_cons, List.length_nil, List.replicate_succ, List.replicate_zero, List.cons_append, List.nil_append, List.append_nil, List.getElem?_cons_zero, List.getElem?_cons_succ, List.set_cons_zero, List.set_cons_succ, List.reverse_cons, List.reverse_nil, Option.map_some, Option.map_none,
    ev_ext, ev_fstr, ev_meth, meth_obj, fld_obj, prop_obj, own2_obj, own2_int, ownU_obj, ownC_int, bool_int, eq_bl, ne_bl, eqEnd_eq, eqEnd_ne, isC_obj, isC_non, isC_bl, isC_int, isC_str, isC_tup, isC_lst, isC_dct, ownB_str, strEnd_str, ownB_bool, blEnd_bl, ext_mk, mkEnd_1, mkEnd_2, mkEnd_3, mkEnd_4, mkEnd_5, Nat.reduceLT, ex_setA, setA_last, ofO_some,
    if_true, if_false, Bool.false_eq_true, Bool.not_true, Bool.not_false, decide_true, decide_false, Bool.and_true, Bool.true_and, Bool.false_and, Bool.and_false, Bool.or_true, Bool.true_or, Bool.or_false, Bool.false_or, Nat.zero_add, Nat.reduceAdd, reduceCtorEq, reduceIte]
  rw [end_ret rfl, closeSt_self]
theorem shows_at {T B : Int} (h1 : T.natAbs < 2 ^ 8000) (h2 : B.natAbs < 2 ^ 8000) (st : Store) : sm__law_shows [rt T B, .tup [.int T, .int B]] st = .ok (.bl true) st := by
  have s1 := str_int_at (by decide) (by decide) h1
  have s2 := str_int_at (by decide) (by decide) h2
  have l1 := len_int (by decide) h1
  have l2 := len_int (by decide) h2
  have lb : ("/" : Str).length = 1 := by decide
  have z1 : szOk ((Str.ofString (toString T)).length + ("/" : Str).length) = true := szOk_le (m := 8002) (by rw [lb]; omega)
  have z2 : szOk ((Str.ofString (toString T) ++ ("/" : Str)).length + (Str.ofString (toString B)).length) = true := szOk_le (m := 16003) (by rw [len_app, lb]; omega)
  have z5 : szOk 5 = true := by decide
  have a1 := top_at T B st
  have a2 := bottom_at T B st
  have a3 := sign_at T B st
  have a4 := str_rt h1 h2 st
  have a5 := bool_at T B st
  generalize hs : (if decide (0 < T) = true then (1 : Int) else 0) - (if decide (T < 0) = true then (1 : Int) else 0) = s at a3
  have hs1 : s.natAbs < 2 ^ 8000 := by
    refine small_le (a := 2) ?_ (by decide)
    rw [← hs]; split <;> split <;> decide
  have r1 := Rp.int (by decide) (by decide) h1
  have r2 := Rp.int (by decide) (by decide) h2
  have r3 := Rp.int (by decide) (by decide) hs1
  have r4 := Rp.str (n := 16003) (txt_sgn T B) (txt_len h1 h2) (by decide)
  have r5 := Rp.bl (!(T == 0))
  have d0 : ∀ i : Int, depthD (.int i) ≤ 59 := fun i => by simp [depthD]
  have d1 : ∀ i : Bool, depthD (.bl i) ≤ 59 := fun i => by simp [depthD]
  have d2 : ∀ i : Str, depthD (.str i) ≤ 59 := fun i => by simp [depthD]
  obtain ⟨t, ht⟩ := (Rp.tup (.cons r1 (d0 _) (.cons r2 (d0 _) (.cons r3 (d0 _) (.cons r4 (d2 _) (.cons r5 (d1 _) .nil))))) (by simp)).at
  rw [sm__law_shows, callD_eq xm 2 3 _ [rt T B, .tup [.int T, .int B]] _ rfl, b__law_shows]
  have i0 : L2.atI [D.int T, D.int B] 0 = some (.int T) := rfl
  have i1 : L2.atI [D.int T, D.int B] 1 = some (.int B) := rfl
  unfold rt at *
  by_cases hb : B = 1
  · subst hb
    rw [txt, if_pos rfl] at a4 ht
    simp -implicitDefEqProofs only [exs_nil, exs_cons, ex_pass, ex_brk, ex_cnt, ex_doc, ex_expr, ex_ret, ex_retN, ex_asg, ex_par, ex_setI, ex_aug, ex_ite, ex_whl, ex_for, ex_raise, ex_try,
    ev_con, ev_glob, ev_var, ev_bin, ev_un, ev_cmp, ev_chain, ev_and, ev_or, ev_not, ev_ife, ev_tup, ev_lst, ev_sub, ev_slice, ev_rev, ev_dct0, ev_call, ev_blt, ev_isi, ev_mth, ev_comp, ev_fz, evs_nil, evs_cons, evi_val, evi_range, evo_no, evo_var, evo_con, evo_bin, evo_un, evoK_int, slice_lst, slice_tup, compG_nm, compG_tp, compO_some, compB, noR_ok, wipe_nil, wipe_cons, evt_eq,
    bnd_ok, bnd_raise, andS_ok, andS_raise, seq_nx, seq_ret, seq_raise, seq_brk, seq_cnt, ofO_some, nxO_some, nxS_some, try_raise, try_ret, try_nx, asgT_nm, asgT_tp, setAll_nil, setAll_cons,
    tru_bl, tru_int, tru_non, tru_lst, tru_tup, add_int, sub_int, mul_int, fdiv_int, mod_int, neg_int, lt_int, le_int, gt_int, ge_int, eq_int, ne_int, eq_str, ne_str, is_bl, isnot_bl, abs_int, int_int, int_bl, bool_bl, max_int, min_int, gcd_int, len_lst, len_tup, tuple_lst, sub_lst, sub_tup, items_lst, items_tup, add_lst, add_tup, add_str, rev_lst, newLst_f, newLst_t, end_nx,
    List.map_cons, List.map_nil, List.length_cons, List.length_nil, List.replicate_succ, List.replicate_zero, List.cons_append, List.nil_append, List.append_nil, List.getElem?_cons_zero, List.getElem?_cons_succ, List.set_cons_zero, List.set_cons_succ, List.reverse_cons, List.reverse_nil, Option.map_some, Option.map_none,
    ev_ext, ev_fstr, ev_meth, meth_obj, fld_obj, prop_obj, own2_obj, own2_int, ownU_obj, ownC_int, bool_int, eq_bl, ne_bl, eqEnd_eq, eqEnd_ne, isC_obj, isC_non, isC_bl, isC_int, isC_str, isC_tup, isC_lst, isC_dct, ownB_str, strEnd_str, ownB_bool, blEnd_bl, ext_mk, mkEnd_1, mkEnd_2, mkEnd_3, mkEnd_4, mkEnd_5, Nat.reduceLT, ex_setA, setA_last, ofO_some,
    if_true, if_false, Bool.false_eq_true, Bool.not_true, Bool.not_false, decide_true, decide_false, Bool.and_true, Bool.true_and, Bool.false_and, Bool.and_false, Bool.or_true, Bool.true_or, Bool.or_false, Bool.false_or, Nat.zero_add, Nat.reduceAdd, reduceCtorEq, reduceIte, i0, i1, beq_self_eq_true, s1, a1, a2, a3, a4, a5, hs, z5, ht]
    rw [end_ret rfl, closeSt_self]
  · have h0 : (B == 1) = false := by simp [hb]
    rw [txt, if_neg hb] at a4 ht
    simp -implicitDefEqProofs only [exs_nil, exs_cons, ex_pass, ex_brk, ex_cnt, ex_doc, ex_expr, ex_ret, ex_retN, ex_asg, ex_par, ex_setI, ex_aug, ex_ite, ex_whl, ex_for, ex_raise, ex_try,
    ev_con, ev_glob, ev_var, ev_bin, ev_un, ev_cmp, ev_chain, ev_and, ev_or, ev_not, ev_ife, ev_tup, ev_lst, ev_sub, ev_slice, ev_rev, ev_dct0, ev_call, ev_blt, ev_isi, ev_mth, ev_comp, ev_fz, evs_nil, evs_cons, evi_val, evi_range, evo_no, evo_var, evo_con, evo_bin, evo_un, evoK_int, slice_lst, slice_tup, compG_nm, compG_tp, compO_some, compB, noR_ok, wipe_nil, wipe_cons, evt_eq,
    bnd_ok, bnd_raise, andS_ok, andS_raise, seq_nx, seq_ret, seq_raise, seq_brk, seq_cnt, ofO_some, nxO_some, nxS_some, try_raise, try_ret, try_nx, asgT_nm, asgT_tp, setAll_nil, setAll_cons,
    tru_bl, tru_int, tru_non, tru_lst, tru_tup, add_int, sub_int, mul_int, fdiv_int, mod_int, neg_int, lt_int, le_int, gt_int, ge_int, eq_int, ne_int, eq_str, ne_str, is_bl, isnot_bl, abs_int, int_int, int_bl, bool_bl, max_int, min_int, gcd_int, len_lst, len_tup, tuple_lst, sub_lst, sub_tup, items_lst, items_tup, add_lst, add_tup, add_str, rev_lst, newLst_f, newLst_t, end_nx,
    List.map_cons, List.map_nil, List.length_cons, List.length_nil, List.replicate_succ, List.replicate_zero, List.cons_append, List.nil_append, List.append_nil, List.getElem?_cons_zero, List.getElem?_cons_succ, List.set_cons_zero, List.set_cons_succ, List.reverse_cons, List.reverse_nil, Option.map_some, Option.map_none,
    ev_ext, ev_fstr, ev_meth, meth_obj, fld_obj, prop_obj, own2_obj, own2_int, ownU_obj, ownC_int, bool_int, eq_bl, ne_bl, eqEnd_eq, eqEnd_ne, isC_obj, isC_non, isC_bl, isC_int, isC_str, isC_tup, isC_lst, isC_dct, ownB_str, strEnd_str, ownB_bool, blEnd_bl, ext_mk, mkEnd_1, mkEnd_2, mkEnd_3, mkEnd_4, mkEnd_5, Nat.reduceLT, ex_setA, setA_last, ofO_some,
    if_true, if_false, Bool.false_eq_true, Bool.not_true, Bool.not_false, decide_true, decide_false, Bool.and_true, Bool.true_and, Bool.false_and, Bool.and_false, Bool.or_true, Bool.true_or, Bool.or_false, Bool.false_or, Nat.zero_add, Nat.reduceAdd, reduceCtorEq, reduceIte, i0, i1, beq_self_eq_true, h0, s1, s2, z1, z2, a1, a2, a3, a4, a5, hs, z5, ht]
    rw [end_ret rfl, closeSt_self]
/-! ### what is refused -/
theorem zero_error {T B b : Int} {x : D} (h : Opd x 0 b) (st : Store) : sm__law_error [.int 3, rt T B, x] st = .ok (.str "operation") st := by
  have e := over_zero (T := T) (B := B) h st
  have hh : ∀ σ st, handle xm ⟨0, []⟩ σ st [⟨1, some 3, .add (.con (.str "number ")) (.rep .fld)⟩, ⟨0, none, .con (.str "operation")⟩] = .ret (.str "operation") st := by
    intro σ st
    simp [handle, xm, evh]
  rw [sm__law_error, callD_eq xm 3 1 _ [.int 3, rt T B, x] _ rfl, b__law_error]
  unfold rt at *
  simp -implicitDefEqProofs only [exs_nil, exs_cons, ex_pass, ex_brk, ex_cnt, ex_doc, ex_expr, ex_ret, ex_retN, ex_asg, ex_par, ex_setI, ex_aug, ex_ite, ex_whl, ex_for, ex_raise, ex_try,
    ev_con, ev_glob, ev_var, ev_bin, ev_un, ev_cmp, ev_chain, ev_and, ev_or, ev_not, ev_ife, ev_tup, ev_lst, ev_sub, ev_slice, ev_rev, ev_dct0, ev_call, ev_blt, ev_isi, ev_mth, ev_comp, ev_fz, evs_nil, evs_cons, evi_val, evi_range, evo_no, evo_var, evo_con, evo_bin, evo_un, evoK_int, slice_lst, slice_tup, compG_nm, compG_tp, compO_some, compB, noR_ok, wipe_nil, wipe_cons, evt_eq,
    bnd_ok, bnd_raise, andS_ok, andS_raise, seq_nx, seq_ret, seq_raise, seq_brk, seq_cnt, ofO_some, nxO_some, nxS_some, try_raise, try_ret, try_nx, asgT_nm, asgT_tp, setAll_nil, setAll_cons,
    tru_bl, tru_int, tru_non, tru_lst, tru_tup, add_int, sub_int, mul_int, fdiv_int, mod_int, neg_int, lt_int, le_int, gt_int, ge_int, eq_int, ne_int, eq_str, ne_str, is_bl, isnot_bl, abs_int, int_int, int_bl, bool_bl, max_int, min_int, gcd_int, len_lst, len_tup, tuple_lst, sub_lst, sub_tup, items_lst, items_tup, add_lst, add_tup, add_str, rev_lst, newLst_f, newLst_t, end_nx,
    List.map_cons, List.map_nil, List.length_cons, List.length_nil, List.replicate_succ, List.replicate_zero, List.cons_append, List.nil_append, List.append_nil, List.getElem?_cons_zero, List.getElem?_cons_succ, List.set_cons_zero, List.set_cons_succ, List.reverse_cons, List.reverse_nil, Option.map_some, Option.map_none,
    ev_ext, ev_fstr, ev_meth, meth_obj, fld_obj, prop_obj, own2_obj, own2_int, ownU_obj, ownC_int, bool_int, eq_bl, ne_bl, eqEnd_eq, eqEnd_ne, isC_obj, isC_non, isC_bl, isC_int, isC_str, isC_tup, isC_lst, isC_dct, ownB_str, strEnd_str, ownB_bool, blEnd_bl, ext_mk, mkEnd_1, mkEnd_2, mkEnd_3, mkEnd_4, mkEnd_5, Nat.reduceLT, ex_setA, setA_last, ofO_some,
    if_true, if_false, Bool.false_eq_true, Bool.not_true, Bool.not_false, decide_true, decide_false, Bool.and_true, Bool.true_and, Bool.false_and, Bool.and_false, Bool.or_true, Bool.true_or, Bool.or_false, Bool.false_or, Nat.zero_add, Nat.reduceAdd, reduceCtorEq, reduceIte, beq_self_eq_true, e, hh]
  rw [end_ret rfl, closeSt_self]
structure Wrong (x : D) : Prop extends Shown x where
  whole : isWhole x = false
  cd : isCD 1 x = some false
  rep : ∃ t : Str, ∀ st, bltD .repr st [x] = some (.str t)
def wtxt (t : Str) : Str := "number " ++ t
theorem wrong_error {T B w : Int} {x : D} (hw : w = 3 ∨ w = 4) (h : Wrong x) {t : Str} (ht : ∀ st, bltD .repr st [x] = some (.str t)) (hl : szOk (("number " : Str).length + t.length) = true) (st : Store) : sm__law_error [.int w, rt T B, x] st = .ok (.str ("number " ++ t)) st := by
  have e := over_bad (T := T) (B := B) h.toShown h.whole h.cd st
  have e2 := compared_bad (T := T) (B := B) h.toShown h.whole h.cd st
  have hh : ∀ (a b c : Option D) st, handle xm ⟨1, [x]⟩ [a, b, c, none] st [⟨1, some 3, .add (.con (.str "number ")) (.rep .fld)⟩, ⟨0, none, .con (.str "operation")⟩] = .ret (.str ("number " ++ t)) st := by
    intro a b c st
    have hb : binD .add [] (.str ("number " : Str)) (.str t) = some (.str ("number " ++ t)) := by rw [add_str, if_pos hl]
    simp [handle, xm, evh, ht [], hb]
  rw [sm__law_error, callD_eq xm 3 1 _ [.int w, rt T B, x] _ rfl, b__law_error]
  unfold rt at *
  rcases hw with rfl | rfl
  · simp -implicitDefEqProofs only [exs_nil, exs_cons, ex_pass, ex_brk, ex_cnt, ex_doc, ex_expr, ex_ret, ex_retN, ex_asg, ex_par, ex_setI, ex_aug, ex_ite, ex_whl, ex_for, ex_raise, ex_try,
    ev_con, ev_glob, ev_var, ev_bin, ev_un, ev_cmp, ev_chain, ev_and, ev_or, ev_not, ev_ife, ev_tup, ev_lst, ev_sub, ev_slice, ev_rev, ev_dct0, ev_call, ev_blt, ev_isi, ev_mth, ev_comp, ev_fz, evs_nil, evs_cons, evi_val, evi_range, evo_no, evo_var, evo_con, evo_bin, evo_un, evoK_int, slice_lst, slice_tup, compG_nm, compG_tp, compO_some, compB, noR_ok, wipe_nil, wipe_cons, evt_eq,
    bnd_ok, bnd_raise, andS_ok, andS_raise, seq_nx, seq_ret, seq_raise, seq_brk, seq_cnt, ofO_some, nxO_some, nxS_some, try_raise, try_ret, try_nx, asgT_nm, asgT_tp, setAll_nil, setAll_cons,
    tru_bl, tru_int, tru_non, tru_lst, tru_tup, add_int, sub_int, mul_int, fdiv_int, mod_int, neg_int, lt_int, le_int, gt_int, ge_int, eq_int, ne_int, eq_str, ne_str, is_bl, isnot_bl, abs_int, int_int, int_bl, bool_bl, max_int, min_int, gcd_int, len_lst, len_tup, tuple_lst, sub_lst, sub_tup, items_lst, items_tup, add_lst, add_tup, add_str, rev_lst, newLst_f, newLst_t, end_nx,
    List.map_cons, List.map_nil, List.length_cons, List.length_nil, List.replicate_succ, List.replicate_zero, List.cons_append, List.nil_append, List.append_nil, List.getElem?_cons_zero, List.getElem?_cons_succ, List.set_cons_zero, List.set_cons_succ, List.reverse_cons, List.reverse_nil, Option.map_some, Option.map_none,
    ev_ext, ev_fstr, ev_meth, meth_obj, fld_obj, prop_obj, own2_obj, own2_int, ownU_obj, ownC_int, bool_int, eq_bl, ne_bl, eqEnd_eq, eqEnd_ne, isC_obj, isC_non, isC_bl, isC_int, isC_str, isC_tup, isC_lst, isC_dct, ownB_str, strEnd_str, ownB_bool, blEnd_bl, ext_mk, mkEnd_1, mkEnd_2, mkEnd_3, mkEnd_4, mkEnd_5, Nat.reduceLT, ex_setA, setA_last, ofO_some,
    if_true, if_false, Bool.false_eq_true, Bool.not_true, Bool.not_false, decide_true, decide_false, Bool.and_true, Bool.true_and, Bool.false_and, Bool.and_false, Bool.or_true, Bool.true_or, Bool.or_false, Bool.false_or, Nat.zero_add, Nat.reduceAdd, reduceCtorEq, reduceIte, beq_self_eq_true, e, hh]
    rw [end_ret rfl, closeSt_self]
  · have h0 : ((4 : Int) == 3) = false := by decide
    simp -implicitDefEqProofs only [exs_nil, exs_cons, ex_pass, ex_brk, ex_cnt, ex_doc, ex_expr, ex_ret, ex_retN, ex_asg, ex_par, ex_setI, ex_aug, ex_ite, ex_whl, ex_for, ex_raise, ex_try,
    ev_con, ev_glob, ev_var, ev_bin, ev_un, ev_cmp, ev_chain, ev_and, ev_or, ev_not, ev_ife, ev_tup, ev_lst, ev_sub, ev_slice, ev_rev, ev_dct0, ev_call, ev_blt, ev_isi, ev_mth, ev_comp, ev_fz, evs_nil, evs_cons, evi_val, evi_range, evo_no, evo_var, evo_con, evo_bin, evo_un, evoK_int, slice_lst, slice_tup, compG_nm, compG_tp, compO_some, compB, noR_ok, wipe_nil, wipe_cons, evt_eq,
    bnd_ok, bnd_raise, andS_ok, andS_raise, seq_nx, seq_ret, seq_raise, seq_brk, seq_cnt, ofO_some, nxO_some, nxS_some, try_raise, try_ret, try_nx, asgT_nm, asgT_tp, setAll_nil, setAll_cons,
    tru_bl, tru_int, tru_non, tru_lst, tru_tup, add_int, sub_int, mul_int, fdiv_int, mod_int, neg_int, lt_int, le_int, gt_int, ge_int, eq_int, ne_int, eq_str, ne_str, is_bl, isnot_bl, abs_int, int_int, int_bl, bool_bl, max_int, min_int, gcd_int, len_lst, len_tup, tuple_lst, sub_lst, sub_tup, items_lst, items_tup, add_lst, add_tup, add_str, rev_lst, newLst_f, newLst_t, end_nx,
    List.map_cons, List.map_nil, List.length_cons, List.length_nil, List.replicate_succ, List.replicate_zero, List.cons_append, List.nil_append, List.append_nil, List.getElem?_cons_zero, List.getElem?_cons_succ, List.set_cons_zero, List.set_cons_succ, List.reverse_cons, List.reverse_nil, Option.map_some, Option.map_none,
    ev_ext, ev_fstr, ev_meth, meth_obj, fld_obj, prop_obj, own2_obj, own2_int, ownU_obj, ownC_int, bool_int, eq_bl, ne_bl, eqEnd_eq, eqEnd_ne, isC_obj, isC_non, isC_bl, isC_int, isC_str, isC_tup, isC_lst, isC_dct, ownB_str, strEnd_str, ownB_bool, blEnd_bl, ext_mk, mkEnd_1, mkEnd_2, mkEnd_3, mkEnd_4, mkEnd_5, Nat.reduceLT, ex_setA, setA_last, ofO_some,
    if_true, if_false, Bool.false_eq_true, Bool.not_true, Bool.not_false, decide_true, decide_false, Bool.and_true, Bool.true_and, Bool.false_and, Bool.and_false, Bool.or_true, Bool.true_or, Bool.or_false, Bool.false_or, Nat.zero_add, Nat.reduceAdd, reduceCtorEq, reduceIte, h0, e2, hh]
    rw [end_ret rfl, closeSt_self]
theorem made_bad {x y z : D} (hx : isCD 0 x = some false) (hz : noRef z = true) (ht : ∀ st, sm_lowest_told [x, y] st = .raise ⟨1, [z]⟩ st) (st : Store) : sm__law_made_error [x, y] st = .ok (.lst [z]) st := by
  have e := mk_bad hx (by simp [noRefs, hz]) ht
  have hh : ∀ (a b : Option D) st, handle xm ⟨1, [z]⟩ [a, b, none] st [⟨1, some 2, .lst (.cons .fld .nil)⟩] = .ret (.lst [z]) st := by
    intro a b st
    have : szOk 1 = true := by decide
    simp [handle, xm, evh, evhs, this]
  rw [sm__law_made_error, callD_eq xm 2 1 _ [x, y] _ rfl, b__law_made_error]
  simp -implicitDefEqProofs only [exs_nil, exs_cons, ex_pass, ex_brk, ex_cnt, ex_doc, ex_expr, ex_ret, ex_retN, ex_asg, ex_par, ex_setI, ex_aug, ex_ite, ex_whl, ex_for, ex_raise, ex_try,
    ev_con, ev_glob, ev_var, ev_bin, ev_un, ev_cmp, ev_chain, ev_and, ev_or, ev_not, ev_ife, ev_tup, ev_lst, ev_sub, ev_slice, ev_rev, ev_dct0, ev_call, ev_blt, ev_isi, ev_mth, ev_comp, ev_fz, evs_nil, evs_cons, evi_val, evi_range, evo_no, evo_var, evo_con, evo_bin, evo_un, evoK_int, slice_lst, slice_tup, compG_nm, compG_tp, compO_some, compB, noR_ok, wipe_nil, wipe_cons, evt_eq,
    bnd_ok, bnd_raise, andS_ok, andS_raise, seq_nx, seq_ret, seq_raise, seq_brk, seq_cnt, ofO_some, nxO_some, nxS_some, try_raise, try_ret, try_nx, asgT_nm, asgT_tp, setAll_nil, setAll_cons,
    tru_bl, tru_int, tru_non, tru_lst, tru_tup, add_int, sub_int, mul_int, fdiv_int, mod_int, neg_int, lt_int, le_int, gt_int, ge_int, eq_int, ne_int, eq_str, ne_str, is_bl, isnot_bl, abs_int, int_int, int_bl, bool_bl, max_int, min_int, gcd_int, len_lst, len_tup, tuple_lst, sub_lst, sub_tup, items_lst, items_tup, add_lst, add_tup, add_str, rev_lst, newLst_f, newLst_t, end_nx,
    List.map_cons, List.map_nil, List.length_cons, List.length_nil, List.replicate_succ, List.replicate_zero, List.cons_append, List.nil_append, List.append_nil, List.getElem?_cons_zero, List.getElem?_cons_succ, List.set_cons_zero, List.set_cons_succ, List.reverse_cons, List.reverse_nil, Option.map_some, Option.map_none,
    ev_ext, ev_fstr, ev_meth, meth_obj, fld_obj, prop_obj, own2_obj, own2_int, ownU_obj, ownC_int, bool_int, eq_bl, ne_bl, eqEnd_eq, eqEnd_ne, isC_obj, isC_non, isC_bl, isC_int, isC_str, isC_tup, isC_lst, isC_dct, ownB_str, strEnd_str, ownB_bool, blEnd_bl, ext_mk, mkEnd_1, mkEnd_2, mkEnd_3, mkEnd_4, mkEnd_5, Nat.reduceLT, ex_setA, setA_last, ofO_some,
    if_true, if_false, Bool.false_eq_true, Bool.not_true, Bool.not_false, decide_true, decide_false, Bool.and_true, Bool.true_and, Bool.false_and, Bool.and_false, Bool.or_true, Bool.true_or, Bool.or_false, Bool.false_or, Nat.zero_add, Nat.reduceAdd, reduceCtorEq, reduceIte, -ext_mk, e, hh]
  rw [end_ret (by simp [noRef, noRefs, hz]), close_app]
end L02
set_option Elab.async false
set_option linter.all false
set_option maxRecDepth 100000
set_option maxHeartbeats 4000000
set_option exponentiation.threshold 20000
namespace L02
open Ip
open PySem (Str)
/-! ### one turn of a row -/
theorem nb_mul {p q : Int} {a b : Nat} (h : p.natAbs < 2 ^ a) (k : q.natAbs < 2 ^ b) : (p * q).natAbs < 2 ^ (a + b) := by
  rw [Int.natAbs_mul, Nat.pow_add]
  exact Nat.mul_lt_mul'' h k
theorem nb_add {p q : Int} {a : Nat} (h : p.natAbs < 2 ^ a) (k : q.natAbs < 2 ^ a) : (p + q).natAbs < 2 ^ (a + 1) := by
  have := Int.natAbs_add_le p q
  rw [Nat.pow_succ]; omega
theorem nb_sub {p q : Int} {a : Nat} (h : p.natAbs < 2 ^ a) (k : q.natAbs < 2 ^ a) : (p - q).natAbs < 2 ^ (a + 1) := by
  have := Int.natAbs_sub_le p q
  rw [Nat.pow_succ]; omega
/-- an operand x and the law's pair of it -/
structure More (x : D) (P Q t b : Int) : Prop where
  opd : Opd x t b
  low : Low t b
  rel : ∃ s : Int, s ≠ 0 ∧ P = s * t ∧ Q = s * b
  hP : P.natAbs < 2 ^ 300
  hQ : Q.natAbs < 2 ^ 300
  eq : ∃ k, isCD 1 x = some k ∧ ∀ T B st, sm_Ratio_eq_ [rt T B, x] st = .ok (.bl (k && ((T == t) && (B == b)))) st
theorem More.le {x : D} {P Q t b : Int} (h : More x P Q t b) : t.natAbs < 2 ^ 300 ∧ b.natAbs < 2 ^ 300 := by
  obtain ⟨s, h0, e1, e2⟩ := h.rel
  have h1 := h.hP
  have h2 := h.hQ
  rw [e1, Int.natAbs_mul] at h1
  rw [e2, Int.natAbs_mul] at h2
  have : 1 ≤ s.natAbs := by omega
  exact ⟨Nat.lt_of_le_of_lt (Nat.le_mul_of_pos_left _ (by omega)) h1, Nat.lt_of_le_of_lt (Nat.le_mul_of_pos_left _ (by omega)) h2⟩
theorem More.int {a : Int} (h : a.natAbs < 2 ^ 300) : More (.int a) a 1 a 1 where
  opd := .int a
  low := ⟨by decide, by simp⟩
  rel := ⟨1, by decide, by omega, by decide⟩
  hP := h
  hQ := by decide
  eq := ⟨false, rfl, fun T B st => by rw [eq_other rfl]; rfl⟩
theorem More.rt {a b : Int} (hb : b ≠ 0) (h : a.natAbs < 2 ^ 300) (h2 : b.natAbs < 2 ^ 300) : More (rt (lwT a b) (lwB a b)) a b (lwT a b) (lwB a b) where
  opd := .rt _ _
  low := lw_low hb
  rel := ⟨lwS a b, lwS_ne hb, (lw_mul hb).1, (lw_mul hb).2⟩
  hP := h
  hQ := h2
  eq := ⟨true, rfl, fun T B st => by rw [eq_rt]; rfl⟩
theorem int_rep {s : Int} (h : s.natAbs < 2 ^ 2) : ∃ t : Str, ∀ st, bltD .repr st [.int s] = some (.str t) := (Rp.int (k := 2) (by decide) (by decide) h).at
theorem sgn_small (p q : Bool) : ((if p = true then (1 : Int) else 0) - (if q = true then (1 : Int) else 0)).natAbs < 2 ^ 2 := by
  split <;> split <;> decide
theorem cmp_right {T B P Q t b : Int} {x : D} (hl : Low T B) (h1 : T.natAbs < 2 ^ 3000) (h2 : B.natAbs < 2 ^ 3000) (m : More x P Q t b) (hQ0 : 0 < Q) (st : Store) :
    sm__law_compared_right [rt T B, .tup [.int T, .int B], x, .tup [.int P, .int Q]] st = .ok (.bl true) st := by
  obtain ⟨k, hk, he⟩ := m.eq
  obtain ⟨s, s0, rfl, rfl⟩ := m.rel
  obtain ⟨ht, hb⟩ := m.le
  have bp := m.low.pos
  have sp : 0 < s := by
    rcases Int.lt_trichotomy s 0 with h | h | h
    · have := Int.mul_neg_of_neg_of_pos h bp
      omega
    · exact absurd h s0
    · exact h
  have hc := compared_at m.opd (small_le h1 (by decide)) (small_le h2 (by decide)) (small_le ht (by decide)) (small_le hb (by decide)) st
  have ec : T * (s * b) - s * t * B = s * (T * b - t * B) := by grind
  have p1 : decide (0 < T * (s * b) - s * t * B) = decide (0 < T * b - t * B) := by
    rw [ec]
    refine decide_eq_decide.mpr ⟨fun h => ?_, fun h => Int.mul_pos sp h⟩
    rcases Int.lt_trichotomy (T * b - t * B) 0 with h' | h' | h'
    · have := Int.mul_neg_of_pos_of_neg sp h'; omega
    · rw [h'] at h; simp at h
    · exact h'
  have p2 : decide (T * (s * b) - s * t * B < 0) = decide (T * b - t * B < 0) := by
    rw [ec]
    refine decide_eq_decide.mpr ⟨fun h => ?_, fun h => Int.mul_neg_of_pos_of_neg sp h⟩
    rcases Int.lt_trichotomy (T * b - t * B) 0 with h' | h' | h'
    · exact h'
    · rw [h'] at h; simp at h
    · have := Int.mul_pos sp h'; omega
  have p3 : (T * (s * b) - s * t * B == 0) = ((T == t) && (B == b)) := by
    rw [ec]
    by_cases hz : T * b - t * B = 0
    · obtain ⟨rfl, rfl⟩ := low_unique hl m.low (by omega)
      rw [hz]; simp
    · have h3 : s * (T * b - t * B) ≠ 0 := Int.mul_ne_zero s0 hz
      have h4 : ¬ (T = t ∧ B = b) := by
        rintro ⟨rfl, rfl⟩
        exact hz (by omega)
      rw [beq_eq_false_iff_ne.mpr h3]
      by_cases h5 : T = t
      · have : ¬ B = b := fun h6 => h4 ⟨h5, h6⟩
        simp [this]
      · simp [h5]
  obtain ⟨tx, hrep⟩ := int_rep (sgn_small (decide (0 < T * b - t * B)) (decide (T * b - t * B < 0)))
  have m1 : mulOk T (s * b) = true := mul_b (small_le h1 (by decide)) (small_le m.hQ (by decide))
  have m2 : mulOk (s * t) B = true := mul_b (small_le m.hP (by decide)) (small_le h2 (by decide))
  have i0 : ∀ a b : D, L2.atI [a, b] 0 = some a := fun _ _ => rfl
  have i1 : ∀ a b : D, L2.atI [a, b] 1 = some b := fun _ _ => rfl
  have hs := str_rt (T := T) (B := B) (small_le h1 (by decide)) (small_le h2 (by decide)) st
  have o1 := fun o a fs => ownC_obj st o 1 a fs (y := x) (by rw [hk]; rfl)
  have o2 := fun o a fs z => ownC_obj st o 1 a fs (y := .str z) rfl
  have o3 := fun o a fs z => ownC_obj st o 1 a fs (y := .tup z) rfl
  have o4 := fun o a fs z => ownC_obj st o 1 a fs (y := .int z) rfl
  have o5 := fun o a fs => ownC_obj st o 1 a fs (y := .non) rfl
  have n2 := fun z => eq_other (T := T) (B := B) (x := .str z) rfl st
  have n3 := fun z => eq_other (T := T) (B := B) (x := .tup z) rfl st
  have n4 := fun z => eq_other (T := T) (B := B) (x := .int z) rfl st
  have n5 := eq_other (T := T) (B := B) (x := .non) rfl st
  have he' := he T B st
  have hi : extD (.isC 1) [x] st = .ok (.bl k) st := by
    show ofO ((isCD 1 x).map D.bl) _ = _
    rw [hk]; rfl
  have tt : (tx == tx) = true := beq_self_eq_true _
  rw [sm__law_compared_right, callD_eq xm 4 1 _ [rt T B, .tup [.int T, .int B], x, .tup [.int (s * t), .int (s * b)]] _ rfl, b__law_compared_right]
  unfold rt at *
  generalize hZ : ((T == t) && (B == b)) = Z at *
  cases k <;> cases Z <;> simp only [Bool.and_true, Bool.and_false, Bool.true_and, Bool.false_and] at he' p3
  all_goals
    simp -implicitDefEqProofs only [exs_nil, exs_cons, ex_pass, ex_brk, ex_cnt, ex_doc, ex_expr, ex_ret, ex_retN, ex_asg, ex_par, ex_setI, ex_aug, ex_ite, ex_whl, ex_for, ex_raise, ex_try,
    ev_con, ev_glob, ev_var, ev_bin, ev_un, ev_cmp, ev_chain, ev_and, ev_or, ev_not, ev_ife, ev_tup, ev_lst, ev_sub, ev_slice, ev_rev, ev_dct0, ev_call, ev_blt, ev_isi, ev_mth, ev_comp, ev_fz, evs_nil, evs_cons, evi_val, evi_range, evo_no, evo_var, evo_con, evo_bin, evo_un, evoK_int, slice_lst, slice_tup, compG_nm, compG_tp, compO_some, compB, noR_ok, wipe_nil, wipe_cons, evt_eq,
    bnd_ok, bnd_raise, andS_ok, andS_raise, seq_nx, seq_ret, seq_raise, seq_brk, seq_cnt, ofO_some, nxO_some, nxS_some, try_raise, try_ret, try_nx, asgT_nm, asgT_tp, setAll_nil, setAll_cons,
    tru_bl, tru_int, tru_non, tru_lst, tru_tup, add_int, sub_int, mul_int, fdiv_int, mod_int, neg_int, lt_int, le_int, gt_int, ge_int, eq_int, ne_int, eq_str, ne_str, is_bl, isnot_bl, abs_int, int_int, int_bl, bool_bl, max_int, min_int, gcd_int, len_lst, len_tup, tuple_lst, sub_lst, sub_tup, items_lst, items_tup, add_lst, add_tup, add_str, rev_lst, newLst_f, newLst_t, end_nx,
    List.map_cons, List.map_nil, List.length_cons, List.length_nil, List.replicate_succ, List.replicate_zero, List.cons_append, List.nil_append, List.append_nil, List.getElem?_cons_zero, List.getElem?_cons_succ, List.set_cons_zero, List.set_cons_succ, List.reverse_cons, List.reverse_nil, Option.map_some, Option.map_none,
    ev_ext, ev_fstr, ev_meth, meth_obj, fld_obj, prop_obj, own2_obj, own2_int, ownU_obj, ownC_int, bool_int, eq_bl, ne_bl, eqEnd_eq, eqEnd_ne, isC_obj, isC_non, isC_bl, isC_int, isC_str, isC_tup, isC_lst, isC_dct, ownB_str, strEnd_str, ownB_bool, blEnd_bl, ext_mk, mkEnd_1, mkEnd_2, mkEnd_3, mkEnd_4, mkEnd_5, Nat.reduceLT, ex_setA, setA_last, ofO_some,
    if_true, if_false, Bool.false_eq_true, Bool.not_true, Bool.not_false, decide_true, decide_false, Bool.and_true, Bool.true_and, Bool.false_and, Bool.and_false, Bool.or_true, Bool.true_or, Bool.or_false, Bool.false_or, Nat.zero_add, Nat.reduceAdd, reduceCtorEq, reduceIte, i0, i1, m1, m2, hc, p1, p2, p3, hrep, tt, o1, he', hi, hs, o2, n2, o3, n3, o4, n4, o5, n5, beq_self_eq_true, show (true == false) = false from rfl, show (false == true) = false from rfl]
    rw [end_ret rfl, closeSt_self]
/-- a deed: the package's ratio and the law's pair -/
theorem deed_at {T B P Q t b w : Int} {x : D} (hl : Low T B) {N : Nat} (hN : N ≤ 3000) (h1 : T.natAbs < 2 ^ N) (h2 : B.natAbs < 2 ^ N) (m : More x P Q t b) (hw : 0 ≤ w ∧ w ≤ 3) (hz : w = 3 → P ≠ 0) (st : Store) :
    ∃ T' B', Low T' B' ∧ T'.natAbs < 2 ^ (N + 310) ∧ B'.natAbs < 2 ^ (N + 310) ∧ sm__law_done [.int w, rt T B, x] st = .ok (rt T' B') st ∧ sm__law_made [.int w, .tup [.int T, .int B], .tup [.int P, .int Q]] st = .ok (.tup [.int T', .int B']) st := by
  obtain ⟨ht, hb⟩ := m.le
  have hP := m.hP
  have hQ := m.hQ
  obtain ⟨s, s0, rfl, rfl⟩ := m.rel
  have B0 : B ≠ 0 := by have := hl.pos; omega
  have b0 : b ≠ 0 := by have := m.low.pos; omega
  have sb0 : s * b ≠ 0 := Int.mul_ne_zero s0 b0
  have H1 := small_le h1 (show N ≤ 3500 by omega)
  have H2 := small_le h2 (show N ≤ 3500 by omega)
  have H3 := small_le ht (show 300 ≤ 3500 by decide)
  have H4 := small_le hb (show 300 ≤ 3500 by decide)
  have M : ∀ {p q : Int}, p.natAbs < 2 ^ N → q.natAbs < 2 ^ 300 → mulOk p q = true := fun k1 k2 => mul_b (small_le k1 (by omega)) (small_le k2 (by decide))
  have M' : ∀ {p q : Int}, p.natAbs < 2 ^ 300 → q.natAbs < 2 ^ N → mulOk p q = true := fun k1 k2 => mul_b (small_le k1 (by decide)) (small_le k2 (by omega))
  have i0 : ∀ a b : D, L2.atI [a, b] 0 = some a := fun _ _ => rfl
  have i1 : ∀ a b : D, L2.atI [a, b] 1 = some b := fun _ _ => rfl
  have lowAt : ∀ {a c : Int}, c ≠ 0 → c.natAbs < 2 ^ (N + 300) → sm__law_low [.int a, .int c] st = .ok (.tup [.int (lwT a c), .int (lwB a c)]) st := fun k1 k2 => low_at k1 (small_le k2 (by omega)) st
  have fin : ∀ {a c : Int}, c ≠ 0 → a.natAbs < 2 ^ (N + 301) → c.natAbs < 2 ^ (N + 300) → (lwT a c).natAbs < 2 ^ (N + 310) ∧ (lwB a c).natAbs < 2 ^ (N + 310) := fun k0 k1 k2 =>
    ⟨Nat.lt_of_le_of_lt (lw_le k0).1 (small_le k1 (by omega)), Nat.lt_of_le_of_lt (lw_le k0).2 (small_le k2 (by omega))⟩
  have n10 : ((1 : Int) == 0) = false := by decide
  have n20 : ((2 : Int) == 0) = false := by decide
  have n21 : ((2 : Int) == 1) = false := by decide
  have n30 : ((3 : Int) == 0) = false := by decide
  have n31 : ((3 : Int) == 1) = false := by decide
  have n32 : ((3 : Int) == 2) = false := by decide
  have sB : (B * (s * b)).natAbs < 2 ^ (N + 300) := nb_mul h2 hQ
  have sb : (B * b).natAbs < 2 ^ (N + 300) := nb_mul h2 hb
  have hBb : B * b ≠ 0 := Int.mul_ne_zero B0 b0
  have hBQ : B * (s * b) ≠ 0 := Int.mul_ne_zero B0 sb0
  rcases (show w = 0 ∨ w = 1 ∨ w = 2 ∨ w = 3 by omega) with rfl | rfl | rfl | rfl
  · have e1 := add_at m.opd H1 H2 H3 H4 B0 b0 st
    have e2 := lowAt (a := T * (s * b) + s * t * B) hBQ sB
    obtain ⟨q1, q2⟩ := lw_same hBQ hBb (show (T * (s * b) + s * t * B) * (B * b) = (T * b + t * B) * (B * (s * b)) by grind)
    rw [q1, q2] at e2
    obtain ⟨g1, g2⟩ := fin (a := T * b + t * B) hBb (nb_add (nb_mul h1 hb) (by rw [Int.mul_comm]; exact nb_mul h2 ht)) sb
    refine ⟨_, _, lw_low hBb, g1, g2, ?_, ?_⟩
    · have ow := fun a => m.opd.own2 .add a T B st
      rw [sm__law_done, callD_eq xm 3 0 _ [.int 0, rt T B, x] _ rfl, b__law_done]
      simp -implicitDefEqProofs only [exs_nil, exs_cons, ex_pass, ex_brk, ex_cnt, ex_doc, ex_expr, ex_ret, ex_retN, ex_asg, ex_par, ex_setI, ex_aug, ex_ite, ex_whl, ex_for, ex_raise, ex_try,
    ev_con, ev_glob, ev_var, ev_bin, ev_un, ev_cmp, ev_chain, ev_and, ev_or, ev_not, ev_ife, ev_tup, ev_lst, ev_sub, ev_slice, ev_rev, ev_dct0, ev_call, ev_blt, ev_isi, ev_mth, ev_comp, ev_fz, evs_nil, evs_cons, evi_val, evi_range, evo_no, evo_var, evo_con, evo_bin, evo_un, evoK_int, slice_lst, slice_tup, compG_nm, compG_tp, compO_some, compB, noR_ok, wipe_nil, wipe_cons, evt_eq,
    bnd_ok, bnd_raise, andS_ok, andS_raise, seq_nx, seq_ret, seq_raise, seq_brk, seq_cnt, ofO_some, nxO_some, nxS_some, try_raise, try_ret, try_nx, asgT_nm, asgT_tp, setAll_nil, setAll_cons,
    tru_bl, tru_int, tru_non, tru_lst, tru_tup, add_int, sub_int, mul_int, fdiv_int, mod_int, neg_int, lt_int, le_int, gt_int, ge_int, eq_int, ne_int, eq_str, ne_str, is_bl, isnot_bl, abs_int, int_int, int_bl, bool_bl, max_int, min_int, gcd_int, len_lst, len_tup, tuple_lst, sub_lst, sub_tup, items_lst, items_tup, add_lst, add_tup, add_str, rev_lst, newLst_f, newLst_t, end_nx,
    List.map_cons, List.map_nil, List.length_cons, List.length_nil, List.replicate_succ, List.replicate_zero, List.cons_append, List.nil_append, List.append_nil, List.getElem?_cons_zero, List.getElem?_cons_succ, List.set_cons_zero, List.set_cons_succ, List.reverse_cons, List.reverse_nil, Option.map_some, Option.map_none,
    ev_ext, ev_fstr, ev_meth, meth_obj, fld_obj, prop_obj, own2_obj, own2_int, ownU_obj, ownC_int, bool_int, eq_bl, ne_bl, eqEnd_eq, eqEnd_ne, isC_obj, isC_non, isC_bl, isC_int, isC_str, isC_tup, isC_lst, isC_dct, ownB_str, strEnd_str, ownB_bool, blEnd_bl, ext_mk, mkEnd_1, mkEnd_2, mkEnd_3, mkEnd_4, mkEnd_5, Nat.reduceLT, ex_setA, setA_last, ofO_some,
    if_true, if_false, Bool.false_eq_true, Bool.not_true, Bool.not_false, decide_true, decide_false, Bool.and_true, Bool.true_and, Bool.false_and, Bool.and_false, Bool.or_true, Bool.true_or, Bool.or_false, Bool.false_or, Nat.zero_add, Nat.reduceAdd, reduceCtorEq, reduceIte, beq_self_eq_true, ow, e1]
      rw [end_ret rfl, closeSt_self]
    · rw [sm__law_made, callD_eq xm 3 0 _ [.int 0, .tup [.int T, .int B], .tup [.int (s * t), .int (s * b)]] _ rfl, b__law_made]
      simp -implicitDefEqProofs only [exs_nil, exs_cons, ex_pass, ex_brk, ex_cnt, ex_doc, ex_expr, ex_ret, ex_retN, ex_asg, ex_par, ex_setI, ex_aug, ex_ite, ex_whl, ex_for, ex_raise, ex_try,
    ev_con, ev_glob, ev_var, ev_bin, ev_un, ev_cmp, ev_chain, ev_and, ev_or, ev_not, ev_ife, ev_tup, ev_lst, ev_sub, ev_slice, ev_rev, ev_dct0, ev_call, ev_blt, ev_isi, ev_mth, ev_comp, ev_fz, evs_nil, evs_cons, evi_val, evi_range, evo_no, evo_var, evo_con, evo_bin, evo_un, evoK_int, slice_lst, slice_tup, compG_nm, compG_tp, compO_some, compB, noR_ok, wipe_nil, wipe_cons, evt_eq,
    bnd_ok, bnd_raise, andS_ok, andS_raise, seq_nx, seq_ret, seq_raise, seq_brk, seq_cnt, ofO_some, nxO_some, nxS_some, try_raise, try_ret, try_nx, asgT_nm, asgT_tp, setAll_nil, setAll_cons,
    tru_bl, tru_int, tru_non, tru_lst, tru_tup, add_int, sub_int, mul_int, fdiv_int, mod_int, neg_int, lt_int, le_int, gt_int, ge_int, eq_int, ne_int, eq_str, ne_str, is_bl, isnot_bl, abs_int, int_int, int_bl, bool_bl, max_int, min_int, gcd_int, len_lst, len_tup, tuple_lst, sub_lst, sub_tup, items_lst, items_tup, add_lst, add_tup, add_str, rev_lst, newLst_f, newLst_t, end_nx,
    List.map_cons, List.map_nil, List.length_cons, List.length_nil, List.replicate_succ, List.replicate_zero, List.cons_append, List.nil_append, List.append_nil, List.getElem?_cons_zero, List.getElem?_cons_succ, List.set_cons_zero, List.set_cons_succ, List.reverse_cons, List.reverse_nil, Option.map_some, Option.map_none,
    ev_ext, ev_fstr, ev_meth, meth_obj, fld_obj, prop_obj, own2_obj, own2_int, ownU_obj, ownC_int, bool_int, eq_bl, ne_bl, eqEnd_eq, eqEnd_ne, isC_obj, isC_non, isC_bl, isC_int, isC_str, isC_tup, isC_lst, isC_dct, ownB_str, strEnd_str, ownB_bool, blEnd_bl, ext_mk, mkEnd_1, mkEnd_2, mkEnd_3, mkEnd_4, mkEnd_5, Nat.reduceLT, ex_setA, setA_last, ofO_some,
    if_true, if_false, Bool.false_eq_true, Bool.not_true, Bool.not_false, decide_true, decide_false, Bool.and_true, Bool.true_and, Bool.false_and, Bool.and_false, Bool.or_true, Bool.true_or, Bool.or_false, Bool.false_or, Nat.zero_add, Nat.reduceAdd, reduceCtorEq, reduceIte, beq_self_eq_true, i0, i1, M h1 hQ, M' hP h2, M h2 hQ, e2]
      rw [end_ret rfl, closeSt_self]
  · have e1 := sub_at m.opd H1 H2 H3 H4 B0 b0 st
    have e2 := lowAt (a := T * (s * b) - s * t * B) hBQ sB
    obtain ⟨q1, q2⟩ := lw_same hBQ hBb (show (T * (s * b) - s * t * B) * (B * b) = (T * b - t * B) * (B * (s * b)) by grind)
    rw [q1, q2] at e2
    obtain ⟨g1, g2⟩ := fin (a := T * b - t * B) hBb (nb_sub (nb_mul h1 hb) (by rw [Int.mul_comm]; exact nb_mul h2 ht)) sb
    refine ⟨_, _, lw_low hBb, g1, g2, ?_, ?_⟩
    · have ow := fun a => m.opd.own2 .sub a T B st
      rw [sm__law_done, callD_eq xm 3 0 _ [.int 1, rt T B, x] _ rfl, b__law_done]
      simp -implicitDefEqProofs only [exs_nil, exs_cons, ex_pass, ex_brk, ex_cnt, ex_doc, ex_expr, ex_ret, ex_retN, ex_asg, ex_par, ex_setI, ex_aug, ex_ite, ex_whl, ex_for, ex_raise, ex_try,
    ev_con, ev_glob, ev_var, ev_bin, ev_un, ev_cmp, ev_chain, ev_and, ev_or, ev_not, ev_ife, ev_tup, ev_lst, ev_sub, ev_slice, ev_rev, ev_dct0, ev_call, ev_blt, ev_isi, ev_mth, ev_comp, ev_fz, evs_nil, evs_cons, evi_val, evi_range, evo_no, evo_var, evo_con, evo_bin, evo_un, evoK_int, slice_lst, slice_tup, compG_nm, compG_tp, compO_some, compB, noR_ok, wipe_nil, wipe_cons, evt_eq,
    bnd_ok, bnd_raise, andS_ok, andS_raise, seq_nx, seq_ret, seq_raise, seq_brk, seq_cnt, ofO_some, nxO_some, nxS_some, try_raise, try_ret, try_nx, asgT_nm, asgT_tp, setAll_nil, setAll_cons,
    tru_bl, tru_int, tru_non, tru_lst, tru_tup, add_int, sub_int, mul_int, fdiv_int, mod_int, neg_int, lt_int, le_int, gt_int, ge_int, eq_int, ne_int, eq_str, ne_str, is_bl, isnot_bl, abs_int, int_int, int_bl, bool_bl, max_int, min_int, gcd_int, len_lst, len_tup, tuple_lst, sub_lst, sub_tup, items_lst, items_tup, add_lst, add_tup, add_str, rev_lst, newLst_f, newLst_t, end_nx,
    List.map_cons, List.map_nil, List.length_cons, List.length_nil, List.replicate_succ, List.replicate_zero, List.cons_append, List.nil_append, List.append_nil, List.getElem?_cons_zero, List.getElem?_cons_succ, List.set_cons_zero, List.set_cons_succ, List.reverse_cons, List.reverse_nil, Option.map_some, Option.map_none,
    ev_ext, ev_fstr, ev_meth, meth_obj, fld_obj, prop_obj, own2_obj, own2_int, ownU_obj, ownC_int, bool_int, eq_bl, ne_bl, eqEnd_eq, eqEnd_ne, isC_obj, isC_non, isC_bl, isC_int, isC_str, isC_tup, isC_lst, isC_dct, ownB_str, strEnd_str, ownB_bool, blEnd_bl, ext_mk, mkEnd_1, mkEnd_2, mkEnd_3, mkEnd_4, mkEnd_5, Nat.reduceLT, ex_setA, setA_last, ofO_some,
    if_true, if_false, Bool.false_eq_true, Bool.not_true, Bool.not_false, decide_true, decide_false, Bool.and_true, Bool.true_and, Bool.false_and, Bool.and_false, Bool.or_true, Bool.true_or, Bool.or_false, Bool.false_or, Nat.zero_add, Nat.reduceAdd, reduceCtorEq, reduceIte, beq_self_eq_true, n10, ow, e1]
      rw [end_ret rfl, closeSt_self]
    · rw [sm__law_made, callD_eq xm 3 0 _ [.int 1, .tup [.int T, .int B], .tup [.int (s * t), .int (s * b)]] _ rfl, b__law_made]
      simp -implicitDefEqProofs only [exs_nil, exs_cons, ex_pass, ex_brk, ex_cnt, ex_doc, ex_expr, ex_ret, ex_retN, ex_asg, ex_par, ex_setI, ex_aug, ex_ite, ex_whl, ex_for, ex_raise, ex_try,
    ev_con, ev_glob, ev_var, ev_bin, ev_un, ev_cmp, ev_chain, ev_and, ev_or, ev_not, ev_ife, ev_tup, ev_lst, ev_sub, ev_slice, ev_rev, ev_dct0, ev_call, ev_blt, ev_isi, ev_mth, ev_comp, ev_fz, evs_nil, evs_cons, evi_val, evi_range, evo_no, evo_var, evo_con, evo_bin, evo_un, evoK_int, slice_lst, slice_tup, compG_nm, compG_tp, compO_some, compB, noR_ok, wipe_nil, wipe_cons, evt_eq,
    bnd_ok, bnd_raise, andS_ok, andS_raise, seq_nx, seq_ret, seq_raise, seq_brk, seq_cnt, ofO_some, nxO_some, nxS_some, try_raise, try_ret, try_nx, asgT_nm, asgT_tp, setAll_nil, setAll_cons,
    tru_bl, tru_int, tru_non, tru_lst, tru_tup, add_int, sub_int, mul_int, fdiv_int, mod_int, neg_int, lt_int, le_int, gt_int, ge_int, eq_int, ne_int, eq_str, ne_str, is_bl, isnot_bl, abs_int, int_int, int_bl, bool_bl, max_int, min_int, gcd_int, len_lst, len_tup, tuple_lst, sub_lst, sub_tup, items_lst, items_tup, add_lst, add_tup, add_str, rev_lst, newLst_f, newLst_t, end_nx,
    List.map_cons, List.map_nil, List.length_cons, List.length_nil, List.replicate_succ, List.replicate_zero, List.cons_append, List.nil_append, List.append_nil, List.getElem?_cons_zero, List.getElem?_cons_succ, List.set_cons_zero, List.set_cons_succ, List.reverse_cons, List.reverse_nil, Option.map_some, Option.map_none,
    ev_ext, ev_fstr, ev_meth, meth_obj, fld_obj, prop_obj, own2_obj, own2_int, ownU_obj, ownC_int, bool_int, eq_bl, ne_bl, eqEnd_eq, eqEnd_ne, isC_obj, isC_non, isC_bl, isC_int, isC_str, isC_tup, isC_lst, isC_dct, ownB_str, strEnd_str, ownB_bool, blEnd_bl, ext_mk, mkEnd_1, mkEnd_2, mkEnd_3, mkEnd_4, mkEnd_5, Nat.reduceLT, ex_setA, setA_last, ofO_some,
    if_true, if_false, Bool.false_eq_true, Bool.not_true, Bool.not_false, decide_true, decide_false, Bool.and_true, Bool.true_and, Bool.false_and, Bool.and_false, Bool.or_true, Bool.true_or, Bool.or_false, Bool.false_or, Nat.zero_add, Nat.reduceAdd, reduceCtorEq, reduceIte, beq_self_eq_true, n10, i0, i1, M h1 hQ, M' hP h2, M h2 hQ, e2]
      rw [end_ret rfl, closeSt_self]
  · have e1 := mul_at m.opd H1 H2 H3 H4 B0 b0 st
    have e2 := lowAt (a := T * (s * t)) hBQ sB
    obtain ⟨q1, q2⟩ := lw_same hBQ hBb (show (T * (s * t)) * (B * b) = (T * t) * (B * (s * b)) by grind)
    rw [q1, q2] at e2
    obtain ⟨g1, g2⟩ := fin (a := T * t) hBb (small_le (nb_mul h1 ht) (by omega)) sb
    refine ⟨_, _, lw_low hBb, g1, g2, ?_, ?_⟩
    · have ow := fun a => m.opd.own2 .mul a T B st
      rw [sm__law_done, callD_eq xm 3 0 _ [.int 2, rt T B, x] _ rfl, b__law_done]
      simp -implicitDefEqProofs only [exs_nil, exs_cons, ex_pass, ex_brk, ex_cnt, ex_doc, ex_expr, ex_ret, ex_retN, ex_asg, ex_par, ex_setI, ex_aug, ex_ite, ex_whl, ex_for, ex_raise, ex_try,
    ev_con, ev_glob, ev_var, ev_bin, ev_un, ev_cmp, ev_chain, ev_and, ev_or, ev_not, ev_ife, ev_tup, ev_lst, ev_sub, ev_slice, ev_rev, ev_dct0, ev_call, ev_blt, ev_isi, ev_mth, ev_comp, ev_fz, evs_nil, evs_cons, evi_val, evi_range, evo_no, evo_var, evo_con, evo_bin, evo_un, evoK_int, slice_lst, slice_tup, compG_nm, compG_tp, compO_some, compB, noR_ok, wipe_nil, wipe_cons, evt_eq,
    bnd_ok, bnd_raise, andS_ok, andS_raise, seq_nx, seq_ret, seq_raise, seq_brk, seq_cnt, ofO_some, nxO_some, nxS_some, try_raise, try_ret, try_nx, asgT_nm, asgT_tp, setAll_nil, setAll_cons,
    tru_bl, tru_int, tru_non, tru_lst, tru_tup, add_int, sub_int, mul_int, fdiv_int, mod_int, neg_int, lt_int, le_int, gt_int, ge_int, eq_int, ne_int, eq_str, ne_str, is_bl, isnot_bl, abs_int, int_int, int_bl, bool_bl, max_int, min_int, gcd_int, len_lst, len_tup, tuple_lst, sub_lst, sub_tup, items_lst, items_tup, add_lst, add_tup, add_str, rev_lst, newLst_f, newLst_t, end_nx,
    List.map_cons, List.map_nil, List.length_cons, List.length_nil, List.replicate_succ, List.replicate_zero, List.cons_append, List.nil_append, List.append_nil, List.getElem?_cons_zero, List.getElem?_cons_succ, List.set_cons_zero, List.set_cons_succ, List.reverse_cons, List.reverse_nil, Option.map_some, Option.map_none,
    ev_ext, ev_fstr, ev_meth, meth_obj, fld_obj, prop_obj, own2_obj, own2_int, ownU_obj, ownC_int, bool_int, eq_bl, ne_bl, eqEnd_eq, eqEnd_ne, isC_obj, isC_non, isC_bl, isC_int, isC_str, isC_tup, isC_lst, isC_dct, ownB_str, strEnd_str, ownB_bool, blEnd_bl, ext_mk, mkEnd_1, mkEnd_2, mkEnd_3, mkEnd_4, mkEnd_5, Nat.reduceLT, ex_setA, setA_last, ofO_some,
    if_true, if_false, Bool.false_eq_true, Bool.not_true, Bool.not_false, decide_true, decide_false, Bool.and_true, Bool.true_and, Bool.false_and, Bool.and_false, Bool.or_true, Bool.true_or, Bool.or_false, Bool.false_or, Nat.zero_add, Nat.reduceAdd, reduceCtorEq, reduceIte, beq_self_eq_true, n20, n21, ow, e1]
      rw [end_ret rfl, closeSt_self]
    · rw [sm__law_made, callD_eq xm 3 0 _ [.int 2, .tup [.int T, .int B], .tup [.int (s * t), .int (s * b)]] _ rfl, b__law_made]
      simp -implicitDefEqProofs only [exs_nil, exs_cons, ex_pass, ex_brk, ex_cnt, ex_doc, ex_expr, ex_ret, ex_retN, ex_asg, ex_par, ex_setI, ex_aug, ex_ite, ex_whl, ex_for, ex_raise, ex_try,
    ev_con, ev_glob, ev_var, ev_bin, ev_un, ev_cmp, ev_chain, ev_and, ev_or, ev_not, ev_ife, ev_tup, ev_lst, ev_sub, ev_slice, ev_rev, ev_dct0, ev_call, ev_blt, ev_isi, ev_mth, ev_comp, ev_fz, evs_nil, evs_cons, evi_val, evi_range, evo_no, evo_var, evo_con, evo_bin, evo_un, evoK_int, slice_lst, slice_tup, compG_nm, compG_tp, compO_some, compB, noR_ok, wipe_nil, wipe_cons, evt_eq,
    bnd_ok, bnd_raise, andS_ok, andS_raise, seq_nx, seq_ret, seq_raise, seq_brk, seq_cnt, ofO_some, nxO_some, nxS_some, try_raise, try_ret, try_nx, asgT_nm, asgT_tp, setAll_nil, setAll_cons,
    tru_bl, tru_int, tru_non, tru_lst, tru_tup, add_int, sub_int, mul_int, fdiv_int, mod_int, neg_int, lt_int, le_int, gt_int, ge_int, eq_int, ne_int, eq_str, ne_str, is_bl, isnot_bl, abs_int, int_int, int_bl, bool_bl, max_int, min_int, gcd_int, len_lst, len_tup, tuple_lst, sub_lst, sub_tup, items_lst, items_tup, add_lst, add_tup, add_str, rev_lst, newLst_f, newLst_t, end_nx,
    List.map_cons, List.map_nil, List.length_cons, List.length_nil, List.replicate_succ, List.replicate_zero, List.cons_append, List.nil_append, List.append_nil, List.getElem?_cons_zero, List.getElem?_cons_succ, List.set_cons_zero, List.set_cons_succ, List.reverse_cons, List.reverse_nil, Option.map_some, Option.map_none,
    ev_ext, ev_fstr, ev_meth, meth_obj, fld_obj, prop_obj, own2_obj, own2_int, ownU_obj, ownC_int, bool_int, eq_bl, ne_bl, eqEnd_eq, eqEnd_ne, isC_obj, isC_non, isC_bl, isC_int, isC_str, isC_tup, isC_lst, isC_dct, ownB_str, strEnd_str, ownB_bool, blEnd_bl, ext_mk, mkEnd_1, mkEnd_2, mkEnd_3, mkEnd_4, mkEnd_5, Nat.reduceLT, ex_setA, setA_last, ofO_some,
    if_true, if_false, Bool.false_eq_true, Bool.not_true, Bool.not_false, decide_true, decide_false, Bool.and_true, Bool.true_and, Bool.false_and, Bool.and_false, Bool.or_true, Bool.true_or, Bool.or_false, Bool.false_or, Nat.zero_add, Nat.reduceAdd, reduceCtorEq, reduceIte, beq_self_eq_true, n20, n21, i0, i1, M h1 hP, M h2 hQ, e2]
      rw [end_ret rfl, closeSt_self]
  · have hst := hz rfl
    have t0 : t ≠ 0 := fun h => hst (by rw [h]; simp)
    have e1 := over_at m.opd H1 H2 H3 H4 B0 b0 t0 st
    have hBP : B * (s * t) ≠ 0 := Int.mul_ne_zero B0 hst
    have hBt : B * t ≠ 0 := Int.mul_ne_zero B0 t0
    have e2 := lowAt (a := T * (s * b)) hBP (nb_mul h2 hP)
    obtain ⟨q1, q2⟩ := lw_same hBP hBt (show (T * (s * b)) * (B * t) = (T * b) * (B * (s * t)) by grind)
    rw [q1, q2] at e2
    obtain ⟨g1, g2⟩ := fin (a := T * b) hBt (small_le (nb_mul h1 hb) (by omega)) (nb_mul h2 ht)
    refine ⟨_, _, lw_low hBt, g1, g2, ?_, ?_⟩
    · rw [sm__law_done, callD_eq xm 3 0 _ [.int 3, rt T B, x] _ rfl, b__law_done]
      unfold rt at *
      simp -implicitDefEqProofs only [exs_nil, exs_cons, ex_pass, ex_brk, ex_cnt, ex_doc, ex_expr, ex_ret, ex_retN, ex_asg, ex_par, ex_setI, ex_aug, ex_ite, ex_whl, ex_for, ex_raise, ex_try,
    ev_con, ev_glob, ev_var, ev_bin, ev_un, ev_cmp, ev_chain, ev_and, ev_or, ev_not, ev_ife, ev_tup, ev_lst, ev_sub, ev_slice, ev_rev, ev_dct0, ev_call, ev_blt, ev_isi, ev_mth, ev_comp, ev_fz, evs_nil, evs_cons, evi_val, evi_range, evo_no, evo_var, evo_con, evo_bin, evo_un, evoK_int, slice_lst, slice_tup, compG_nm, compG_tp, compO_some, compB, noR_ok, wipe_nil, wipe_cons, evt_eq,
    bnd_ok, bnd_raise, andS_ok, andS_raise, seq_nx, seq_ret, seq_raise, seq_brk, seq_cnt, ofO_some, nxO_some, nxS_some, try_raise, try_ret, try_nx, asgT_nm, asgT_tp, setAll_nil, setAll_cons,
    tru_bl, tru_int, tru_non, tru_lst, tru_tup, add_int, sub_int, mul_int, fdiv_int, mod_int, neg_int, lt_int, le_int, gt_int, ge_int, eq_int, ne_int, eq_str, ne_str, is_bl, isnot_bl, abs_int, int_int, int_bl, bool_bl, max_int, min_int, gcd_int, len_lst, len_tup, tuple_lst, sub_lst, sub_tup, items_lst, items_tup, add_lst, add_tup, add_str, rev_lst, newLst_f, newLst_t, end_nx,
    List.map_cons, List.map_nil, List.length_cons, List.length_nil, List.replicate_succ, List.replicate_zero, List.cons_append, List.nil_append, List.append_nil, List.getElem?_cons_zero, List.getElem?_cons_succ, List.set_cons_zero, List.set_cons_succ, List.reverse_cons, List.reverse_nil, Option.map_some, Option.map_none,
    ev_ext, ev_fstr, ev_meth, meth_obj, fld_obj, prop_obj, own2_obj, own2_int, ownU_obj, ownC_int, bool_int, eq_bl, ne_bl, eqEnd_eq, eqEnd_ne, isC_obj, isC_non, isC_bl, isC_int, isC_str, isC_tup, isC_lst, isC_dct, ownB_str, strEnd_str, ownB_bool, blEnd_bl, ext_mk, mkEnd_1, mkEnd_2, mkEnd_3, mkEnd_4, mkEnd_5, Nat.reduceLT, ex_setA, setA_last, ofO_some,
    if_true, if_false, Bool.false_eq_true, Bool.not_true, Bool.not_false, decide_true, decide_false, Bool.and_true, Bool.true_and, Bool.false_and, Bool.and_false, Bool.or_true, Bool.true_or, Bool.or_false, Bool.false_or, Nat.zero_add, Nat.reduceAdd, reduceCtorEq, reduceIte, beq_self_eq_true, n30, n31, n32, e1]
      rw [end_ret rfl, closeSt_self]
    · rw [sm__law_made, callD_eq xm 3 0 _ [.int 3, .tup [.int T, .int B], .tup [.int (s * t), .int (s * b)]] _ rfl, b__law_made]
      simp -implicitDefEqProofs only [exs_nil, exs_cons, ex_pass, ex_brk, ex_cnt, ex_doc, ex_expr, ex_ret, ex_retN, ex_asg, ex_par, ex_setI, ex_aug, ex_ite, ex_whl, ex_for, ex_raise, ex_try,
    ev_con, ev_glob, ev_var, ev_bin, ev_un, ev_cmp, ev_chain, ev_and, ev_or, ev_not, ev_ife, ev_tup, ev_lst, ev_sub, ev_slice, ev_rev, ev_dct0, ev_call, ev_blt, ev_isi, ev_mth, ev_comp, ev_fz, evs_nil, evs_cons, evi_val, evi_range, evo_no, evo_var, evo_con, evo_bin, evo_un, evoK_int, slice_lst, slice_tup, compG_nm, compG_tp, compO_some, compB, noR_ok, wipe_nil, wipe_cons, evt_eq,
    bnd_ok, bnd_raise, andS_ok, andS_raise, seq_nx, seq_ret, seq_raise, seq_brk, seq_cnt, ofO_some, nxO_some, nxS_some, try_raise, try_ret, try_nx, asgT_nm, asgT_tp, setAll_nil, setAll_cons,
    tru_bl, tru_int, tru_non, tru_lst, tru_tup, add_int, sub_int, mul_int, fdiv_int, mod_int, neg_int, lt_int, le_int, gt_int, ge_int, eq_int, ne_int, eq_str, ne_str, is_bl, isnot_bl, abs_int, int_int, int_bl, bool_bl, max_int, min_int, gcd_int, len_lst, len_tup, tuple_lst, sub_lst, sub_tup, items_lst, items_tup, add_lst, add_tup, add_str, rev_lst, newLst_f, newLst_t, end_nx,
    List.map_cons, List.map_nil, List.length_cons, List.length_nil, List.replicate_succ, List.replicate_zero, List.cons_append, List.nil_append, List.append_nil, List.getElem?_cons_zero, List.getElem?_cons_succ, List.set_cons_zero, List.set_cons_succ, List.reverse_cons, List.reverse_nil, Option.map_some, Option.map_none,
    ev_ext, ev_fstr, ev_meth, meth_obj, fld_obj, prop_obj, own2_obj, own2_int, ownU_obj, ownC_int, bool_int, eq_bl, ne_bl, eqEnd_eq, eqEnd_ne, isC_obj, isC_non, isC_bl, isC_int, isC_str, isC_tup, isC_lst, isC_dct, ownB_str, strEnd_str, ownB_bool, blEnd_bl, ext_mk, mkEnd_1, mkEnd_2, mkEnd_3, mkEnd_4, mkEnd_5, Nat.reduceLT, ex_setA, setA_last, ofO_some,
    if_true, if_false, Bool.false_eq_true, Bool.not_true, Bool.not_false, decide_true, decide_false, Bool.and_true, Bool.true_and, Bool.false_and, Bool.and_false, Bool.or_true, Bool.true_or, Bool.or_false, Bool.false_or, Nat.zero_add, Nat.reduceAdd, reduceCtorEq, reduceIte, beq_self_eq_true, n30, n31, n32, i0, i1, M h1 hQ, M h2 hP, e2]
      rw [end_ret rfl, closeSt_self]
end L02
set_option Elab.async false
set_option linter.all false
set_option maxRecDepth 100000
set_option maxHeartbeats 4000000
set_option exponentiation.threshold 20000
namespace L02
open Ip
open PySem (Str)
theorem Urn.close {k r : Nat} {st st' : Store} (h : Urn k r st') (hr : r < st.length) : Urn k r (closeSt st st') := by
  unfold closeSt
  split
  · obtain ⟨g, m, c, h1, h2⟩ := h
    exact ⟨g, m, c, by rw [List.getElem?_take, if_pos hr]; exact h1, h2⟩
  · exact h
theorem Urn.lt {k r : Nat} {st : Store} (h : Urn k r st) : r < st.length := by
  obtain ⟨g, m, c, h1, h2⟩ := h
  exact (List.getElem?_eq_some_iff.mp h1).1
theorem pair_neg {P Q : Int} {x : D} {t b : Int} (m : More x P Q t b) : More x (0 - P) (0 - Q) t b where
  opd := m.opd
  low := m.low
  rel := by
    obtain ⟨s, s0, h1, h2⟩ := m.rel
    exact ⟨-s, by omega, by rw [h1]; grind, by rw [h2]; grind⟩
  hP := by have := m.hP; rw [Int.zero_sub, Int.natAbs_neg]; exact this
  hQ := by have := m.hQ; rw [Int.zero_sub, Int.natAbs_neg]; exact this
  eq := m.eq
theorem More.q0 {P Q : Int} {x : D} {t b : Int} (m : More x P Q t b) : Q ≠ 0 := by
  obtain ⟨s, s0, h1, h2⟩ := m.rel
  rw [h2]
  exact Int.mul_ne_zero s0 (by have := m.low.pos; omega)
theorem pure_int (n : Nat) (i : Int) : pureD n (.int i) = true := by cases n <;> simp [pureD]
theorem ne_pair (st : Store) (a b : Int) : cmpD .ne st (.tup [.int a, .int b]) (.tup [.int a, .int b]) = some false := by
  simp [cmpD, pureD, pureDs, eqD, eqDs, pure_int]
/-- the second part of a turn: the operand and its pair stand -/
theorem rest_turn {r : Nat} {f : D} {T B P Q t b w : Int} {x : D} {x4 x7 x9 : Option D} (hl : Low T B) {N : Nat} (hN : N ≤ 3000) (h1 : T.natAbs < 2 ^ N) (h2 : B.natAbs < 2 ^ N) (m : More x P Q t b) (hw : 0 ≤ w ∧ w < 6) (st : Store) :
    ∃ T' B' y7 y9, Low T' B' ∧ T'.natAbs < 2 ^ (N + 310) ∧ B'.natAbs < 2 ^ (N + 310) ∧
      execs xm (tl (tl l1__law_row_right)) [some (.ref r), some f, some (rt T B), some (.tup [.int T, .int B]), x4, some (.int w), some (.tup [.int P, .int Q]), x7, some x, x9] st
        = .nx [some (.ref r), some f, some (rt T' B'), some (.tup [.int T', .int B']), x4, some (.int w), some (.tup [.int P, .int Q]), y7, some x, y9] st := by
  have i0 : ∀ a b : D, L2.atI [a, b] 0 = some a := fun _ _ => rfl
  have i1 : ∀ a b : D, L2.atI [a, b] 1 = some b := fun _ _ => rfl
  have z2 : szOk 2 = true := by decide
  obtain ⟨c1, hc1⟩ : ∃ c, (if decide (0 < Q) = true then D.tup [.int P, .int Q] else D.tup [.int (0 - P), .int (0 - Q)]) = c := ⟨_, rfl⟩
  have hc : sm__law_compared_right [rt T B, .tup [.int T, .int B], x, c1] st = .ok (.bl true) st := by
    rw [← hc1]
    by_cases hq : 0 < Q
    · rw [if_pos (by simpa using hq)]
      exact cmp_right hl (small_le h1 hN) (small_le h2 hN) m hq st
    · rw [if_neg (by simpa using hq)]
      exact cmp_right hl (small_le h1 hN) (small_le h2 hN) (pair_neg m) (by have := m.q0; omega) st
  have ht := top_at T B st
  have hb := bottom_at T B st
  have hsh := shows_at (small_le h1 (show N ≤ 8000 by omega)) (small_le h2 (show N ≤ 8000 by omega)) st
  have nb : ∀ {a : Int}, a.natAbs < 2 ^ N → a.natAbs < 2 ^ (N + 310) := fun h => small_le h (by omega)
  have hne := ne_pair st T B
  by_cases hw3 : 3 < w
  · have hn := neg_at hl (small_le h1 (show N ≤ 3500 by omega)) (small_le h2 (show N ≤ 3500 by omega)) st
    have hn1 : (-T).natAbs < 2 ^ N := by rw [Int.natAbs_neg]; exact h1
    have e0 : 0 - T = -T := by omega
    have hsh2 := shows_at (small_le hn1 (show N ≤ 8000 by omega)) (small_le h2 (show N ≤ 8000 by omega)) st
    refine ⟨-T, B, some (.tup [.int T, .int B]), x9, ⟨hl.pos, by rw [Int.natAbs_neg]; exact hl.co⟩, nb hn1, nb h2, ?_⟩
    simp only [l1__law_row_right, tl]
    unfold rt at *
    by_cases hq : 0 < Q
    · rw [if_pos (by simpa using hq)] at hc1
      subst hc1
      simp -implicitDefEqProofs only [exs_nil, exs_cons, ex_pass, ex_brk, ex_cnt, ex_doc, ex_expr, ex_ret, ex_retN, ex_asg, ex_par, ex_setI, ex_aug, ex_ite, ex_whl, ex_for, ex_raise, ex_try,
    ev_con, ev_glob, ev_var, ev_bin, ev_un, ev_cmp, ev_chain, ev_and, ev_or, ev_not, ev_ife, ev_tup, ev_lst, ev_sub, ev_slice, ev_rev, ev_dct0, ev_call, ev_blt, ev_isi, ev_mth, ev_comp, ev_fz, evs_nil, evs_cons, evi_val, evi_range, evo_no, evo_var, evo_con, evo_bin, evo_un, evoK_int, slice_lst, slice_tup, compG_nm, compG_tp, compO_some, compB, noR_ok, wipe_nil, wipe_cons, evt_eq,
    bnd_ok, bnd_raise, andS_ok, andS_raise, seq_nx, seq_ret, seq_raise, seq_brk, seq_cnt, ofO_some, nxO_some, nxS_some, try_raise, try_ret, try_nx, asgT_nm, asgT_tp, setAll_nil, setAll_cons,
    tru_bl, tru_int, tru_non, tru_lst, tru_tup, add_int, sub_int, mul_int, fdiv_int, mod_int, neg_int, lt_int, le_int, gt_int, ge_int, eq_int, ne_int, eq_str, ne_str, is_bl, isnot_bl, abs_int, int_int, int_bl, bool_bl, max_int, min_int, gcd_int, len_lst, len_tup, tuple_lst, sub_lst, sub_tup, items_lst, items_tup, add_lst, add_tup, add_str, rev_lst, newLst_f, newLst_t, end_nx,
    List.map_cons, List.map_nil, List.length_cons, List.length_nil, List.replicate_succ, List.replicate_zero, List.cons_append, List.nil_append, List.append_nil, List.getElem?_cons_zero, List.getElem?_cons_succ, List.set_cons_zero, List.set_cons_succ, List.reverse_cons, List.reverse_nil, Option.map_some, Option.map_none,
    ev_ext, ev_fstr, ev_meth, meth_obj, fld_obj, prop_obj, own2_obj, own2_int, ownU_obj, ownC_int, bool_int, eq_bl, ne_bl, eqEnd_eq, eqEnd_ne, isC_obj, isC_non, isC_bl, isC_int, isC_str, isC_tup, isC_lst, isC_dct, ownB_str, strEnd_str, ownB_bool, blEnd_bl, ext_mk, mkEnd_1, mkEnd_2, mkEnd_3, mkEnd_4, mkEnd_5, Nat.reduceLT, ex_setA, setA_last, ofO_some,
    if_true, if_false, Bool.false_eq_true, Bool.not_true, Bool.not_false, decide_true, decide_false, Bool.and_true, Bool.true_and, Bool.false_and, Bool.and_false, Bool.or_true, Bool.true_or, Bool.or_false, Bool.false_or, Nat.zero_add, Nat.reduceAdd, reduceCtorEq, reduceIte, i0, i1, z2, hq, hc, ht, hb, hw3, hn, e0, hsh2]
    · rw [if_neg (by simpa using hq)] at hc1
      subst hc1
      simp -implicitDefEqProofs only [exs_nil, exs_cons, ex_pass, ex_brk, ex_cnt, ex_doc, ex_expr, ex_ret, ex_retN, ex_asg, ex_par, ex_setI, ex_aug, ex_ite, ex_whl, ex_for, ex_raise, ex_try,
    ev_con, ev_glob, ev_var, ev_bin, ev_un, ev_cmp, ev_chain, ev_and, ev_or, ev_not, ev_ife, ev_tup, ev_lst, ev_sub, ev_slice, ev_rev, ev_dct0, ev_call, ev_blt, ev_isi, ev_mth, ev_comp, ev_fz, evs_nil, evs_cons, evi_val, evi_range, evo_no, evo_var, evo_con, evo_bin, evo_un, evoK_int, slice_lst, slice_tup, compG_nm, compG_tp, compO_some, compB, noR_ok, wipe_nil, wipe_cons, evt_eq,
    bnd_ok, bnd_raise, andS_ok, andS_raise, seq_nx, seq_ret, seq_raise, seq_brk, seq_cnt, ofO_some, nxO_some, nxS_some, try_raise, try_ret, try_nx, asgT_nm, asgT_tp, setAll_nil, setAll_cons,
    tru_bl, tru_int, tru_non, tru_lst, tru_tup, add_int, sub_int, mul_int, fdiv_int, mod_int, neg_int, lt_int, le_int, gt_int, ge_int, eq_int, ne_int, eq_str, ne_str, is_bl, isnot_bl, abs_int, int_int, int_bl, bool_bl, max_int, min_int, gcd_int, len_lst, len_tup, tuple_lst, sub_lst, sub_tup, items_lst, items_tup, add_lst, add_tup, add_str, rev_lst, newLst_f, newLst_t, end_nx,
    List.map_cons, List.map_nil, List.length_cons, List.length_nil, List.replicate_succ, List.replicate_zero, List.cons_append, List.nil_append, List.append_nil, List.getElem?_cons_zero, List.getElem?_cons_succ, List.set_cons_zero, List.set_cons_succ, List.reverse_cons, List.reverse_nil, Option.map_some, Option.map_none,
    ev_ext, ev_fstr, ev_meth, meth_obj, fld_obj, prop_obj, own2_obj, own2_int, ownU_obj, ownC_int, bool_int, eq_bl, ne_bl, eqEnd_eq, eqEnd_ne, isC_obj, isC_non, isC_bl, isC_int, isC_str, isC_tup, isC_lst, isC_dct, ownB_str, strEnd_str, ownB_bool, blEnd_bl, ext_mk, mkEnd_1, mkEnd_2, mkEnd_3, mkEnd_4, mkEnd_5, Nat.reduceLT, ex_setA, setA_last, ofO_some,
    if_true, if_false, Bool.false_eq_true, Bool.not_true, Bool.not_false, decide_true, decide_false, Bool.and_true, Bool.true_and, Bool.false_and, Bool.and_false, Bool.or_true, Bool.true_or, Bool.or_false, Bool.false_or, Nat.zero_add, Nat.reduceAdd, reduceCtorEq, reduceIte, i0, i1, z2, hq, hc, ht, hb, hw3, hn, e0, hsh2]
  · by_cases hz : w = 3 ∧ P = 0
    · obtain ⟨rfl, rfl⟩ := hz
      have t0 : t = 0 := by
        obtain ⟨s, s0, k1, _⟩ := m.rel
        rcases Int.mul_eq_zero.mp k1.symm with h | h
        · exact absurd h s0
        · exact h
      subst t0
      have he := zero_error (T := T) (B := B) m.opd st
      have n33 : ¬ (3 : Int) < 3 := by decide
      have tt : (("operation" : Str) == ("operation" : Str)) = true := beq_self_eq_true _
      refine ⟨T, B, some (.tup [.int T, .int B]), x9, hl, nb h1, nb h2, ?_⟩
      simp only [l1__law_row_right, tl]
      unfold rt at *
      by_cases hq : 0 < Q
      · rw [if_pos (by simpa using hq)] at hc1
        subst hc1
        simp -implicitDefEqProofs only [exs_nil, exs_cons, ex_pass, ex_brk, ex_cnt, ex_doc, ex_expr, ex_ret, ex_retN, ex_asg, ex_par, ex_setI, ex_aug, ex_ite, ex_whl, ex_for, ex_raise, ex_try,
    ev_con, ev_glob, ev_var, ev_bin, ev_un, ev_cmp, ev_chain, ev_and, ev_or, ev_not, ev_ife, ev_tup, ev_lst, ev_sub, ev_slice, ev_rev, ev_dct0, ev_call, ev_blt, ev_isi, ev_mth, ev_comp, ev_fz, evs_nil, evs_cons, evi_val, evi_range, evo_no, evo_var, evo_con, evo_bin, evo_un, evoK_int, slice_lst, slice_tup, compG_nm, compG_tp, compO_some, compB, noR_ok, wipe_nil, wipe_cons, evt_eq,
    bnd_ok, bnd_raise, andS_ok, andS_raise, seq_nx, seq_ret, seq_raise, seq_brk, seq_cnt, ofO_some, nxO_some, nxS_some, try_raise, try_ret, try_nx, asgT_nm, asgT_tp, setAll_nil, setAll_cons,
    tru_bl, tru_int, tru_non, tru_lst, tru_tup, add_int, sub_int, mul_int, fdiv_int, mod_int, neg_int, lt_int, le_int, gt_int, ge_int, eq_int, ne_int, eq_str, ne_str, is_bl, isnot_bl, abs_int, int_int, int_bl, bool_bl, max_int, min_int, gcd_int, len_lst, len_tup, tuple_lst, sub_lst, sub_tup, items_lst, items_tup, add_lst, add_tup, add_str, rev_lst, newLst_f, newLst_t, end_nx,
    List.map_cons, List.map_nil, List.length_cons, List.length_nil, List.replicate_succ, List.replicate_zero, List.cons_append, List.nil_append, List.append_nil, List.getElem?_cons_zero, List.getElem?_cons_succ, List.set_cons_zero, List.set_cons_succ, List.reverse_cons, List.reverse_nil, Option.map_some, Option.map_none,
    ev_ext, ev_fstr, ev_meth, meth_obj, fld_obj, prop_obj, own2_obj, own2_int, ownU_obj, ownC_int, bool_int, eq_bl, ne_bl, eqEnd_eq, eqEnd_ne, isC_obj, isC_non, isC_bl, isC_int, isC_str, isC_tup, isC_lst, isC_dct, ownB_str, strEnd_str, ownB_bool, blEnd_bl, ext_mk, mkEnd_1, mkEnd_2, mkEnd_3, mkEnd_4, mkEnd_5, Nat.reduceLT, ex_setA, setA_last, ofO_some,
    if_true, if_false, Bool.false_eq_true, Bool.not_true, Bool.not_false, decide_true, decide_false, Bool.and_true, Bool.true_and, Bool.false_and, Bool.and_false, Bool.or_true, Bool.true_or, Bool.or_false, Bool.false_or, Nat.zero_add, Nat.reduceAdd, reduceCtorEq, reduceIte, i0, i1, z2, hq, hc, ht, hb, n33, beq_self_eq_true, he, hsh, tt]
      · rw [if_neg (by simpa using hq)] at hc1
        subst hc1
        simp -implicitDefEqProofs only [exs_nil, exs_cons, ex_pass, ex_brk, ex_cnt, ex_doc, ex_expr, ex_ret, ex_retN, ex_asg, ex_par, ex_setI, ex_aug, ex_ite, ex_whl, ex_for, ex_raise, ex_try,
    ev_con, ev_glob, ev_var, ev_bin, ev_un, ev_cmp, ev_chain, ev_and, ev_or, ev_not, ev_ife, ev_tup, ev_lst, ev_sub, ev_slice, ev_rev, ev_dct0, ev_call, ev_blt, ev_isi, ev_mth, ev_comp, ev_fz, evs_nil, evs_cons, evi_val, evi_range, evo_no, evo_var, evo_con, evo_bin, evo_un, evoK_int, slice_lst, slice_tup, compG_nm, compG_tp, compO_some, compB, noR_ok, wipe_nil, wipe_cons, evt_eq,
    bnd_ok, bnd_raise, andS_ok, andS_raise, seq_nx, seq_ret, seq_raise, seq_brk, seq_cnt, ofO_some, nxO_some, nxS_some, try_raise, try_ret, try_nx, asgT_nm, asgT_tp, setAll_nil, setAll_cons,
    tru_bl, tru_int, tru_non, tru_lst, tru_tup, add_int, sub_int, mul_int, fdiv_int, mod_int, neg_int, lt_int, le_int, gt_int, ge_int, eq_int, ne_int, eq_str, ne_str, is_bl, isnot_bl, abs_int, int_int, int_bl, bool_bl, max_int, min_int, gcd_int, len_lst, len_tup, tuple_lst, sub_lst, sub_tup, items_lst, items_tup, add_lst, add_tup, add_str, rev_lst, newLst_f, newLst_t, end_nx,
    List.map_cons, List.map_nil, List.length_cons, List.length_nil, List.replicate_succ, List.replicate_zero, List.cons_append, List.nil_append, List.append_nil, List.getElem?_cons_zero, List.getElem?_cons_succ, List.set_cons_zero, List.set_cons_succ, List.reverse_cons, List.reverse_nil, Option.map_some, Option.map_none,
    ev_ext, ev_fstr, ev_meth, meth_obj, fld_obj, prop_obj, own2_obj, own2_int, ownU_obj, ownC_int, bool_int, eq_bl, ne_bl, eqEnd_eq, eqEnd_ne, isC_obj, isC_non, isC_bl, isC_int, isC_str, isC_tup, isC_lst, isC_dct, ownB_str, strEnd_str, ownB_bool, blEnd_bl, ext_mk, mkEnd_1, mkEnd_2, mkEnd_3, mkEnd_4, mkEnd_5, Nat.reduceLT, ex_setA, setA_last, ofO_some,
    if_true, if_false, Bool.false_eq_true, Bool.not_true, Bool.not_false, decide_true, decide_false, Bool.and_true, Bool.true_and, Bool.false_and, Bool.and_false, Bool.or_true, Bool.true_or, Bool.or_false, Bool.false_or, Nat.zero_add, Nat.reduceAdd, reduceCtorEq, reduceIte, i0, i1, z2, hq, hc, ht, hb, n33, beq_self_eq_true, he, hsh, tt]
    · obtain ⟨T', B', hl', g1, g2, hd, hm⟩ := deed_at hl hN h1 h2 m (w := w) (by omega) (fun h hP => hz ⟨h, hP⟩) st
      have hsh' := shows_at (small_le g1 (show N + 310 ≤ 8000 by omega)) (small_le g2 (show N + 310 ≤ 8000 by omega)) st
      refine ⟨T', B', some (.tup [.int T, .int B]), some (rt T' B'), hl', g1, g2, ?_⟩
      simp only [l1__law_row_right, tl]
      unfold rt at *
      by_cases h3 : w = 3
      · subst h3
        have p0 : (P == 0) = false := by simp; intro h; exact hz ⟨rfl, h⟩
        by_cases hq : 0 < Q
        · rw [if_pos (by simpa using hq)] at hc1
          subst hc1
          simp -implicitDefEqProofs only [exs_nil, exs_cons, ex_pass, ex_brk, ex_cnt, ex_doc, ex_expr, ex_ret, ex_retN, ex_asg, ex_par, ex_setI, ex_aug, ex_ite, ex_whl, ex_for, ex_raise, ex_try,
    ev_con, ev_glob, ev_var, ev_bin, ev_un, ev_cmp, ev_chain, ev_and, ev_or, ev_not, ev_ife, ev_tup, ev_lst, ev_sub, ev_slice, ev_rev, ev_dct0, ev_call, ev_blt, ev_isi, ev_mth, ev_comp, ev_fz, evs_nil, evs_cons, evi_val, evi_range, evo_no, evo_var, evo_con, evo_bin, evo_un, evoK_int, slice_lst, slice_tup, compG_nm, compG_tp, compO_some, compB, noR_ok, wipe_nil, wipe_cons, evt_eq,
    bnd_ok, bnd_raise, andS_ok, andS_raise, seq_nx, seq_ret, seq_raise, seq_brk, seq_cnt, ofO_some, nxO_some, nxS_some, try_raise, try_ret, try_nx, asgT_nm, asgT_tp, setAll_nil, setAll_cons,
    tru_bl, tru_int, tru_non, tru_lst, tru_tup, add_int, sub_int, mul_int, fdiv_int, mod_int, neg_int, lt_int, le_int, gt_int, ge_int, eq_int, ne_int, eq_str, ne_str, is_bl, isnot_bl, abs_int, int_int, int_bl, bool_bl, max_int, min_int, gcd_int, len_lst, len_tup, tuple_lst, sub_lst, sub_tup, items_lst, items_tup, add_lst, add_tup, add_str, rev_lst, newLst_f, newLst_t, end_nx,
    List.map_cons, List.map_nil, List.length_cons, List.length_nil, List.replicate_succ, List.replicate_zero, List.cons_append, List.nil_append, List.append_nil, List.getElem?_cons_zero, List.getElem?_cons_succ, List.set_cons_zero, List.set_cons_succ, List.reverse_cons, List.reverse_nil, Option.map_some, Option.map_none,
    ev_ext, ev_fstr, ev_meth, meth_obj, fld_obj, prop_obj, own2_obj, own2_int, ownU_obj, ownC_int, bool_int, eq_bl, ne_bl, eqEnd_eq, eqEnd_ne, isC_obj, isC_non, isC_bl, isC_int, isC_str, isC_tup, isC_lst, isC_dct, ownB_str, strEnd_str, ownB_bool, blEnd_bl, ext_mk, mkEnd_1, mkEnd_2, mkEnd_3, mkEnd_4, mkEnd_5, Nat.reduceLT, ex_setA, setA_last, ofO_some,
    if_true, if_false, Bool.false_eq_true, Bool.not_true, Bool.not_false, decide_true, decide_false, Bool.and_true, Bool.true_and, Bool.false_and, Bool.and_false, Bool.or_true, Bool.true_or, Bool.or_false, Bool.false_or, Nat.zero_add, Nat.reduceAdd, reduceCtorEq, reduceIte, i0, i1, z2, hq, hc, ht, hb, hw3, p0, beq_self_eq_true, hd, hm, hne, hsh']
        · rw [if_neg (by simpa using hq)] at hc1
          subst hc1
          simp -implicitDefEqProofs only [exs_nil, exs_cons, ex_pass, ex_brk, ex_cnt, ex_doc, ex_expr, ex_ret, ex_retN, ex_asg, ex_par, ex_setI, ex_aug, ex_ite, ex_whl, ex_for, ex_raise, ex_try,
    ev_con, ev_glob, ev_var, ev_bin, ev_un, ev_cmp, ev_chain, ev_and, ev_or, ev_not, ev_ife, ev_tup, ev_lst, ev_sub, ev_slice, ev_rev, ev_dct0, ev_call, ev_blt, ev_isi, ev_mth, ev_comp, ev_fz, evs_nil, evs_cons, evi_val, evi_range, evo_no, evo_var, evo_con, evo_bin, evo_un, evoK_int, slice_lst, slice_tup, compG_nm, compG_tp, compO_some, compB, noR_ok, wipe_nil, wipe_cons, evt_eq,
    bnd_ok, bnd_raise, andS_ok, andS_raise, seq_nx, seq_ret, seq_raise, seq_brk, seq_cnt, ofO_some, nxO_some, nxS_some, try_raise, try_ret, try_nx, asgT_nm, asgT_tp, setAll_nil, setAll_cons,
    tru_bl, tru_int, tru_non, tru_lst, tru_tup, add_int, sub_int, mul_int, fdiv_int, mod_int, neg_int, lt_int, le_int, gt_int, ge_int, eq_int, ne_int, eq_str, ne_str, is_bl, isnot_bl, abs_int, int_int, int_bl, bool_bl, max_int, min_int, gcd_int, len_lst, len_tup, tuple_lst, sub_lst, sub_tup, items_lst, items_tup, add_lst, add_tup, add_str, rev_lst, newLst_f, newLst_t, end_nx,
    List.map_cons, List.map_nil, List.length_cons, List.length_nil, List.replicate_succ, List.replicate_zero, List.cons_append, List.nil_append, List.append_nil, List.getElem?_cons_zero, List.getElem?_cons_succ, List.set_cons_zero, List.set_cons_succ, List.reverse_cons, List.reverse_nil, Option.map_some, Option.map_none,
    ev_ext, ev_fstr, ev_meth, meth_obj, fld_obj, prop_obj, own2_obj, own2_int, ownU_obj, ownC_int, bool_int, eq_bl, ne_bl, eqEnd_eq, eqEnd_ne, isC_obj, isC_non, isC_bl, isC_int, isC_str, isC_tup, isC_lst, isC_dct, ownB_str, strEnd_str, ownB_bool, blEnd_bl, ext_mk, mkEnd_1, mkEnd_2, mkEnd_3, mkEnd_4, mkEnd_5, Nat.reduceLT, ex_setA, setA_last, ofO_some,
    if_true, if_false, Bool.false_eq_true, Bool.not_true, Bool.not_false, decide_true, decide_false, Bool.and_true, Bool.true_and, Bool.false_and, Bool.and_false, Bool.or_true, Bool.true_or, Bool.or_false, Bool.false_or, Nat.zero_add, Nat.reduceAdd, reduceCtorEq, reduceIte, i0, i1, z2, hq, hc, ht, hb, hw3, p0, beq_self_eq_true, hd, hm, hne, hsh']
      · have w3 : (w == 3) = false := by simp [h3]
        by_cases hq : 0 < Q
        · rw [if_pos (by simpa using hq)] at hc1
          subst hc1
          simp -implicitDefEqProofs only [exs_nil, exs_cons, ex_pass, ex_brk, ex_cnt, ex_doc, ex_expr, ex_ret, ex_retN, ex_asg, ex_par, ex_setI, ex_aug, ex_ite, ex_whl, ex_for, ex_raise, ex_try,
    ev_con, ev_glob, ev_var, ev_bin, ev_un, ev_cmp, ev_chain, ev_and, ev_or, ev_not, ev_ife, ev_tup, ev_lst, ev_sub, ev_slice, ev_rev, ev_dct0, ev_call, ev_blt, ev_isi, ev_mth, ev_comp, ev_fz, evs_nil, evs_cons, evi_val, evi_range, evo_no, evo_var, evo_con, evo_bin, evo_un, evoK_int, slice_lst, slice_tup, compG_nm, compG_tp, compO_some, compB, noR_ok, wipe_nil, wipe_cons, evt_eq,
    bnd_ok, bnd_raise, andS_ok, andS_raise, seq_nx, seq_ret, seq_raise, seq_brk, seq_cnt, ofO_some, nxO_some, nxS_some, try_raise, try_ret, try_nx, asgT_nm, asgT_tp, setAll_nil, setAll_cons,
    tru_bl, tru_int, tru_non, tru_lst, tru_tup, add_int, sub_int, mul_int, fdiv_int, mod_int, neg_int, lt_int, le_int, gt_int, ge_int, eq_int, ne_int, eq_str, ne_str, is_bl, isnot_bl, abs_int, int_int, int_bl, bool_bl, max_int, min_int, gcd_int, len_lst, len_tup, tuple_lst, sub_lst, sub_tup, items_lst, items_tup, add_lst, add_tup, add_str, rev_lst, newLst_f, newLst_t, end_nx,
    List.map_cons, List.map_nil, List.length_cons, List.length_nil, List.replicate_succ, List.replicate_zero, List.cons_append, List.nil_append, List.append_nil, List.getElem?_cons_zero, List.getElem?_cons_succ, List.set_cons_zero, List.set_cons_succ, List.reverse_cons, List.reverse_nil, Option.map_some, Option.map_none,
    ev_ext, ev_fstr, ev_meth, meth_obj, fld_obj, prop_obj, own2_obj, own2_int, ownU_obj, ownC_int, bool_int, eq_bl, ne_bl, eqEnd_eq, eqEnd_ne, isC_obj, isC_non, isC_bl, isC_int, isC_str, isC_tup, isC_lst, isC_dct, ownB_str, strEnd_str, ownB_bool, blEnd_bl, ext_mk, mkEnd_1, mkEnd_2, mkEnd_3, mkEnd_4, mkEnd_5, Nat.reduceLT, ex_setA, setA_last, ofO_some,
    if_true, if_false, Bool.false_eq_true, Bool.not_true, Bool.not_false, decide_true, decide_false, Bool.and_true, Bool.true_and, Bool.false_and, Bool.and_false, Bool.or_true, Bool.true_or, Bool.or_false, Bool.false_or, Nat.zero_add, Nat.reduceAdd, reduceCtorEq, reduceIte, i0, i1, z2, hq, hc, ht, hb, hw3, w3, hd, hm, hne, hsh']
        · rw [if_neg (by simpa using hq)] at hc1
          subst hc1
          simp -implicitDefEqProofs only [exs_nil, exs_cons, ex_pass, ex_brk, ex_cnt, ex_doc, ex_expr, ex_ret, ex_retN, ex_asg, ex_par, ex_setI, ex_aug, ex_ite, ex_whl, ex_for, ex_raise, ex_try,
    ev_con, ev_glob, ev_var, ev_bin, ev_un, ev_cmp, ev_chain, ev_and, ev_or, ev_not, ev_ife, ev_tup, ev_lst, ev_sub, ev_slice, ev_rev, ev_dct0, ev_call, ev_blt, ev_isi, ev_mth, ev_comp, ev_fz, evs_nil, evs_cons, evi_val, evi_range, evo_no, evo_var, evo_con, evo_bin, evo_un, evoK_int, slice_lst, slice_tup, compG_nm, compG_tp, compO_some, compB, noR_ok, wipe_nil, wipe_cons, evt_eq,
    bnd_ok, bnd_raise, andS_ok, andS_raise, seq_nx, seq_ret, seq_raise, seq_brk, seq_cnt, ofO_some, nxO_some, nxS_some, try_raise, try_ret, try_nx, asgT_nm, asgT_tp, setAll_nil, setAll_cons,
    tru_bl, tru_int, tru_non, tru_lst, tru_tup, add_int, sub_int, mul_int, fdiv_int, mod_int, neg_int, lt_int, le_int, gt_int, ge_int, eq_int, ne_int, eq_str, ne_str, is_bl, isnot_bl, abs_int, int_int, int_bl, bool_bl, max_int, min_int, gcd_int, len_lst, len_tup, tuple_lst, sub_lst, sub_tup, items_lst, items_tup, add_lst, add_tup, add_str, rev_lst, newLst_f, newLst_t, end_nx,
    List.map_cons, List.map_nil, List.length_cons, List.length_nil, List.replicate_succ, List.replicate_zero, List.cons_append, List.nil_append, List.append_nil, List.getElem?_cons_zero, List.getElem?_cons_succ, List.set_cons_zero, List.set_cons_succ, List.reverse_cons, List.reverse_nil, Option.map_some, Option.map_none,
    ev_ext, ev_fstr, ev_meth, meth_obj, fld_obj, prop_obj, own2_obj, own2_int, ownU_obj, ownC_int, bool_int, eq_bl, ne_bl, eqEnd_eq, eqEnd_ne, isC_obj, isC_non, isC_bl, isC_int, isC_str, isC_tup, isC_lst, isC_dct, ownB_str, strEnd_str, ownB_bool, blEnd_bl, ext_mk, mkEnd_1, mkEnd_2, mkEnd_3, mkEnd_4, mkEnd_5, Nat.reduceLT, ex_setA, setA_last, ofO_some,
    if_true, if_false, Bool.false_eq_true, Bool.not_true, Bool.not_false, decide_true, decide_false, Bool.and_true, Bool.true_and, Bool.false_and, Bool.and_false, Bool.or_true, Bool.true_or, Bool.or_false, Bool.false_or, Nat.zero_add, Nat.reduceAdd, reduceCtorEq, reduceIte, i0, i1, z2, hq, hc, ht, hb, hw3, w3, hd, hm, hne, hsh']
theorem p300 : (2 : Nat) ^ 300 = 2037035976334486086268445688409378161051468393665936250636140449354381299763336706183397376 := by decide
theorem long_le {a : Int} (h0 : -(10 ^ 59) ≤ a) (h1 : a ≤ 10 ^ 59) : a.natAbs < 2 ^ 300 ∧ -big < a ∧ a < big := by
  rw [p59v] at h0 h1
  rw [p300, bigv]
  omega
theorem turn_row {r k i : Nat} {f : D} {T B : Int} {x5 x6 x7 x8 x9 : Option D} {st : Store} (hu : Urn k r st) (hk : k + 10 < 2 ^ 60) (hl : Low T B) {N : Nat} (hN : N ≤ 3000) (h1 : T.natAbs < 2 ^ N) (h2 : B.natAbs < 2 ^ N) :
    ∃ T' B' y5 y6 y7 y8 y9 st', Low T' B' ∧ T'.natAbs < 2 ^ (N + 310) ∧ B'.natAbs < 2 ^ (N + 310) ∧ Urn (k + 10) r st' ∧ st.length ≤ st'.length ∧
      execs xm l1__law_row_right [some (.ref r), some f, some (rt T B), some (.tup [.int T, .int B]), some (.int (i : Int)), x5, x6, x7, x8, x9] st
        = .nx [some (.ref r), some f, some (rt T' B'), some (.tup [.int T', .int B']), some (.int (i : Int)), y5, y6, y7, y8, y9] st' := by
  obtain ⟨w, st1, e1, w0, w1, u1, l1⟩ := take_small hu (by omega) (t := 6) (by decide) (by decide)
  obtain ⟨a, b, st2, e2, a0, a1, b0, b1, bn, u2, l2⟩ := pair_at u1 (by omega)
  obtain ⟨c, st3, e3, c0, c1, u3, l3⟩ := take_small u2 (by omega) (t := 3) (by decide) (by decide)
  obtain ⟨ha, ha0, ha1⟩ := long_le a0 a1
  obtain ⟨hb, hb0, hb1⟩ := long_le b0 b1
  have i0 : ∀ a b : D, L2.atI [a, b] 0 = some a := fun _ _ => rfl
  have i1 : ∀ a b : D, L2.atI [a, b] 1 = some b := fun _ _ => rfl
  have z2 : szOk 2 = true := by decide
  have z4 : szOk 4 = true := by decide
  have s1 : exec xm (hd l1__law_row_right) [some (.ref r), some f, some (rt T B), some (.tup [.int T, .int B]), some (.int (i : Int)), x5, x6, x7, x8, x9] st = .nx [some (.ref r), some f, some (rt T B), some (.tup [.int T, .int B]), some (.int (i : Int)), some (.int w), some (.tup [.int a, .int b]), x7, x8, x9] st2 := by
    simp only [l1__law_row_right, hd]
    simp -implicitDefEqProofs only [exs_nil, exs_cons, ex_pass, ex_brk, ex_cnt, ex_doc, ex_expr, ex_ret, ex_retN, ex_asg, ex_par, ex_setI, ex_aug, ex_ite, ex_whl, ex_for, ex_raise, ex_try,
    ev_con, ev_glob, ev_var, ev_bin, ev_un, ev_cmp, ev_chain, ev_and, ev_or, ev_not, ev_ife, ev_tup, ev_lst, ev_sub, ev_slice, ev_rev, ev_dct0, ev_call, ev_blt, ev_isi, ev_mth, ev_comp, ev_fz, evs_nil, evs_cons, evi_val, evi_range, evo_no, evo_var, evo_con, evo_bin, evo_un, evoK_int, slice_lst, slice_tup, compG_nm, compG_tp, compO_some, compB, noR_ok, wipe_nil, wipe_cons, evt_eq,
    bnd_ok, bnd_raise, andS_ok, andS_raise, seq_nx, seq_ret, seq_raise, seq_brk, seq_cnt, ofO_some, nxO_some, nxS_some, try_raise, try_ret, try_nx, asgT_nm, asgT_tp, setAll_nil, setAll_cons,
    tru_bl, tru_int, tru_non, tru_lst, tru_tup, add_int, sub_int, mul_int, fdiv_int, mod_int, neg_int, lt_int, le_int, gt_int, ge_int, eq_int, ne_int, eq_str, ne_str, is_bl, isnot_bl, abs_int, int_int, int_bl, bool_bl, max_int, min_int, gcd_int, len_lst, len_tup, tuple_lst, sub_lst, sub_tup, items_lst, items_tup, add_lst, add_tup, add_str, rev_lst, newLst_f, newLst_t, end_nx,
    List.map_cons, List.map_nil, List.length_cons, List.length_nil, List.replicate_succ, List.replicate_zero, List.cons_append, List.nil_append, List.append_nil, List.getElem?_cons_zero, List.getElem?_cons_succ, List.set_cons_zero, List.set_cons_succ, List.reverse_cons, List.reverse_nil, Option.map_some, Option.map_none,
    ev_ext, ev_fstr, ev_meth, meth_obj, fld_obj, prop_obj, own2_obj, own2_int, ownU_obj, ownC_int, bool_int, eq_bl, ne_bl, eqEnd_eq, eqEnd_ne, isC_obj, isC_non, isC_bl, isC_int, isC_str, isC_tup, isC_lst, isC_dct, ownB_str, strEnd_str, ownB_bool, blEnd_bl, ext_mk, mkEnd_1, mkEnd_2, mkEnd_3, mkEnd_4, mkEnd_5, Nat.reduceLT, ex_setA, setA_last, ofO_some,
    if_true, if_false, Bool.false_eq_true, Bool.not_true, Bool.not_false, decide_true, decide_false, Bool.and_true, Bool.true_and, Bool.false_and, Bool.and_false, Bool.or_true, Bool.true_or, Bool.or_false, Bool.false_or, Nat.zero_add, Nat.reduceAdd, reduceCtorEq, reduceIte, e1, e2]
  have s2 : ∃ x P Q t b' st4, More x P Q t b' ∧ Urn (k + 10) r st4 ∧ st.length ≤ st4.length ∧ exec xm (hd (tl l1__law_row_right)) [some (.ref r), some f, some (rt T B), some (.tup [.int T, .int B]), some (.int (i : Int)), some (.int w), some (.tup [.int a, .int b]), x7, x8, x9] st2 = .nx [some (.ref r), some f, some (rt T B), some (.tup [.int T, .int B]), some (.int (i : Int)), some (.int w), some (.tup [.int P, .int Q]), x7, some x, x9] st4 := by
    by_cases hc : c = 0
    · subst hc
      have m1 : mulOk a (10 ^ 30) = true := mul_ok 300 300 ha (by decide) (by decide) (by decide) (by decide)
      obtain ⟨y, st4, e4, hy, u4, l4⟩ := some_at u3 (by omega) [.int a, .int 0, .int 1, .int (a * 10 ^ 30)] (by simp) (by simp) (by simp [noRef])
      obtain ⟨v, rfl, hv⟩ : ∃ v : Int, y = .int v ∧ v.natAbs < 2 ^ 300 := by
        simp only [List.mem_cons, List.mem_nil_iff, or_false] at hy
        rcases hy with rfl | rfl | rfl | rfl
        · exact ⟨_, rfl, ha⟩
        · exact ⟨_, rfl, by decide⟩
        · exact ⟨_, rfl, by decide⟩
        · refine ⟨_, rfl, ?_⟩
          rw [p30v, p300]
          rw [p59v] at a0 a1
          omega
      refine ⟨.int v, v, 1, v, 1, st4, .int hv, u4.mono (by omega), by omega, ?_⟩
      simp only [l1__law_row_right, hd, tl]
      simp -implicitDefEqProofs only [exs_nil, exs_cons, ex_pass, ex_brk, ex_cnt, ex_doc, ex_expr, ex_ret, ex_retN, ex_asg, ex_par, ex_setI, ex_aug, ex_ite, ex_whl, ex_for, ex_raise, ex_try,
    ev_con, ev_glob, ev_var, ev_bin, ev_un, ev_cmp, ev_chain, ev_and, ev_or, ev_not, ev_ife, ev_tup, ev_lst, ev_sub, ev_slice, ev_rev, ev_dct0, ev_call, ev_blt, ev_isi, ev_mth, ev_comp, ev_fz, evs_nil, evs_cons, evi_val, evi_range, evo_no, evo_var, evo_con, evo_bin, evo_un, evoK_int, slice_lst, slice_tup, compG_nm, compG_tp, compO_some, compB, noR_ok, wipe_nil, wipe_cons, evt_eq,
    bnd_ok, bnd_raise, andS_ok, andS_raise, seq_nx, seq_ret, seq_raise, seq_brk, seq_cnt, ofO_some, nxO_some, nxS_some, try_raise, try_ret, try_nx, asgT_nm, asgT_tp, setAll_nil, setAll_cons,
    tru_bl, tru_int, tru_non, tru_lst, tru_tup, add_int, sub_int, mul_int, fdiv_int, mod_int, neg_int, lt_int, le_int, gt_int, ge_int, eq_int, ne_int, eq_str, ne_str, is_bl, isnot_bl, abs_int, int_int, int_bl, bool_bl, max_int, min_int, gcd_int, len_lst, len_tup, tuple_lst, sub_lst, sub_tup, items_lst, items_tup, add_lst, add_tup, add_str, rev_lst, newLst_f, newLst_t, end_nx,
    List.map_cons, List.map_nil, List.length_cons, List.length_nil, List.replicate_succ, List.replicate_zero, List.cons_append, List.nil_append, List.append_nil, List.getElem?_cons_zero, List.getElem?_cons_succ, List.set_cons_zero, List.set_cons_succ, List.reverse_cons, List.reverse_nil, Option.map_some, Option.map_none,
    ev_ext, ev_fstr, ev_meth, meth_obj, fld_obj, prop_obj, own2_obj, own2_int, ownU_obj, ownC_int, bool_int, eq_bl, ne_bl, eqEnd_eq, eqEnd_ne, isC_obj, isC_non, isC_bl, isC_int, isC_str, isC_tup, isC_lst, isC_dct, ownB_str, strEnd_str, ownB_bool, blEnd_bl, ext_mk, mkEnd_1, mkEnd_2, mkEnd_3, mkEnd_4, mkEnd_5, Nat.reduceLT, ex_setA, setA_last, ofO_some,
    if_true, if_false, Bool.false_eq_true, Bool.not_true, Bool.not_false, decide_true, decide_false, Bool.and_true, Bool.true_and, Bool.false_and, Bool.and_false, Bool.or_true, Bool.true_or, Bool.or_false, Bool.false_or, Nat.zero_add, Nat.reduceAdd, reduceCtorEq, reduceIte, e3, beq_self_eq_true, i0, i1, z2, z4, p10_30, m1, e4]
    · have c0' : (c == 0) = false := by simp [hc]
      have hmk := mk_rt ha0 ha1 hb0 hb1 bn
      refine ⟨rt (lwT a b) (lwB a b), a, b, _, _, st3 ++ [.dead], .rt bn ha hb, (u3.app _).mono (by omega), by simp; omega, ?_⟩
      simp only [l1__law_row_right, hd, tl]
      simp -implicitDefEqProofs only [exs_nil, exs_cons, ex_pass, ex_brk, ex_cnt, ex_doc, ex_expr, ex_ret, ex_retN, ex_asg, ex_par, ex_setI, ex_aug, ex_ite, ex_whl, ex_for, ex_raise, ex_try,
    ev_con, ev_glob, ev_var, ev_bin, ev_un, ev_cmp, ev_chain, ev_and, ev_or, ev_not, ev_ife, ev_tup, ev_lst, ev_sub, ev_slice, ev_rev, ev_dct0, ev_call, ev_blt, ev_isi, ev_mth, ev_comp, ev_fz, evs_nil, evs_cons, evi_val, evi_range, evo_no, evo_var, evo_con, evo_bin, evo_un, evoK_int, slice_lst, slice_tup, compG_nm, compG_tp, compO_some, compB, noR_ok, wipe_nil, wipe_cons, evt_eq,
    bnd_ok, bnd_raise, andS_ok, andS_raise, seq_nx, seq_ret, seq_raise, seq_brk, seq_cnt, ofO_some, nxO_some, nxS_some, try_raise, try_ret, try_nx, asgT_nm, asgT_tp, setAll_nil, setAll_cons,
    tru_bl, tru_int, tru_non, tru_lst, tru_tup, add_int, sub_int, mul_int, fdiv_int, mod_int, neg_int, lt_int, le_int, gt_int, ge_int, eq_int, ne_int, eq_str, ne_str, is_bl, isnot_bl, abs_int, int_int, int_bl, bool_bl, max_int, min_int, gcd_int, len_lst, len_tup, tuple_lst, sub_lst, sub_tup, items_lst, items_tup, add_lst, add_tup, add_str, rev_lst, newLst_f, newLst_t, end_nx,
    List.map_cons, List.map_nil, List.length_cons, List.length_nil, List.replicate_succ, List.replicate_zero, List.cons_append, List.nil_append, List.append_nil, List.getElem?_cons_zero, List.getElem?_cons_succ, List.set_cons_zero, List.set_cons_succ, List.reverse_cons, List.reverse_nil, Option.map_some, Option.map_none,
    ev_ext, ev_fstr, ev_meth, meth_obj, fld_obj, prop_obj, own2_obj, own2_int, ownU_obj, ownC_int, bool_int, eq_bl, ne_bl, eqEnd_eq, eqEnd_ne, isC_obj, isC_non, isC_bl, isC_int, isC_str, isC_tup, isC_lst, isC_dct, ownB_str, strEnd_str, ownB_bool, blEnd_bl, ext_mk, mkEnd_1, mkEnd_2, mkEnd_3, mkEnd_4, mkEnd_5, Nat.reduceLT, ex_setA, setA_last, ofO_some,
    if_true, if_false, Bool.false_eq_true, Bool.not_true, Bool.not_false, decide_true, decide_false, Bool.and_true, Bool.true_and, Bool.false_and, Bool.and_false, Bool.or_true, Bool.true_or, Bool.or_false, Bool.false_or, Nat.zero_add, Nat.reduceAdd, reduceCtorEq, reduceIte, -ext_mk, e3, c0', i0, i1, hmk]
  obtain ⟨x, P, Q, t, b', st4, hm, u4, l4, s2⟩ := s2
  obtain ⟨T', B', y7, y9, hl', g1, g2, s3⟩ := rest_turn (r := r) (f := f) (x4 := some (.int (i : Int))) (x7 := x7) (x9 := x9) hl hN h1 h2 hm ⟨w0, w1⟩ st4
  refine ⟨T', B', some (.int w), some (.tup [.int P, .int Q]), y7, some x, y9, st4, hl', g1, g2, u4, l4, ?_⟩
  rw [exs_hd rfl, s1, seq_nx, exs_hd (by rfl), s2, seq_nx, s3]
theorem row_right {k r : Nat} {st : Store} (hu : Urn k r st) (hk : k + 200 < 2 ^ 60) :
    ∃ st', sm__law_row_right [.ref r] st = .ok (.bl true) st' ∧ Urn (k + 200) r st' := by
  obtain ⟨a, b, st1, e1, a0, a1, b0, b1, bn, u1, l1⟩ := pair_at hu (by omega)
  obtain ⟨ha, ha0, ha1⟩ := long_le a0 a1
  obtain ⟨hb, hb0, hb1⟩ := long_le b0 b1
  have i0 : ∀ a b : D, L2.atI [a, b] 0 = some a := fun _ _ => rfl
  have i1 : ∀ a b : D, L2.atI [a, b] 1 = some b := fun _ _ => rfl
  have hmk := mk_rt ha0 ha1 hb0 hb1 bn
  have hlow := low_at (a := a) bn (small_le hb (by decide)) (st1 ++ [.dead])
  have g1 : (lwT a b).natAbs < 2 ^ 300 := Nat.lt_of_le_of_lt (lw_le bn).1 ha
  have g2 : (lwB a b).natAbs < 2 ^ 300 := Nat.lt_of_le_of_lt (lw_le bn).2 hb
  have hsh := shows_at (small_le g1 (by decide)) (small_le g2 (by decide)) (st1 ++ [.dead])
  obtain ⟨w, st2, e2, w0, w1, u2, l2⟩ := take_small (u1.app [.dead]) (by omega) (t := 8) (by decide) (by decide)
  obtain ⟨n, hn, n8⟩ : ∃ n : Nat, 1 + w = (n : Int) ∧ n ≤ 8 := ⟨(1 + w).toNat, by omega, by omega⟩
  have hr := range_k (k := n) (by omega)
  obtain ⟨σ', st', e3, T, B, x4, x5, x6, x7, x8, x9, rfl, hl, q1, q2, u3, l3⟩ := range_inv (v := 4) (b := execs xm l1__law_row_right)
    (fun i σ st' => ∃ T B x4 x5 x6 x7 x8 x9, σ = [some (.ref r), some (.tup [.int a, .int b]), some (rt T B), some (.tup [.int T, .int B]), x4, x5, x6, x7, x8, x9] ∧ Low T B ∧ T.natAbs < 2 ^ (300 + 310 * i) ∧ B.natAbs < 2 ^ (300 + 310 * i) ∧ Urn (k + 20 + 10 * i) r st' ∧ st2.length ≤ st'.length) n (by omega)
    (by
      rintro i σ st4 hi ⟨T, B, x4, x5, x6, x7, x8, x9, rfl, hl, q1, q2, u3, l3⟩
      obtain ⟨T', B', y5, y6, y7, y8, y9, st5, hl', r1, r2, u5, l5, e5⟩ := turn_row (i := i) (f := .tup [.int a, .int b]) (x5 := x5) (x6 := x6) (x7 := x7) (x8 := x8) (x9 := x9) u3 (by omega) hl (N := 300 + 310 * i) (by omega) q1 q2
      refine .inl ⟨_, st5, e5, T', B', _, y5, y6, y7, y8, y9, rfl, hl', ?_, ?_, u5.mono (by omega), by omega⟩
      · rw [show 300 + 310 * (i + 1) = 300 + 310 * i + 310 by omega]; exact r1
      · rw [show 300 + 310 * (i + 1) = 300 + 310 * i + 310 by omega]; exact r2)
    [some (.ref r), some (.tup [.int a, .int b]), some (rt (lwT a b) (lwB a b)), some (.tup [.int (lwT a b), .int (lwB a b)]), none, none, none, none, none, none] st2 ⟨_, _, none, none, none, none, none, none, rfl, lw_low bn, g1, g2, u2.mono (by omega), Nat.le_refl _⟩
  have q1' := small_le q1 (show 300 + 310 * n ≤ 3500 by omega)
  have q2' := small_le q2 (show 300 + 310 * n ≤ 3500 by omega)
  have B0 : B ≠ 0 := by have := hl.pos; omega
  have hone := mk_rt1 (a := 1) (by decide) (by decide)
  have hz := mk_rt (a := 0) (b := 7) (by decide) (by decide) (by decide) (by decide) (by decide)
  obtain ⟨zz1, zz2⟩ := lw_eq (a := 0) (b := 7) (T := 0) (B := 1) (by decide) ⟨by decide, by decide⟩ (by decide)
  rw [zz1, zz2] at hz
  have hmul := fun st => mul_at (Opd.rt 1 1) q1' q2' (by decide) (by decide) B0 (by decide) st
  rw [Int.mul_one, Int.mul_one, (low_lw hl).1, (low_lw hl).2] at hmul
  have hsub := fun st => sub_at (Opd.rt T B) q1' q2' q1' q2' B0 B0 st
  obtain ⟨s1, s2⟩ := lw_eq (a := T * B - T * B) (b := B * B) (T := 0) (B := 1) (Int.mul_ne_zero B0 B0) ⟨by decide, by decide⟩ (by omega)
  rw [s1, s2] at hsub
  have heq := fun st => eq_rt T B T B st
  have heq0 := fun st => eq_rt 0 1 0 1 st
  have o1 := fun st fs a gs => ownC_obj st .eq 1 a fs (y := .obj 1 gs) rfl
  refine ⟨closeSt st (st' ++ [.dead, .dead]), ?_, ((u3.app _).mono (by omega)).close hu.lt⟩
  rw [sm__law_row_right, callD_eq xm 1 9 _ [.ref r] _ rfl, b__law_row_right]
  unfold rt at *
  simp -implicitDefEqProofs only [exs_nil, exs_cons, ex_pass, ex_brk, ex_cnt, ex_doc, ex_expr, ex_ret, ex_retN, ex_asg, ex_par, ex_setI, ex_aug, ex_ite, ex_whl, ex_for, ex_raise, ex_try,
    ev_con, ev_glob, ev_var, ev_bin, ev_un, ev_cmp, ev_chain, ev_and, ev_or, ev_not, ev_ife, ev_tup, ev_lst, ev_sub, ev_slice, ev_rev, ev_dct0, ev_call, ev_blt, ev_isi, ev_mth, ev_comp, ev_fz, evs_nil, evs_cons, evi_val, evi_range, evo_no, evo_var, evo_con, evo_bin, evo_un, evoK_int, slice_lst, slice_tup, compG_nm, compG_tp, compO_some, compB, noR_ok, wipe_nil, wipe_cons, evt_eq,
    bnd_ok, bnd_raise, andS_ok, andS_raise, seq_nx, seq_ret, seq_raise, seq_brk, seq_cnt, ofO_some, nxO_some, nxS_some, try_raise, try_ret, try_nx, asgT_nm, asgT_tp, setAll_nil, setAll_cons,
    tru_bl, tru_int, tru_non, tru_lst, tru_tup, add_int, sub_int, mul_int, fdiv_int, mod_int, neg_int, lt_int, le_int, gt_int, ge_int, eq_int, ne_int, eq_str, ne_str, is_bl, isnot_bl, abs_int, int_int, int_bl, bool_bl, max_int, min_int, gcd_int, len_lst, len_tup, tuple_lst, sub_lst, sub_tup, items_lst, items_tup, add_lst, add_tup, add_str, rev_lst, newLst_f, newLst_t, end_nx,
    List.map_cons, List.map_nil, List.length_cons, List.length_nil, List.replicate_succ, List.replicate_zero, List.cons_append, List.nil_append, List.append_nil, List.getElem?_cons_zero, List.getElem?_cons_succ, List.set_cons_zero, List.set_cons_succ, List.reverse_cons, List.reverse_nil, Option.map_some, Option.map_none,
    ev_ext, ev_fstr, ev_meth, meth_obj, fld_obj, prop_obj, own2_obj, own2_int, ownU_obj, ownC_int, bool_int, eq_bl, ne_bl, eqEnd_eq, eqEnd_ne, isC_obj, isC_non, isC_bl, isC_int, isC_str, isC_tup, isC_lst, isC_dct, ownB_str, strEnd_str, ownB_bool, blEnd_bl, ext_mk, mkEnd_1, mkEnd_2, mkEnd_3, mkEnd_4, mkEnd_5, Nat.reduceLT, ex_setA, setA_last, ofO_some,
    if_true, if_false, Bool.false_eq_true, Bool.not_true, Bool.not_false, decide_true, decide_false, Bool.and_true, Bool.true_and, Bool.false_and, Bool.and_false, Bool.or_true, Bool.true_or, Bool.or_false, Bool.false_or, Nat.zero_add, Nat.reduceAdd, reduceCtorEq, reduceIte, -ext_mk, e1, i0, i1, hmk, hlow, hsh, e2, hn, hr, e3, hone, hz, hmul, hsub, o1, heq, heq0, beq_self_eq_true]
  rw [end_ret rfl]
  simp only [List.append_assoc, List.cons_append, List.nil_append]
end L02
set_option Elab.async false
set_option linter.all false
set_option maxRecDepth 100000
set_option maxHeartbeats 4000000
set_option exponentiation.threshold 20000
namespace L02
open Ip
open PySem (Str)
/-! ### what is refused -/
theorem sameSt_refl : ∀ st : Store, sameSt st st = true
  | [] => rfl
  | c :: r => by rw [sameSt, sameC_self, sameSt_refl r]; rfl
theorem shown_rt {T B : Int} (h1 : T.natAbs < 2 ^ 8000) (h2 : B.natAbs < 2 ^ 8000) : Shown (rt T B) where
  isi := by simp [rt, isiD]
  mkx := fun st => by
    have e := str_rt h1 h2 st
    unfold rt at *
    have h0 : mkStr 1 [.obj 1 [.int B, .int T]] st = none := by simp [mkStr, strD, reprD]
    have h3 : mkOwn 1 1 ⟨7, [], sm_Ratio_str_⟩ [.obj 1 [.int B, .int T]] st = some ⟨1, [.obj 1 [.int B, .int T]]⟩ := by
      simp only [mkOwn, if_true, e, sameSt_refl]
    simp only [mk_InvalidNumber, mkAlt, h0, h3]
  pure := by simp [rt, noRef, noRefs]
/-- a wrong operand, and how it is shown -/
structure Wr (x : D) (t : Str) : Prop where
  isi : isiD .int x ≠ none
  dep : depthD (.lst [x]) ≤ 60
  rep : reprD x = some t
  str : (strD x).isSome = true
  pure : noRef x = true
  rl : (reprD (.lst [x])).isSome = true
theorem Wr.shown {x : D} {t : Str} (h : Wr x t) : Shown x := shown_of h.isi (by have := h.dep; simp [depthD, depthDs] at this; omega) h.str h.pure
theorem Wr.at {x : D} {t : Str} (h : Wr x t) (st : Store) : bltD .repr st [x] = some (.str t) := by
  have h1 : depthD x ≤ 60 := by have := h.dep; simp [depthD, depthDs] at this; omega
  simp only [bltD, if_pos h1, h.rep, Option.map_some]
theorem Wr.at1 {x : D} {t : Str} (h : Wr x t) : ∃ u : Str, ∀ st, bltD .repr st [.lst [x]] = some (.str u) := by
  obtain ⟨u, hu⟩ := Option.isSome_iff_exists.mp h.rl
  exact ⟨u, fun st => by simp only [bltD, if_pos h.dep, hu, Option.map_some]⟩
theorem wr_non : Wr .non "None" := ⟨by simp [isiD], by decide, by decide +kernel, by decide +kernel, rfl, by decide +kernel⟩
theorem wr_true : Wr (.bl true) "True" := ⟨by simp [isiD], by decide, by decide +kernel, by decide +kernel, rfl, by decide +kernel⟩
theorem wr_false : Wr (.bl false) "False" := ⟨by simp [isiD], by decide, by decide +kernel, by decide +kernel, rfl, by decide +kernel⟩
theorem wr_s1 : Wr (.str "1") "'1'" := ⟨by simp [isiD], by decide, by decide +kernel, by decide +kernel, rfl, by decide +kernel⟩
theorem wr_s2 : Wr (.str "2") "'2'" := ⟨by simp [isiD], by decide, by decide +kernel, by decide +kernel, rfl, by decide +kernel⟩
theorem wr_s3 : Wr (.str "3") "'3'" := ⟨by simp [isiD], by decide, by decide +kernel, by decide +kernel, rfl, by decide +kernel⟩
theorem wr_t12 : Wr (.tup [.int 1, .int 2]) "(1, 2)" := ⟨by simp [isiD], by decide, by decide +kernel, by decide +kernel, rfl, by decide +kernel⟩
theorem wr_t1 : Wr (.tup [.int 1]) "(1,)" := ⟨by simp [isiD], by decide, by decide +kernel, by decide +kernel, rfl, by decide +kernel⟩
theorem wr_l3 : Wr (.lst [.int 3]) "[3]" := ⟨by simp [isiD], by decide, by decide +kernel, by decide +kernel, rfl, by decide +kernel⟩
theorem wr_l0 : Wr (.lst [.int 0]) "[0]" := ⟨by simp [isiD], by decide, by decide +kernel, by decide +kernel, rfl, by decide +kernel⟩
theorem wr_d : Wr (.dct [] []) "{}" := ⟨by simp [isiD], by decide, by decide +kernel, by decide +kernel, rfl, by decide +kernel⟩
theorem wr_0 : Wr (.int 0) "0" := ⟨by simp [isiD], by decide, by decide +kernel, by decide +kernel, rfl, by decide +kernel⟩
theorem wr_g : Wr (.int (10 ^ 60)) "1000000000000000000000000000000000000000000000000000000000000" := ⟨by simp [isiD], by decide, by decide +kernel, by decide +kernel, rfl, by decide +kernel⟩
theorem wr_h : Wr (.int (0 - 10 ^ 60)) "-1000000000000000000000000000000000000000000000000000000000000" := ⟨by simp [isiD], by decide, by decide +kernel, by decide +kernel, rfl, by decide +kernel⟩
theorem wr_gg : Wr (.int (10 ^ 60 * 10 ^ 39)) "1000000000000000000000000000000000000000000000000000000000000000000000000000000000000000000000000000" := ⟨by simp [isiD], by decide, by decide +kernel, by decide +kernel, rfl, by decide +kernel⟩
theorem errs_run {T B : Int} {x : D} {t : Str} (h : Wr x t) (hw : isWhole x = false) (hc : isCD 1 x = some false) (hl : szOk (("number " : Str).length + t.length) = true) (σ : EnvD) (s1 : σ[1]? = some (some (rt T B))) (s2 : σ[2]? = some (some x)) (h3 : 3 < σ.length) (st : Store) :
    compRun (compG [3] (.nm 3) (.con (.bl true)) e1__law_wrong_right σ) (.seq [.int 3, .int 4]) fuelD 0 [] st = .ok [.str ("number " ++ t), .str ("number " ++ t)] st := by
  have W : Wrong x := { toShown := h.shown, whole := hw, cd := hc, rep := ⟨t, h.at⟩ }
  rw [comp_map (fun _ => .str ("number " ++ t)) [.int 3, .int 4] _ (by simp)]
  · rfl
  · intro y hy
    obtain ⟨w, rfl, hw'⟩ : ∃ w : Int, y = .int w ∧ (w = 3 ∨ w = 4) := by
      simp only [List.mem_cons, List.mem_nil_iff, or_false] at hy
      rcases hy with rfl | rfl
      · exact ⟨3, rfl, .inl rfl⟩
      · exact ⟨4, rfl, .inr rfl⟩
    have e := wrong_error (T := T) (B := B) hw' W h.at hl st
    have t1 : ((σ.set 3 none).set 3 (some (.int w)))[1]? = some (some (rt T B)) := by
      rw [List.getElem?_set_ne (by decide), List.getElem?_set_ne (by decide)]; exact s1
    have t2 : ((σ.set 3 none).set 3 (some (.int w)))[2]? = some (some x) := by
      rw [List.getElem?_set_ne (by decide), List.getElem?_set_ne (by decide)]; exact s2
    have t3 : ((σ.set 3 none).set 3 (some (.int w)))[3]? = some (some (.int w)) := by
      rw [List.getElem?_set_self (by simpa using h3)]
    rw [compG_nm, wipe_cons, wipe_nil]
    generalize (σ.set 3 none).set 3 (some (.int w)) = σ' at t1 t2 t3
    rw [e1__law_wrong_right]
    simp -implicitDefEqProofs only [exs_nil, exs_cons, ex_pass, ex_brk, ex_cnt, ex_doc, ex_expr, ex_ret, ex_retN, ex_asg, ex_par, ex_setI, ex_aug, ex_ite, ex_whl, ex_for, ex_raise, ex_try,
    ev_con, ev_glob, ev_var, ev_bin, ev_un, ev_cmp, ev_chain, ev_and, ev_or, ev_not, ev_ife, ev_tup, ev_lst, ev_sub, ev_slice, ev_rev, ev_dct0, ev_call, ev_blt, ev_isi, ev_mth, ev_comp, ev_fz, evs_nil, evs_cons, evi_val, evi_range, evo_no, evo_var, evo_con, evo_bin, evo_un, evoK_int, slice_lst, slice_tup, compG_nm, compG_tp, compO_some, compB, noR_ok, wipe_nil, wipe_cons, evt_eq,
    bnd_ok, bnd_raise, andS_ok, andS_raise, seq_nx, seq_ret, seq_raise, seq_brk, seq_cnt, ofO_some, nxO_some, nxS_some, try_raise, try_ret, try_nx, asgT_nm, asgT_tp, setAll_nil, setAll_cons,
    tru_bl, tru_int, tru_non, tru_lst, tru_tup, add_int, sub_int, mul_int, fdiv_int, mod_int, neg_int, lt_int, le_int, gt_int, ge_int, eq_int, ne_int, eq_str, ne_str, is_bl, isnot_bl, abs_int, int_int, int_bl, bool_bl, max_int, min_int, gcd_int, len_lst, len_tup, tuple_lst, sub_lst, sub_tup, items_lst, items_tup, add_lst, add_tup, add_str, rev_lst, newLst_f, newLst_t, end_nx,
    List.map_cons, List.map_nil, List.length_cons, List.length_nil, List.replicate_succ, List.replicate_zero, List.cons_append, List.nil_append, List.append_nil, List.getElem?_cons_zero, List.getElem?_cons_succ, List.set_cons_zero, List.set_cons_succ, List.reverse_cons, List.reverse_nil, Option.map_some, Option.map_none,
    ev_ext, ev_fstr, ev_meth, meth_obj, fld_obj, prop_obj, own2_obj, own2_int, ownU_obj, ownC_int, bool_int, eq_bl, ne_bl, eqEnd_eq, eqEnd_ne, isC_obj, isC_non, isC_bl, isC_int, isC_str, isC_tup, isC_lst, isC_dct, ownB_str, strEnd_str, ownB_bool, blEnd_bl, ext_mk, mkEnd_1, mkEnd_2, mkEnd_3, mkEnd_4, mkEnd_5, Nat.reduceLT, ex_setA, setA_last, ofO_some,
    if_true, if_false, Bool.false_eq_true, Bool.not_true, Bool.not_false, decide_true, decide_false, Bool.and_true, Bool.true_and, Bool.false_and, Bool.and_false, Bool.or_true, Bool.true_or, Bool.or_false, Bool.false_or, Nat.zero_add, Nat.reduceAdd, reduceCtorEq, reduceIte, t1, t2, t3, e]
theorem ne_two {t : Str} (h : PySem.PyData.strOk t = true) (st : Store) : cmpD .ne st (.lst [.str t, .str t]) (.lst [.str t, .str t]) = some false := by
  simp [cmpD, pureD, pureDs, eqD, eqDs, h]
theorem eqL_one {T B : Int} {a : Alt} {st : Store} (h : a.sm (rt T B :: rt T B :: a.dv) st = .ok (.bl true) st) : extD (.eqL .ne 1 a) [.lst [rt T B], .lst [rt T B]] st = .ok (.bl false) st := by
  have e : eqLs 1 a st [rt T B] [rt T B] = true := by
    simp only [eqLs, h, sameSt_refl, Bool.and_true]
    rfl
  simp only [extD, if_pos e, if_true]
theorem wrong_right {k r : Nat} {st : Store} (hu : Urn k r st) (hk : k + 10 < 2 ^ 60) :
    ∃ st', sm__law_wrong_right [.ref r] st = .ok (.bl true) st' ∧ Urn (k + 10) r st' := by
  obtain ⟨a, st1, e1, a0, a1, u1, l1⟩ := part_at hu (by omega)
  obtain ⟨ha, ha0, ha1⟩ := long_le a0 a1
  have hmk := mk_rt ha0 ha1 (b := 7) (by decide) (by decide) (by decide)
  obtain ⟨T, hT⟩ : ∃ T, lwT a 7 = T := ⟨_, rfl⟩
  obtain ⟨B, hB⟩ : ∃ B, lwB a 7 = B := ⟨_, rfl⟩
  have g1 : T.natAbs < 2 ^ 300 := by rw [← hT]; exact Nat.lt_of_le_of_lt (lw_le (by decide)).1 ha
  have g2 : B.natAbs < 2 ^ 300 := by rw [← hB]; exact Nat.lt_of_le_of_lt (lw_le (by decide)).2 (by decide)
  rw [hT, hB] at hmk
  obtain ⟨w, st2, e2, hw, u2, l2⟩ := some_at (u1.app [.dead]) (by omega) [.non, .str "1", .bl true, .tup [.int 1, .int 2], .lst [.int 3], .dct [] [], .bl false] (by simp) (by simp) (by simp [noRef, noRefs])
  obtain ⟨t, ww, w1, w2, w3, w4⟩ : ∃ t, Wr w t ∧ isWhole w = false ∧ isCD 1 w = some false ∧ szOk (("number " : Str).length + t.length) = true ∧ PySem.PyData.strOk ("number " ++ t) = true := by
    simp only [List.mem_cons, List.mem_nil_iff, or_false] at hw
    rcases hw with rfl | rfl | rfl | rfl | rfl | rfl | rfl
    · exact ⟨_, wr_non, rfl, rfl, by decide +kernel, by decide +kernel⟩
    · exact ⟨_, wr_s1, rfl, rfl, by decide +kernel, by decide +kernel⟩
    · exact ⟨_, wr_true, rfl, rfl, by decide +kernel, by decide +kernel⟩
    · exact ⟨_, wr_t12, rfl, rfl, by decide +kernel, by decide +kernel⟩
    · exact ⟨_, wr_l3, rfl, rfl, by decide +kernel, by decide +kernel⟩
    · exact ⟨_, wr_d, rfl, rfl, by decide +kernel, by decide +kernel⟩
    · exact ⟨_, wr_false, rfl, rfl, by decide +kernel, by decide +kernel⟩
  obtain ⟨g, st3, e3, hg, u3, l3⟩ := some_at u2 (by omega) [.int (10 ^ 60), .int (0 - 10 ^ 60), .non, .str "2", .bl true, .tup [.int 1], .lst [.int 0], .int (10 ^ 60 * 10 ^ 39)] (by simp) (by simp) (by simp [noRef, noRefs])
  obtain ⟨tg, wg, gi, gc⟩ : ∃ t, Wr g t ∧ isInt g = false ∧ isCD 0 g = some false := by
    simp only [List.mem_cons, List.mem_nil_iff, or_false] at hg
    rcases hg with rfl | rfl | rfl | rfl | rfl | rfl | rfl | rfl
    · exact ⟨_, wr_g, by decide, rfl⟩
    · exact ⟨_, wr_h, by decide, rfl⟩
    · exact ⟨_, wr_non, rfl, rfl⟩
    · exact ⟨_, wr_s2, rfl, rfl⟩
    · exact ⟨_, wr_true, rfl, rfl⟩
    · exact ⟨_, wr_t1, rfl, rfl⟩
    · exact ⟨_, wr_l0, rfl, rfl⟩
    · exact ⟨_, wr_gg, by decide, rfl⟩
  obtain ⟨q, st4, e4, hq, u4, l4⟩ := some_at u3 (by omega) [.int 0, .non, .int (10 ^ 60), .str "3", .bl false] (by simp) (by simp) (by simp [noRef, noRefs])
  obtain ⟨tq, wq, qi⟩ : ∃ t, Wr q t ∧ ∀ st, sm_lowest_told [.int 9, q] st = .raise ⟨1, [q]⟩ st := by
    have b9 : -big < 9 ∧ (9 : Int) < big := by decide
    simp only [List.mem_cons, List.mem_nil_iff, or_false] at hq
    rcases hq with rfl | rfl | rfl | rfl | rfl
    · exact ⟨_, wr_0, fun st => told_bad3 b9.1 b9.2 st⟩
    · exact ⟨_, wr_non, fun st => told_bad2 b9.1 b9.2 wr_non.shown rfl st⟩
    · exact ⟨_, wr_g, fun st => told_bad2 b9.1 b9.2 wr_g.shown (by decide) st⟩
    · exact ⟨_, wr_s3, fun st => told_bad2 b9.1 b9.2 wr_s3.shown rfl st⟩
    · exact ⟨_, wr_false, fun st => told_bad2 b9.1 b9.2 wr_false.shown rfl st⟩
  have sr : Shown (rt T B) := shown_rt (small_le g1 (by decide)) (small_le g2 (by decide))
  have m1 := made_bad (x := rt T B) (y := .int 2) rfl sr.pure (fun st => told_bad1 sr rfl st) st4
  have m2 := made_bad (x := .int 5) (y := rt T B) rfl sr.pure (fun st => told_bad2 (by decide) (by decide) sr rfl st) st4
  have m3 := made_bad (x := g) (y := q) gc wg.pure (fun st => told_bad1 wg.shown gi st) st4
  have m4 := made_bad (x := .int 9) (y := q) rfl wq.pure qi st4
  obtain ⟨ug, hug⟩ := wg.at1
  obtain ⟨uq, huq⟩ := wq.at1
  have z7 : szOk 7 = true := by decide
  have z1 : szOk 1 = true := by decide
  have z2 : szOk 2 = true := by decide
  have z8 : szOk 8 = true := by decide
  have z5 : szOk 5 = true := by decide
  have er := errs_run (T := T) (B := B) ww w1 w2 w3 [some (.ref r), some (rt T B), some w, none, none, none] rfl rfl (by simp) st2
  have hn := ne_two w4 st2
  have wr := ww.at
  have mg : mulOk (10 ^ 60) (10 ^ 39) = true := by decide
  have heq := eq_rt T B T B st4
  simp only [beq_self_eq_true, Bool.and_true] at heq
  have eq1 := fun i => eqL_one (a := ⟨i, [], sm_Ratio_eq_⟩) heq
  have hself : ∀ t : Str, (t == t) = true := fun t => beq_self_eq_true t
  refine ⟨closeSt st st4, ?_, (u4.mono (by omega)).close hu.lt⟩
  rw [sm__law_wrong_right, callD_eq xm 1 5 _ [.ref r] _ rfl, b__law_wrong_right]
  unfold rt at *
  simp -implicitDefEqProofs only [exs_nil, exs_cons, ex_pass, ex_brk, ex_cnt, ex_doc, ex_expr, ex_ret, ex_retN, ex_asg, ex_par, ex_setI, ex_aug, ex_ite, ex_whl, ex_for, ex_raise, ex_try,
    ev_con, ev_glob, ev_var, ev_bin, ev_un, ev_cmp, ev_chain, ev_and, ev_or, ev_not, ev_ife, ev_tup, ev_lst, ev_sub, ev_slice, ev_rev, ev_dct0, ev_call, ev_blt, ev_isi, ev_mth, ev_comp, ev_fz, evs_nil, evs_cons, evi_val, evi_range, evo_no, evo_var, evo_con, evo_bin, evo_un, evoK_int, slice_lst, slice_tup, compG_nm, compG_tp, compO_some, compB, noR_ok, wipe_nil, wipe_cons, evt_eq,
    bnd_ok, bnd_raise, andS_ok, andS_raise, seq_nx, seq_ret, seq_raise, seq_brk, seq_cnt, ofO_some, nxO_some, nxS_some, try_raise, try_ret, try_nx, asgT_nm, asgT_tp, setAll_nil, setAll_cons,
    tru_bl, tru_int, tru_non, tru_lst, tru_tup, add_int, sub_int, mul_int, fdiv_int, mod_int, neg_int, lt_int, le_int, gt_int, ge_int, eq_int, ne_int, eq_str, ne_str, is_bl, isnot_bl, abs_int, int_int, int_bl, bool_bl, max_int, min_int, gcd_int, len_lst, len_tup, tuple_lst, sub_lst, sub_tup, items_lst, items_tup, add_lst, add_tup, add_str, rev_lst, newLst_f, newLst_t, end_nx,
    List.map_cons, List.map_nil, List.length_cons, List.length_nil, List.replicate_succ, List.replicate_zero, List.cons_append, List.nil_append, List.append_nil, List.getElem?_cons_zero, List.getElem?_cons_succ, List.set_cons_zero, List.set_cons_succ, List.reverse_cons, List.reverse_nil, Option.map_some, Option.map_none,
    ev_ext, ev_fstr, ev_meth, meth_obj, fld_obj, prop_obj, own2_obj, own2_int, ownU_obj, ownC_int, bool_int, eq_bl, ne_bl, eqEnd_eq, eqEnd_ne, isC_obj, isC_non, isC_bl, isC_int, isC_str, isC_tup, isC_lst, isC_dct, ownB_str, strEnd_str, ownB_bool, blEnd_bl, ext_mk, mkEnd_1, mkEnd_2, mkEnd_3, mkEnd_4, mkEnd_5, Nat.reduceLT, ex_setA, setA_last, ofO_some,
    if_true, if_false, Bool.false_eq_true, Bool.not_true, Bool.not_false, decide_true, decide_false, Bool.and_true, Bool.true_and, Bool.false_and, Bool.and_false, Bool.or_true, Bool.true_or, Bool.or_false, Bool.false_or, Nat.zero_add, Nat.reduceAdd, reduceCtorEq, reduceIte, -ext_mk, e1, hmk, z7, z1, z2, z8, z5, e2, er, wr, w3, hn, p10_60, p10_39, mg, e3, e4, m1, m2, m3, m4, eq1, hug, huq, hself]
  rw [end_ret rfl]
/-! ### the law -/
theorem law_turn (ns : List Int) (hns : ns.length ≤ 63) (i : Nat) (hi : i ≤ 1000) {st : Store} (x y z u v : Option D) :
    ∃ w st', execs xm l1_law [some (.lst (ns.map D.int)), some (.int (i : Int)), x, y, z, u, v] st = .nx [some (.lst (ns.map D.int)), some (.int (i : Int)), w, y, z, u, v] st' := by
  obtain ⟨st1, e1, u1, l1⟩ := urn_at ns hns i hi (st := st)
  obtain ⟨st2, e2, u2⟩ := row_right u1 (by decide)
  obtain ⟨st3, e3, u3⟩ := wrong_right u2 (by decide)
  refine ⟨some (.ref st.length), st3, ?_⟩
  rw [l1_law]
  simp -implicitDefEqProofs only [exs_nil, exs_cons, ex_pass, ex_brk, ex_cnt, ex_doc, ex_expr, ex_ret, ex_retN, ex_asg, ex_par, ex_setI, ex_aug, ex_ite, ex_whl, ex_for, ex_raise, ex_try,
    ev_con, ev_glob, ev_var, ev_bin, ev_un, ev_cmp, ev_chain, ev_and, ev_or, ev_not, ev_ife, ev_tup, ev_lst, ev_sub, ev_slice, ev_rev, ev_dct0, ev_call, ev_blt, ev_isi, ev_mth, ev_comp, ev_fz, evs_nil, evs_cons, evi_val, evi_range, evo_no, evo_var, evo_con, evo_bin, evo_un, evoK_int, slice_lst, slice_tup, compG_nm, compG_tp, compO_some, compB, noR_ok, wipe_nil, wipe_cons, evt_eq,
    bnd_ok, bnd_raise, andS_ok, andS_raise, seq_nx, seq_ret, seq_raise, seq_brk, seq_cnt, ofO_some, nxO_some, nxS_some, try_raise, try_ret, try_nx, asgT_nm, asgT_tp, setAll_nil, setAll_cons,
    tru_bl, tru_int, tru_non, tru_lst, tru_tup, add_int, sub_int, mul_int, fdiv_int, mod_int, neg_int, lt_int, le_int, gt_int, ge_int, eq_int, ne_int, eq_str, ne_str, is_bl, isnot_bl, abs_int, int_int, int_bl, bool_bl, max_int, min_int, gcd_int, len_lst, len_tup, tuple_lst, sub_lst, sub_tup, items_lst, items_tup, add_lst, add_tup, add_str, rev_lst, newLst_f, newLst_t, end_nx,
    List.map_cons, List.map_nil, List.length_cons, List.length_nil, List.replicate_succ, List.replicate_zero, List.cons_append, List.nil_append, List.append_nil, List.getElem?_cons_zero, List.getElem?_cons_succ, List.set_cons_zero, List.set_cons_succ, List.reverse_cons, List.reverse_nil, Option.map_some, Option.map_none,
    ev_ext, ev_fstr, ev_meth, meth_obj, fld_obj, prop_obj, own2_obj, own2_int, ownU_obj, ownC_int, bool_int, eq_bl, ne_bl, eqEnd_eq, eqEnd_ne, isC_obj, isC_non, isC_bl, isC_int, isC_str, isC_tup, isC_lst, isC_dct, ownB_str, strEnd_str, ownB_bool, blEnd_bl, ext_mk, mkEnd_1, mkEnd_2, mkEnd_3, mkEnd_4, mkEnd_5, Nat.reduceLT, ex_setA, setA_last, ofO_some,
    if_true, if_false, Bool.false_eq_true, Bool.not_true, Bool.not_false, decide_true, decide_false, Bool.and_true, Bool.true_and, Bool.false_and, Bool.and_false, Bool.or_true, Bool.true_or, Bool.or_false, Bool.false_or, Nat.zero_add, Nat.reduceAdd, reduceCtorEq, reduceIte, e1, e2, e3]
theorem rt_lit {a b T B : Int} (hb : b ≠ 0) (hB : 0 < B) (hc : Nat.gcd T.natAbs B.natAbs = 1) (h : a * B = T * b) : rt (lwT a b) (lwB a b) = rt T B := by
  obtain ⟨h1, h2⟩ := lw_eq hb ⟨hB, hc⟩ h
  rw [h1, h2]
theorem law_true (ns : List Int) (h : ns.length ≤ 63) : ∃ st, sm_law [.lst (ns.map D.int)] [] = .ok (.bl true) st := by
  obtain ⟨m, hm, hm4⟩ : ∃ m : Nat, max 1 (min 3 ((ns.map D.int).length : Int)) = (m : Int) ∧ m ≤ 3 := ⟨(max 1 (min 3 ((ns.map D.int).length : Int))).toNat, by omega, by omega⟩
  have hr := range_k (k := m) (by omega)
  obtain ⟨σ', st', e, x1, x2, rfl⟩ := range_inv (v := 1) (b := execs xm l1_law)
    (fun i σ st' => ∃ x1 x2 : Option D, σ = [some (.lst (ns.map D.int)), x1, x2, none, none, none, none]) m (by omega)
    (by
      rintro i σ st1 hi ⟨y, z, rfl⟩
      obtain ⟨u, st2, e⟩ := law_turn ns h i (by omega) (st := st1) z none none none none
      exact .inl ⟨_, st2, e, some (.int (i : Int)), u, rfl⟩)
    [some (.lst (ns.map D.int)), none, none, none, none, none, none] [] ⟨none, none, rfl⟩
  have s0 : ∀ {T B : Int}, T.natAbs < 2 ^ 300 → B.natAbs < 2 ^ 300 → ∀ st, sm_Ratio_str_ [rt T B] st = .ok (.str (txt T B)) st := fun h1 h2 st => str_rt (small_le h1 (by decide)) (small_le h2 (by decide)) st
  have k1 := mk_rt (a := 2) (b := -4) (by decide) (by decide) (by decide) (by decide) (by decide)
  rw [rt_lit (T := -1) (B := 2) (by decide) (by decide) (by decide) (by decide)] at k1
  have k2 := mk_rt (a := 1) (b := 3) (by decide) (by decide) (by decide) (by decide) (by decide)
  rw [rt_lit (T := 1) (B := 3) (by decide) (by decide) (by decide) (by decide)] at k2
  have k3 := mk_rt (a := 0) (b := -9) (by decide) (by decide) (by decide) (by decide) (by decide)
  rw [rt_lit (T := 0) (B := 1) (by decide) (by decide) (by decide) (by decide)] at k3
  have k4 := mk_rt (a := 6) (b := -4) (by decide) (by decide) (by decide) (by decide) (by decide)
  rw [rt_lit (T := -3) (B := 2) (by decide) (by decide) (by decide) (by decide)] at k4
  have a1 := fun st => add_at (T := -1) (B := 2) (Opd.rt 1 3) (by decide) (by decide) (by decide) (by decide) (by decide) (by decide) st
  simp only [rt_lit (a := -1 * 3 + 1 * 2) (b := 2 * 3) (T := -1) (B := 6) (by decide) (by decide) (by decide) (by decide)] at a1
  have a2 := fun st => mul_at (T := -1) (B := 2) (Opd.int 6) (by decide) (by decide) (by decide) (by decide) (by decide) (by decide) st
  simp only [rt_lit (a := -1 * 6) (b := 2 * 1) (T := -3) (B := 1) (by decide) (by decide) (by decide) (by decide)] at a2
  have a3 := fun st => over_at (T := 1) (B := 3) (Opd.rt (-1) 2) (by decide) (by decide) (by decide) (by decide) (by decide) (by decide) (by decide) st
  simp only [rt_lit (a := 1 * 2) (b := 3 * -1) (T := -2) (B := 3) (by decide) (by decide) (by decide) (by decide)] at a3
  have a4 := fun st => compared_at (T := -1) (B := 2) (Opd.rt 1 3) (by decide) (by decide) (by decide) (by decide) st
  simp only [show ((if decide ((0 : Int) < -1 * 3 - 1 * 2) = true then (1 : Int) else 0) - (if decide ((-1 : Int) * 3 - 1 * 2 < 0) = true then (1 : Int) else 0)) = -1 by decide] at a4
  have a5 := fun st => sub_at (T := -3) (B := 2) (Opd.int (10 ^ 62)) (by decide) (by decide) (by decide) (by decide) (by decide) (by decide) st
  simp only [rt_lit (a := -3 * 1 - 10 ^ 62 * 2) (b := 2 * 1) (T := -(2 * 10 ^ 62 + 3)) (B := 2) (by decide) (by decide) (by decide +kernel) (by decide)] at a5
  have t1 := fun st => s0 (T := -1) (B := 2) (by decide) (by decide) st
  have t2 := fun st => s0 (T := -1) (B := 6) (by decide) (by decide) st
  have t3 := fun st => s0 (T := -3) (B := 1) (by decide) (by decide) st
  have t4 := fun st => s0 (T := -2) (B := 3) (by decide) (by decide) st
  have t5 := fun st => s0 (T := 0) (B := 1) (by decide) (by decide) st
  have t6 := fun st => s0 (T := -(2 * 10 ^ 62 + 3)) (B := 2) (by decide) (by decide) st
  simp only [show txt (-1) 2 = ("-1/2" : Str) by decide +kernel] at t1
  simp only [show txt (-1) 6 = ("-1/6" : Str) by decide +kernel] at t2
  simp only [show txt (-3) 1 = ("-3" : Str) by decide +kernel] at t3
  simp only [show txt (-2) 3 = ("-2/3" : Str) by decide +kernel] at t4
  simp only [show txt 0 1 = ("0" : Str) by decide +kernel] at t5
  have sg := fun st => str_int_at (i := 2 * 10 ^ 62 + 3) (k := 300) (by decide) (by decide) (by decide) st
  have z6 : szOk 6 = true := by decide
  have mg : mulOk 2 (10 ^ 62) = true := by decide
  have zz1 : szOk (("-" : Str).length + (Str.ofString (toString (2 * 10 ^ 62 + 3 : Int))).length) = true := by decide +kernel
  have zz2 : szOk ((("-" : Str) ++ (Str.ofString (toString (2 * 10 ^ 62 + 3 : Int)))).length + ("/2" : Str).length) = true := by decide +kernel
  have zz3 : ((txt (-(2 * 10 ^ 62 + 3)) 2) == (("-" : Str) ++ (Str.ofString (toString (2 * 10 ^ 62 + 3 : Int))) ++ ("/2" : Str))) = true := by decide +kernel
  have c1 : ∀ st, cmpD .eq st (.lst [.str "-1/2", .str "-1/6", .str "-3", .str "-2/3", .int (-1), .str "0"]) (.lst [.str "-1/2", .str "-1/6", .str "-3", .str "-2/3", .int (-1), .str "0"]) = some true := fun st => by
    have : pureD 60 (.lst [.str "-1/2", .str "-1/6", .str "-3", .str "-2/3", .int (-1), .str "0"]) = true := by decide +kernel
    have e2 : eqD (.lst [.str "-1/2", .str "-1/6", .str "-3", .str "-2/3", .int (-1), .str "0"]) (.lst [.str "-1/2", .str "-1/6", .str "-3", .str "-2/3", .int (-1), .str "0"]) = true := by decide +kernel
    simp only [cmpD, this, e2, Bool.and_self, if_true]
  obtain ⟨st2, h2⟩ : ∃ st2, execs xm b_law ([.lst (ns.map D.int)].map some ++ List.replicate 6 none) [] = .ret (.bl true) st2 := by
    rw [b_law]
    unfold rt at *
    simp -implicitDefEqProofs only [exs_nil, exs_cons, ex_pass, ex_brk, ex_cnt, ex_doc, ex_expr, ex_ret, ex_retN, ex_asg, ex_par, ex_setI, ex_aug, ex_ite, ex_whl, ex_for, ex_raise, ex_try,
    ev_con, ev_glob, ev_var, ev_bin, ev_un, ev_cmp, ev_chain, ev_and, ev_or, ev_not, ev_ife, ev_tup, ev_lst, ev_sub, ev_slice, ev_rev, ev_dct0, ev_call, ev_blt, ev_isi, ev_mth, ev_comp, ev_fz, evs_nil, evs_cons, evi_val, evi_range, evo_no, evo_var, evo_con, evo_bin, evo_un, evoK_int, slice_lst, slice_tup, compG_nm, compG_tp, compO_some, compB, noR_ok, wipe_nil, wipe_cons, evt_eq,
    bnd_ok, bnd_raise, andS_ok, andS_raise, seq_nx, seq_ret, seq_raise, seq_brk, seq_cnt, ofO_some, nxO_some, nxS_some, try_raise, try_ret, try_nx, asgT_nm, asgT_tp, setAll_nil, setAll_cons,
    tru_bl, tru_int, tru_non, tru_lst, tru_tup, add_int, sub_int, mul_int, fdiv_int, mod_int, neg_int, lt_int, le_int, gt_int, ge_int, eq_int, ne_int, eq_str, ne_str, is_bl, isnot_bl, abs_int, int_int, int_bl, bool_bl, max_int, min_int, gcd_int, len_lst, len_tup, tuple_lst, sub_lst, sub_tup, items_lst, items_tup, add_lst, add_tup, add_str, rev_lst, newLst_f, newLst_t, end_nx,
    List.map_cons, List.map_nil, List.length_cons, List.length_nil, List.replicate_succ, List.replicate_zero, List.cons_append, List.nil_append, List.append_nil, List.getElem?_cons_zero, List.getElem?_cons_succ, List.set_cons_zero, List.set_cons_succ, List.reverse_cons, List.reverse_nil, Option.map_some, Option.map_none,
    ev_ext, ev_fstr, ev_meth, meth_obj, fld_obj, prop_obj, own2_obj, own2_int, ownU_obj, ownC_int, bool_int, eq_bl, ne_bl, eqEnd_eq, eqEnd_ne, isC_obj, isC_non, isC_bl, isC_int, isC_str, isC_tup, isC_lst, isC_dct, ownB_str, strEnd_str, ownB_bool, blEnd_bl, ext_mk, mkEnd_1, mkEnd_2, mkEnd_3, mkEnd_4, mkEnd_5, Nat.reduceLT, ex_setA, setA_last, ofO_some,
    if_true, if_false, Bool.false_eq_true, Bool.not_true, Bool.not_false, decide_true, decide_false, Bool.and_true, Bool.true_and, Bool.false_and, Bool.and_false, Bool.or_true, Bool.true_or, Bool.or_false, Bool.false_or, Nat.zero_add, Nat.reduceAdd, reduceCtorEq, reduceIte, -ext_mk, hm, hr, e, Int.reduceNeg, k1, k2, k3, k4, a1, a2, a3, a4, a5, t1, t2, t3, t4, t5, t6, z6, p10_62, mg, sg, zz1, zz2, zz3, c1]
    exact ⟨_, rfl⟩
  rw [sm_law, callD_eq xm 1 6 _ [.lst (ns.map D.int)] _ rfl, h2, end_ret rfl]
  exact ⟨_, rfl⟩
end L02
set_option Elab.async false
set_option linter.all false
set_option maxRecDepth 100000
set_option maxHeartbeats 1000000
/-! The terms against the text, what the top has written (printed by wip/link2.py). -/
namespace L02
open PySem PySem.Spec PyProof.Rows L2 Ip
def top (i : Nat) : Stmt := PySem.Challenge.pw_stairlots_k02_whole_rows_of_ratios.main.body.getD i (.Pass ⟨0, 0, 0, 0⟩)
abbrev s__law_urn : Stmt := top 25
abbrev s__law_take : Stmt := top 26
abbrev s__law_some : Stmt := top 27
abbrev s__law_part : Stmt := top 29
abbrev s__law_pair : Stmt := top 30
abbrev s_is_whole : Stmt := top 10
abbrev s_is_integer : Stmt := top 11
abbrev s_Ratio_str_ : Stmt := inClass (top 18) 14
abbrev s_require_integer : Stmt := top 12
abbrev s_Ratio_eq_ : Stmt := inClass (top 18) 13
abbrev s_common_of : Stmt := top 13
abbrev s_Lowest_init_ : Stmt := inClass (top 17) 1
abbrev s_lowest_told : Stmt := top 20
abbrev s_Ratio_init_ : Stmt := inClass (top 18) 1
abbrev s__law_low : Stmt := top 28
abbrev s_Ratio_top : Stmt := inClass (top 18) 3
abbrev s_Ratio_bottom : Stmt := inClass (top 18) 4
abbrev s_Ratio_sign : Stmt := inClass (top 18) 5
abbrev s_Ratio_bool_ : Stmt := inClass (top 18) 12
abbrev s__law_shows : Stmt := top 31
abbrev s_parts_of : Stmt := top 22
abbrev s_Ratio_compared : Stmt := inClass (top 18) 7
abbrev s__law_compared_right : Stmt := top 36
abbrev s_ratio_with : Stmt := top 19
abbrev s_Ratio_neg_ : Stmt := inClass (top 18) 11
abbrev s_Ratio_over : Stmt := inClass (top 18) 6
abbrev s__law_error : Stmt := top 34
abbrev s_is_number : Stmt := top 21
abbrev s_Ratio_add_ : Stmt := inClass (top 18) 8
abbrev s_Ratio_sub_ : Stmt := inClass (top 18) 9
abbrev s_Ratio_mul_ : Stmt := inClass (top 18) 10
abbrev s__law_done : Stmt := top 33
abbrev s__law_made : Stmt := top 32
abbrev s__law_row_right : Stmt := top 37
abbrev s__law_made_error : Stmt := top 35
abbrev s__law_wrong_right : Stmt := top 38
abbrev s_law : Stmt := top 39
abbrev s_InvalidNumber_xinit : Stmt := inClass (top 5) 0
def fnN : List Str := ([("_law_urn" : Str), ("_law_take" : Str), ("_law_some" : Str), ("_law_part" : Str), ("_law_pair" : Str), ("is_whole" : Str), ("is_integer" : Str), ("__str__" : Str), ("require_integer" : Str), ("__eq__" : Str), ("common_of" : Str), ("Lowest" : Str), ("lowest_told" : Str), ("Ratio" : Str), ("_law_low" : Str), ("top" : Str), ("bottom" : Str), ("sign" : Str), ("__bool__" : Str), ("_law_shows" : Str), ("parts_of" : Str), ("compared" : Str), ("_law_compared_right" : Str), ("ratio_with" : Str), ("__neg__" : Str), ("over" : Str), ("_law_error" : Str), ("is_number" : Str), ("__add__" : Str), ("__sub__" : Str), ("__mul__" : Str), ("_law_done" : Str), ("_law_made" : Str), ("_law_row_right" : Str), ("_law_made_error" : Str), ("_law_wrong_right" : Str), ("law" : Str)] : List Str)
def kdN : List FK := [.fn, .fn, .fn, .fn, .fn, .fn, .fn, (.meth 1), .fn, (.meth 1), .fn, (.init 0), .fn, (.init 1), .fn, (.prop 1), (.prop 1), (.prop 1), (.meth 1), .fn, .fn, (.meth 1), .fn, .fn, (.meth 1), (.meth 1), .fn, .fn, (.op 1 .add), (.op 1 .sub), (.op 1 .mul), .fn, .fn, .fn, .fn, .fn, .fn]
def glN : List Str := ["BEYOND", "BAR"]
def xnN : List Str := ["InvalidOperation", "InvalidNumber"]
def hfN : List Str := ["", "given"]
def cnN : List Str := ["Lowest", "Ratio"]
def slN : Nat → List Str := fun k => match k with | 0 => ["own_bottom", "own_top"] | _ => ["own_bottom", "own_top"]
def bkB : Blt → Bool := fun b => b == .abs || b == .bool || b == .gcd || b == .int || b == .len || b == .max || b == .min || b == .repr || b == .str
def tkB : Ty → Bool := fun t => t == .bool || t == .int
def cf (N : List Str) (sc : Scope) : Cfg := { N := N, sc := sc, wr := sc, fn := fun i => fnN.getD i "", gl := fun i => glN.getD i "", bk := bkB, tk := tkB, ik := true, rk := true, xn := fun i => xnN.getD i "", hn := fun i => xnN.getD i "", hf := fun i => hfN.getD i "", nc := 2, sl := slN, cn := fun i => cnN.getD i "", kd := fun i => kdN.getD i .fn }
def G : Nat → D → Prop := fun i d => (i = 0 ∧ d = c_BEYOND) ∨ (i = 1 ∧ d = c_BAR)
def U : Nat → Prop := fun k => k < 2
def P__law_urn : Nat → List D → Fn → Prop := fun j dv sm => False
def R__law_urn : Nat → MkF → Prop := fun k mk => False
def N__law_urn : List Str := ["_law_script", "_law_at", "_law_mixed", "_law_cell", "_law_great"]
theorem k__law_urn : chkSs (cf N__law_urn (defScope s__law_urn)) b__law_urn (defBody s__law_urn) = true := by decide +kernel
theorem sc__law_urn : FnScope N__law_urn ["_law_script", "_law_at"] (defScope s__law_urn) := ⟨rfl, rfl, rfl, by decide +kernel, rfl, by decide +kernel, by decide +kernel⟩
theorem o__law_urn : okSs P__law_urn G R__law_urn U b__law_urn := by
  repeat' (first | exact True.intro | exact allU rfl | refine And.intro ?_ ?_ | refine all1 ?_ ?_ | exact all0 | exact .inl (⟨rfl, rfl⟩) | exact .inr (⟨rfl, rfl⟩) | exact rfl | exact allU rfl)
def P__law_take : Nat → List D → Fn → Prop := fun j dv sm => False
def R__law_take : Nat → MkF → Prop := fun k mk => False
def N__law_take : List Str := ["_law_urn_here", "_law_total", "_law_found", "_law_one", "_law_two"]
theorem k__law_take : chkSs (cf N__law_take (defScope s__law_take)) b__law_take (defBody s__law_take) = true := by decide +kernel
theorem sc__law_take : FnScope N__law_take ["_law_urn_here", "_law_total"] (defScope s__law_take) := ⟨rfl, rfl, rfl, by decide +kernel, rfl, by decide +kernel, by decide +kernel⟩
theorem o__law_take : okSs P__law_take G R__law_take U b__law_take := by
  repeat' (first | exact True.intro | exact allU rfl | refine And.intro ?_ ?_ | refine all1 ?_ ?_ | exact all0 | exact .inl (⟨rfl, rfl⟩) | exact .inr (⟨rfl, rfl⟩) | exact rfl | exact allU rfl)
def P__law_some : Nat → List D → Fn → Prop := fun j dv sm => (j = 1 ∧ dv = [] ∧ sm = sm__law_take)
def R__law_some : Nat → MkF → Prop := fun k mk => False
def N__law_some : List Str := ["_law_urn_here", "_law_items"]
theorem k__law_some : chkSs (cf N__law_some (defScope s__law_some)) b__law_some (defBody s__law_some) = true := by decide +kernel
theorem sc__law_some : FnScope N__law_some ["_law_urn_here", "_law_items"] (defScope s__law_some) := ⟨rfl, rfl, rfl, by decide +kernel, rfl, by decide +kernel, by decide +kernel⟩
theorem o__law_some : okSs P__law_some G R__law_some U b__law_some := by
  repeat' (first | exact True.intro | exact allU rfl | refine And.intro ?_ ?_ | refine all1 ?_ ?_ | exact all0 | exact ⟨rfl, rfl, rfl⟩ | exact .inl (⟨rfl, rfl⟩) | exact .inr (⟨rfl, rfl⟩) | exact rfl | exact allU rfl)
def P__law_part : Nat → List D → Fn → Prop := fun j dv sm => (j = 1 ∧ dv = [] ∧ sm = sm__law_take) ∨ (j = 2 ∧ dv = [] ∧ sm = sm__law_some)
def R__law_part : Nat → MkF → Prop := fun k mk => False
def N__law_part : List Str := ["_law_urn_here", "_law_bound"]
theorem k__law_part : chkSs (cf N__law_part (defScope s__law_part)) b__law_part (defBody s__law_part) = true := by decide +kernel
theorem sc__law_part : FnScope N__law_part ["_law_urn_here"] (defScope s__law_part) := ⟨rfl, rfl, rfl, by decide +kernel, rfl, by decide +kernel, by decide +kernel⟩
theorem o__law_part : okSs P__law_part G R__law_part U b__law_part := by
  repeat' (first | exact True.intro | exact allU rfl | refine And.intro ?_ ?_ | refine all1 ?_ ?_ | exact all0 | exact .inl (⟨rfl, rfl, rfl⟩) | exact .inr (⟨rfl, rfl, rfl⟩) | exact .inl (⟨rfl, rfl⟩) | exact .inr (⟨rfl, rfl⟩) | exact rfl | exact allU rfl)
def P__law_pair : Nat → List D → Fn → Prop := fun j dv sm => (j = 3 ∧ dv = [] ∧ sm = sm__law_part)
def R__law_pair : Nat → MkF → Prop := fun k mk => False
def N__law_pair : List Str := ["_law_urn_here", "_law_bottom"]
theorem k__law_pair : chkSs (cf N__law_pair (defScope s__law_pair)) b__law_pair (defBody s__law_pair) = true := by decide +kernel
theorem sc__law_pair : FnScope N__law_pair ["_law_urn_here"] (defScope s__law_pair) := ⟨rfl, rfl, rfl, by decide +kernel, rfl, by decide +kernel, by decide +kernel⟩
theorem o__law_pair : okSs P__law_pair G R__law_pair U b__law_pair := by
  repeat' (first | exact True.intro | exact allU rfl | refine And.intro ?_ ?_ | refine all1 ?_ ?_ | exact all0 | exact ⟨rfl, rfl, rfl⟩ | exact .inl (⟨rfl, rfl⟩) | exact .inr (⟨rfl, rfl⟩) | exact rfl | exact allU rfl)
def P_is_whole : Nat → List D → Fn → Prop := fun j dv sm => False
def R_is_whole : Nat → MkF → Prop := fun k mk => False
def N_is_whole : List Str := ["value"]
theorem k_is_whole : chkSs (cf N_is_whole (defScope s_is_whole)) b_is_whole (defBody s_is_whole) = true := by decide +kernel
theorem sc_is_whole : FnScope N_is_whole ["value"] (defScope s_is_whole) := ⟨rfl, rfl, rfl, by decide +kernel, rfl, by decide +kernel, by decide +kernel⟩
theorem o_is_whole : okSs P_is_whole G R_is_whole U b_is_whole := by
  repeat' (first | exact True.intro | exact allU rfl | refine And.intro ?_ ?_ | refine all1 ?_ ?_ | exact all0 | exact .inl (⟨rfl, rfl⟩) | exact .inr (⟨rfl, rfl⟩) | exact rfl | exact allU rfl)
def P_is_integer : Nat → List D → Fn → Prop := fun j dv sm => (j = 5 ∧ dv = [] ∧ sm = sm_is_whole)
def R_is_integer : Nat → MkF → Prop := fun k mk => False
def N_is_integer : List Str := ["value"]
theorem k_is_integer : chkSs (cf N_is_integer (defScope s_is_integer)) b_is_integer (defBody s_is_integer) = true := by decide +kernel
theorem sc_is_integer : FnScope N_is_integer ["value"] (defScope s_is_integer) := ⟨rfl, rfl, rfl, by decide +kernel, rfl, by decide +kernel, by decide +kernel⟩
theorem o_is_integer : okSs P_is_integer G R_is_integer U b_is_integer := by
  repeat' (first | exact True.intro | exact allU rfl | refine And.intro ?_ ?_ | refine all1 ?_ ?_ | exact all0 | exact ⟨rfl, rfl, rfl⟩ | exact .inl (⟨rfl, rfl⟩) | exact .inr (⟨rfl, rfl⟩) | exact rfl | exact allU rfl)
def P_Ratio_str_ : Nat → List D → Fn → Prop := fun j dv sm => False
def R_Ratio_str_ : Nat → MkF → Prop := fun k mk => False
def N_Ratio_str_ : List Str := ["self"]
theorem k_Ratio_str_ : chkSs (cf N_Ratio_str_ (defScope s_Ratio_str_)) b_Ratio_str_ (defBody s_Ratio_str_) = true := by decide +kernel
theorem sc_Ratio_str_ : FnScope N_Ratio_str_ ["self"] (defScope s_Ratio_str_) := ⟨rfl, rfl, rfl, by decide +kernel, rfl, by decide +kernel, by decide +kernel⟩
theorem o_Ratio_str_ : okSs P_Ratio_str_ G R_Ratio_str_ U b_Ratio_str_ := by
  repeat' (first | exact True.intro | exact allU rfl | refine And.intro ?_ ?_ | refine all1 ?_ ?_ | exact all0 | exact .inl (⟨rfl, rfl⟩) | exact .inr (⟨rfl, rfl⟩) | exact rfl | exact allU rfl)
def P_require_integer : Nat → List D → Fn → Prop := fun j dv sm => (j = 6 ∧ dv = [] ∧ sm = sm_is_integer) ∨ (j = 7 ∧ dv = [] ∧ sm = sm_Ratio_str_)
def R_require_integer : Nat → MkF → Prop := fun k mk => (k = 1 ∧ mk = mk_InvalidNumber)
def N_require_integer : List Str := ["value"]
theorem k_require_integer : chkSs (cf N_require_integer (defScope s_require_integer)) b_require_integer (defBody s_require_integer) = true := by decide +kernel
theorem sc_require_integer : FnScope N_require_integer ["value"] (defScope s_require_integer) := ⟨rfl, rfl, rfl, by decide +kernel, rfl, by decide +kernel, by decide +kernel⟩
theorem o_require_integer : okSs P_require_integer G R_require_integer U b_require_integer := by
  repeat' (first | exact True.intro | exact allU rfl | refine And.intro ?_ ?_ | refine all1 ?_ ?_ | exact all0 | exact .inl (⟨rfl, rfl, rfl⟩) | exact .inr (⟨rfl, rfl, rfl⟩) | exact .inl (⟨rfl, rfl⟩) | exact .inr (⟨rfl, rfl⟩) | exact ⟨rfl, rfl⟩ | exact rfl | exact allU rfl)
def P_Ratio_eq_ : Nat → List D → Fn → Prop := fun j dv sm => False
def R_Ratio_eq_ : Nat → MkF → Prop := fun k mk => False
def N_Ratio_eq_ : List Str := ["self", "other"]
theorem k_Ratio_eq_ : chkSs (cf N_Ratio_eq_ (defScope s_Ratio_eq_)) b_Ratio_eq_ (defBody s_Ratio_eq_) = true := by decide +kernel
theorem sc_Ratio_eq_ : FnScope N_Ratio_eq_ ["self", "other"] (defScope s_Ratio_eq_) := ⟨rfl, rfl, rfl, by decide +kernel, rfl, by decide +kernel, by decide +kernel⟩
theorem o_Ratio_eq_ : okSs P_Ratio_eq_ G R_Ratio_eq_ U b_Ratio_eq_ := by
  repeat' (first | exact True.intro | exact allU rfl | refine And.intro ?_ ?_ | refine all1 ?_ ?_ | exact all0 | exact .inl (⟨rfl, rfl⟩) | exact .inr (⟨rfl, rfl⟩) | exact rfl | exact allU rfl)
def P_common_of : Nat → List D → Fn → Prop := fun j dv sm => False
def R_common_of : Nat → MkF → Prop := fun k mk => False
def N_common_of : List Str := ["one", "other"]
theorem k_common_of : chkSs (cf N_common_of (defScope s_common_of)) b_common_of (defBody s_common_of) = true := by decide +kernel
theorem sc_common_of : FnScope N_common_of ["one", "other"] (defScope s_common_of) := ⟨rfl, rfl, rfl, by decide +kernel, rfl, by decide +kernel, by decide +kernel⟩
theorem o_common_of : okSs P_common_of G R_common_of U b_common_of := by
  repeat' (first | exact True.intro | exact allU rfl | refine And.intro ?_ ?_ | refine all1 ?_ ?_ | exact all0 | exact .inl (⟨rfl, rfl⟩) | exact .inr (⟨rfl, rfl⟩) | exact rfl | exact allU rfl)
def P_Lowest_init_ : Nat → List D → Fn → Prop := fun j dv sm => (j = 10 ∧ dv = [] ∧ sm = sm_common_of)
def R_Lowest_init_ : Nat → MkF → Prop := fun k mk => False
def N_Lowest_init_ : List Str := ["self", "top", "bottom", "share"]
theorem k_Lowest_init_ : chkSs (cf N_Lowest_init_ (defScope s_Lowest_init_)) b_Lowest_init_ (defBody s_Lowest_init_) = true := by decide +kernel
theorem sc_Lowest_init_ : FnScope N_Lowest_init_ ["self", "top", "bottom"] (defScope s_Lowest_init_) := ⟨rfl, rfl, rfl, by decide +kernel, rfl, by decide +kernel, by decide +kernel⟩
theorem o_Lowest_init_ : okSs P_Lowest_init_ G R_Lowest_init_ U b_Lowest_init_ := by
  repeat' (first | exact True.intro | exact allU rfl | refine And.intro ?_ ?_ | refine all1 ?_ ?_ | exact all0 | exact ⟨rfl, rfl, rfl⟩ | exact .inl (⟨rfl, rfl⟩) | exact .inr (⟨rfl, rfl⟩) | exact rfl | exact allU rfl)
def P_lowest_told : Nat → List D → Fn → Prop := fun j dv sm => (j = 7 ∧ dv = [] ∧ sm = sm_Ratio_str_) ∨ (j = 8 ∧ dv = [] ∧ sm = sm_require_integer) ∨ (j = 9 ∧ dv = [] ∧ sm = sm_Ratio_eq_) ∨ (j = 11 ∧ dv = [] ∧ sm = sm_Lowest_init_)
def R_lowest_told : Nat → MkF → Prop := fun k mk => (k = 1 ∧ mk = mk_InvalidNumber)
def N_lowest_told : List Str := ["top", "bottom"]
theorem k_lowest_told : chkSs (cf N_lowest_told (defScope s_lowest_told)) b_lowest_told (defBody s_lowest_told) = true := by decide +kernel
theorem sc_lowest_told : FnScope N_lowest_told ["top", "bottom"] (defScope s_lowest_told) := ⟨rfl, rfl, rfl, by decide +kernel, rfl, by decide +kernel, by decide +kernel⟩
theorem o_lowest_told : okSs P_lowest_told G R_lowest_told U b_lowest_told := by
  repeat' (first | exact True.intro | exact allU rfl | refine And.intro ?_ ?_ | refine all1 ?_ ?_ | exact all0 | exact .inl (⟨rfl, rfl, rfl⟩) | exact .inr (.inl (⟨rfl, rfl, rfl⟩)) | exact .inr (.inr (.inl (⟨rfl, rfl, rfl⟩))) | exact .inr (.inr (.inr (⟨rfl, rfl, rfl⟩))) | exact .inl (⟨rfl, rfl⟩) | exact .inr (⟨rfl, rfl⟩) | exact ⟨rfl, rfl⟩ | exact rfl | exact allU rfl)
def P_Ratio_init_ : Nat → List D → Fn → Prop := fun j dv sm => (j = 12 ∧ dv = [] ∧ sm = sm_lowest_told)
def R_Ratio_init_ : Nat → MkF → Prop := fun k mk => False
def N_Ratio_init_ : List Str := ["self", "top", "bottom", "lowest"]
theorem k_Ratio_init_ : chkSs (cf N_Ratio_init_ (defScope s_Ratio_init_)) b_Ratio_init_ (defBody s_Ratio_init_) = true := by decide +kernel
theorem sc_Ratio_init_ : FnScope N_Ratio_init_ ["self", "top", "bottom"] (defScope s_Ratio_init_) := ⟨rfl, rfl, rfl, by decide +kernel, rfl, by decide +kernel, by decide +kernel⟩
theorem o_Ratio_init_ : okSs P_Ratio_init_ G R_Ratio_init_ U b_Ratio_init_ := by
  repeat' (first | exact True.intro | exact allU rfl | refine And.intro ?_ ?_ | refine all1 ?_ ?_ | exact all0 | exact ⟨rfl, rfl, rfl⟩ | exact .inl (⟨rfl, rfl⟩) | exact .inr (⟨rfl, rfl⟩) | exact rfl | exact allU rfl)
def P__law_low : Nat → List D → Fn → Prop := fun j dv sm => False
def R__law_low : Nat → MkF → Prop := fun k mk => False
def N__law_low : List Str := ["_law_top", "_law_bottom", "_law_one", "_law_other"]
theorem k__law_low : chkSs (cf N__law_low (defScope s__law_low)) b__law_low (defBody s__law_low) = true := by decide +kernel
theorem sc__law_low : FnScope N__law_low ["_law_top", "_law_bottom"] (defScope s__law_low) := ⟨rfl, rfl, rfl, by decide +kernel, rfl, by decide +kernel, by decide +kernel⟩
theorem o__law_low : okSs P__law_low G R__law_low U b__law_low := by
  repeat' (first | exact True.intro | exact allU rfl | refine And.intro ?_ ?_ | refine all1 ?_ ?_ | exact all0 | exact .inl (⟨rfl, rfl⟩) | exact .inr (⟨rfl, rfl⟩) | exact rfl | exact allU rfl)
def P_Ratio_top : Nat → List D → Fn → Prop := fun j dv sm => False
def R_Ratio_top : Nat → MkF → Prop := fun k mk => False
def N_Ratio_top : List Str := ["self"]
theorem k_Ratio_top : chkSs (cf N_Ratio_top (defScope s_Ratio_top)) b_Ratio_top (defBody s_Ratio_top) = true := by decide +kernel
theorem sc_Ratio_top : FnScope N_Ratio_top ["self"] (defScope s_Ratio_top) := ⟨rfl, rfl, rfl, by decide +kernel, rfl, by decide +kernel, by decide +kernel⟩
theorem o_Ratio_top : okSs P_Ratio_top G R_Ratio_top U b_Ratio_top := by
  repeat' (first | exact True.intro | exact allU rfl | refine And.intro ?_ ?_ | refine all1 ?_ ?_ | exact all0 | exact .inl (⟨rfl, rfl⟩) | exact .inr (⟨rfl, rfl⟩) | exact rfl | exact allU rfl)
def P_Ratio_bottom : Nat → List D → Fn → Prop := fun j dv sm => False
def R_Ratio_bottom : Nat → MkF → Prop := fun k mk => False
def N_Ratio_bottom : List Str := ["self"]
theorem k_Ratio_bottom : chkSs (cf N_Ratio_bottom (defScope s_Ratio_bottom)) b_Ratio_bottom (defBody s_Ratio_bottom) = true := by decide +kernel
theorem sc_Ratio_bottom : FnScope N_Ratio_bottom ["self"] (defScope s_Ratio_bottom) := ⟨rfl, rfl, rfl, by decide +kernel, rfl, by decide +kernel, by decide +kernel⟩
theorem o_Ratio_bottom : okSs P_Ratio_bottom G R_Ratio_bottom U b_Ratio_bottom := by
  repeat' (first | exact True.intro | exact allU rfl | refine And.intro ?_ ?_ | refine all1 ?_ ?_ | exact all0 | exact .inl (⟨rfl, rfl⟩) | exact .inr (⟨rfl, rfl⟩) | exact rfl | exact allU rfl)
def P_Ratio_sign : Nat → List D → Fn → Prop := fun j dv sm => False
def R_Ratio_sign : Nat → MkF → Prop := fun k mk => False
def N_Ratio_sign : List Str := ["self"]
theorem k_Ratio_sign : chkSs (cf N_Ratio_sign (defScope s_Ratio_sign)) b_Ratio_sign (defBody s_Ratio_sign) = true := by decide +kernel
theorem sc_Ratio_sign : FnScope N_Ratio_sign ["self"] (defScope s_Ratio_sign) := ⟨rfl, rfl, rfl, by decide +kernel, rfl, by decide +kernel, by decide +kernel⟩
theorem o_Ratio_sign : okSs P_Ratio_sign G R_Ratio_sign U b_Ratio_sign := by
  repeat' (first | exact True.intro | exact allU rfl | refine And.intro ?_ ?_ | refine all1 ?_ ?_ | exact all0 | exact .inl (⟨rfl, rfl⟩) | exact .inr (⟨rfl, rfl⟩) | exact rfl | exact allU rfl)
def P_Ratio_bool_ : Nat → List D → Fn → Prop := fun j dv sm => False
def R_Ratio_bool_ : Nat → MkF → Prop := fun k mk => False
def N_Ratio_bool_ : List Str := ["self"]
theorem k_Ratio_bool_ : chkSs (cf N_Ratio_bool_ (defScope s_Ratio_bool_)) b_Ratio_bool_ (defBody s_Ratio_bool_) = true := by decide +kernel
theorem sc_Ratio_bool_ : FnScope N_Ratio_bool_ ["self"] (defScope s_Ratio_bool_) := ⟨rfl, rfl, rfl, by decide +kernel, rfl, by decide +kernel, by decide +kernel⟩
theorem o_Ratio_bool_ : okSs P_Ratio_bool_ G R_Ratio_bool_ U b_Ratio_bool_ := by
  repeat' (first | exact True.intro | exact allU rfl | refine And.intro ?_ ?_ | refine all1 ?_ ?_ | exact all0 | exact .inl (⟨rfl, rfl⟩) | exact .inr (⟨rfl, rfl⟩) | exact rfl | exact allU rfl)
def P__law_shows : Nat → List D → Fn → Prop := fun j dv sm => (j = 7 ∧ dv = [] ∧ sm = sm_Ratio_str_) ∨ (j = 15 ∧ dv = [] ∧ sm = sm_Ratio_top) ∨ (j = 16 ∧ dv = [] ∧ sm = sm_Ratio_bottom) ∨ (j = 17 ∧ dv = [] ∧ sm = sm_Ratio_sign) ∨ (j = 18 ∧ dv = [] ∧ sm = sm_Ratio_bool_)
def R__law_shows : Nat → MkF → Prop := fun k mk => False
def N__law_shows : List Str := ["_law_ratio", "_law_pair_here", "_law_text", "_law_sign", "_law_told"]
theorem k__law_shows : chkSs (cf N__law_shows (defScope s__law_shows)) b__law_shows (defBody s__law_shows) = true := by decide +kernel
theorem sc__law_shows : FnScope N__law_shows ["_law_ratio", "_law_pair_here"] (defScope s__law_shows) := ⟨rfl, rfl, rfl, by decide +kernel, rfl, by decide +kernel, by decide +kernel⟩
theorem o__law_shows : okSs P__law_shows G R__law_shows U b__law_shows := by
  repeat' (first | exact True.intro | exact allU rfl | refine And.intro ?_ ?_ | refine all1 ?_ ?_ | exact all0 | exact .inl (⟨rfl, rfl, rfl⟩) | exact .inr (.inl (⟨rfl, rfl, rfl⟩)) | exact .inr (.inr (.inl (⟨rfl, rfl, rfl⟩))) | exact .inr (.inr (.inr (.inl (⟨rfl, rfl, rfl⟩)))) | exact .inr (.inr (.inr (.inr (⟨rfl, rfl, rfl⟩)))) | exact .inl (⟨rfl, rfl⟩) | exact .inr (⟨rfl, rfl⟩) | exact rfl | exact allU rfl)
def P_parts_of : Nat → List D → Fn → Prop := fun j dv sm => (j = 5 ∧ dv = [] ∧ sm = sm_is_whole) ∨ (j = 7 ∧ dv = [] ∧ sm = sm_Ratio_str_)
def R_parts_of : Nat → MkF → Prop := fun k mk => (k = 1 ∧ mk = mk_InvalidNumber)
def N_parts_of : List Str := ["value"]
theorem k_parts_of : chkSs (cf N_parts_of (defScope s_parts_of)) b_parts_of (defBody s_parts_of) = true := by decide +kernel
theorem sc_parts_of : FnScope N_parts_of ["value"] (defScope s_parts_of) := ⟨rfl, rfl, rfl, by decide +kernel, rfl, by decide +kernel, by decide +kernel⟩
theorem o_parts_of : okSs P_parts_of G R_parts_of U b_parts_of := by
  repeat' (first | exact True.intro | exact allU rfl | refine And.intro ?_ ?_ | refine all1 ?_ ?_ | exact all0 | exact .inl (⟨rfl, rfl, rfl⟩) | exact .inr (⟨rfl, rfl, rfl⟩) | exact .inl (⟨rfl, rfl⟩) | exact .inr (⟨rfl, rfl⟩) | exact ⟨rfl, rfl⟩ | exact rfl | exact allU rfl)
def P_Ratio_compared : Nat → List D → Fn → Prop := fun j dv sm => (j = 20 ∧ dv = [] ∧ sm = sm_parts_of)
def R_Ratio_compared : Nat → MkF → Prop := fun k mk => False
def N_Ratio_compared : List Str := ["self", "other", "top", "bottom", "apart"]
theorem k_Ratio_compared : chkSs (cf N_Ratio_compared (defScope s_Ratio_compared)) b_Ratio_compared (defBody s_Ratio_compared) = true := by decide +kernel
theorem sc_Ratio_compared : FnScope N_Ratio_compared ["self", "other"] (defScope s_Ratio_compared) := ⟨rfl, rfl, rfl, by decide +kernel, rfl, by decide +kernel, by decide +kernel⟩
theorem o_Ratio_compared : okSs P_Ratio_compared G R_Ratio_compared U b_Ratio_compared := by
  repeat' (first | exact True.intro | exact allU rfl | refine And.intro ?_ ?_ | refine all1 ?_ ?_ | exact all0 | exact ⟨rfl, rfl, rfl⟩ | exact .inl (⟨rfl, rfl⟩) | exact .inr (⟨rfl, rfl⟩) | exact rfl | exact allU rfl)
def P__law_compared_right : Nat → List D → Fn → Prop := fun j dv sm => (j = 7 ∧ dv = [] ∧ sm = sm_Ratio_str_) ∨ (j = 9 ∧ dv = [] ∧ sm = sm_Ratio_eq_) ∨ (j = 21 ∧ dv = [] ∧ sm = sm_Ratio_compared)
def R__law_compared_right : Nat → MkF → Prop := fun k mk => False
def N__law_compared_right : List Str := ["_law_ratio", "_law_pair_here", "_law_other", "_law_more", "_law_cross"]
theorem k__law_compared_right : chkSs (cf N__law_compared_right (defScope s__law_compared_right)) b__law_compared_right (defBody s__law_compared_right) = true := by decide +kernel
theorem sc__law_compared_right : FnScope N__law_compared_right ["_law_ratio", "_law_pair_here", "_law_other", "_law_more"] (defScope s__law_compared_right) := ⟨rfl, rfl, rfl, by decide +kernel, rfl, by decide +kernel, by decide +kernel⟩
theorem o__law_compared_right : okSs P__law_compared_right G R__law_compared_right U b__law_compared_right := by
  repeat' (first | exact True.intro | exact allU rfl | refine And.intro ?_ ?_ | refine all1 ?_ ?_ | exact all0 | exact .inl (⟨rfl, rfl, rfl⟩) | exact .inr (.inl (⟨rfl, rfl, rfl⟩)) | exact .inr (.inr (⟨rfl, rfl, rfl⟩)) | exact .inl (⟨rfl, rfl⟩) | exact .inr (⟨rfl, rfl⟩) | exact rfl | exact allU rfl)
def P_ratio_with : Nat → List D → Fn → Prop := fun j dv sm => (j = 11 ∧ dv = [] ∧ sm = sm_Lowest_init_) ∨ (j = 13 ∧ dv = [(.int 1)] ∧ sm = sm_Ratio_init_)
def R_ratio_with : Nat → MkF → Prop := fun k mk => False
def N_ratio_with : List Str := ["top", "bottom"]
theorem k_ratio_with : chkSs (cf N_ratio_with (defScope s_ratio_with)) b_ratio_with (defBody s_ratio_with) = true := by decide +kernel
theorem sc_ratio_with : FnScope N_ratio_with ["top", "bottom"] (defScope s_ratio_with) := ⟨rfl, rfl, rfl, by decide +kernel, rfl, by decide +kernel, by decide +kernel⟩
theorem o_ratio_with : okSs P_ratio_with G R_ratio_with U b_ratio_with := by
  repeat' (first | exact True.intro | exact allU rfl | refine And.intro ?_ ?_ | refine all1 ?_ ?_ | exact all0 | exact .inl (⟨rfl, rfl, rfl⟩) | exact .inr (⟨rfl, rfl, rfl⟩) | exact .inl (⟨rfl, rfl⟩) | exact .inr (⟨rfl, rfl⟩) | exact rfl | exact allU rfl)
def P_Ratio_neg_ : Nat → List D → Fn → Prop := fun j dv sm => (j = 23 ∧ dv = [] ∧ sm = sm_ratio_with)
def R_Ratio_neg_ : Nat → MkF → Prop := fun k mk => False
def N_Ratio_neg_ : List Str := ["self"]
theorem k_Ratio_neg_ : chkSs (cf N_Ratio_neg_ (defScope s_Ratio_neg_)) b_Ratio_neg_ (defBody s_Ratio_neg_) = true := by decide +kernel
theorem sc_Ratio_neg_ : FnScope N_Ratio_neg_ ["self"] (defScope s_Ratio_neg_) := ⟨rfl, rfl, rfl, by decide +kernel, rfl, by decide +kernel, by decide +kernel⟩
theorem o_Ratio_neg_ : okSs P_Ratio_neg_ G R_Ratio_neg_ U b_Ratio_neg_ := by
  repeat' (first | exact True.intro | exact allU rfl | refine And.intro ?_ ?_ | refine all1 ?_ ?_ | exact all0 | exact ⟨rfl, rfl, rfl⟩ | exact .inl (⟨rfl, rfl⟩) | exact .inr (⟨rfl, rfl⟩) | exact rfl | exact allU rfl)
def P_Ratio_over : Nat → List D → Fn → Prop := fun j dv sm => (j = 20 ∧ dv = [] ∧ sm = sm_parts_of) ∨ (j = 23 ∧ dv = [] ∧ sm = sm_ratio_with)
def R_Ratio_over : Nat → MkF → Prop := fun k mk => (k = 0 ∧ mk = mk_InvalidOperation)
def N_Ratio_over : List Str := ["self", "other", "top", "bottom"]
theorem k_Ratio_over : chkSs (cf N_Ratio_over (defScope s_Ratio_over)) b_Ratio_over (defBody s_Ratio_over) = true := by decide +kernel
theorem sc_Ratio_over : FnScope N_Ratio_over ["self", "other"] (defScope s_Ratio_over) := ⟨rfl, rfl, rfl, by decide +kernel, rfl, by decide +kernel, by decide +kernel⟩
theorem o_Ratio_over : okSs P_Ratio_over G R_Ratio_over U b_Ratio_over := by
  repeat' (first | exact True.intro | exact allU rfl | refine And.intro ?_ ?_ | refine all1 ?_ ?_ | exact all0 | exact .inl (⟨rfl, rfl, rfl⟩) | exact .inr (⟨rfl, rfl, rfl⟩) | exact .inl (⟨rfl, rfl⟩) | exact .inr (⟨rfl, rfl⟩) | exact ⟨rfl, rfl⟩ | exact rfl | exact allU rfl)
def P__law_error : Nat → List D → Fn → Prop := fun j dv sm => (j = 21 ∧ dv = [] ∧ sm = sm_Ratio_compared) ∨ (j = 25 ∧ dv = [] ∧ sm = sm_Ratio_over)
def R__law_error : Nat → MkF → Prop := fun k mk => False
def N__law_error : List Str := ["_law_way", "_law_ratio", "_law_value", "error"]
theorem k__law_error : chkSs (cf N__law_error (defScope s__law_error)) b__law_error (defBody s__law_error) = true := by decide +kernel
theorem sc__law_error : FnScope N__law_error ["_law_way", "_law_ratio", "_law_value"] (defScope s__law_error) := ⟨rfl, rfl, rfl, by decide +kernel, rfl, by decide +kernel, by decide +kernel⟩
theorem o__law_error : okSs P__law_error G R__law_error U b__law_error := by
  repeat' (first | exact True.intro | exact allU rfl | refine And.intro ?_ ?_ | refine all1 ?_ ?_ | exact all0 | exact .inl (⟨rfl, rfl, rfl⟩) | exact .inr (⟨rfl, rfl, rfl⟩) | exact .inl (⟨rfl, rfl⟩) | exact .inr (⟨rfl, rfl⟩) | exact rfl | exact allU rfl)
def P_is_number : Nat → List D → Fn → Prop := fun j dv sm => (j = 5 ∧ dv = [] ∧ sm = sm_is_whole)
def R_is_number : Nat → MkF → Prop := fun k mk => False
def N_is_number : List Str := ["value"]
theorem k_is_number : chkSs (cf N_is_number (defScope s_is_number)) b_is_number (defBody s_is_number) = true := by decide +kernel
theorem sc_is_number : FnScope N_is_number ["value"] (defScope s_is_number) := ⟨rfl, rfl, rfl, by decide +kernel, rfl, by decide +kernel, by decide +kernel⟩
theorem o_is_number : okSs P_is_number G R_is_number U b_is_number := by
  repeat' (first | exact True.intro | exact allU rfl | refine And.intro ?_ ?_ | refine all1 ?_ ?_ | exact all0 | exact ⟨rfl, rfl, rfl⟩ | exact .inl (⟨rfl, rfl⟩) | exact .inr (⟨rfl, rfl⟩) | exact rfl | exact allU rfl)
def P_Ratio_add_ : Nat → List D → Fn → Prop := fun j dv sm => (j = 20 ∧ dv = [] ∧ sm = sm_parts_of) ∨ (j = 23 ∧ dv = [] ∧ sm = sm_ratio_with) ∨ (j = 27 ∧ dv = [] ∧ sm = sm_is_number)
def R_Ratio_add_ : Nat → MkF → Prop := fun k mk => False
def N_Ratio_add_ : List Str := ["self", "other", "top", "bottom"]
theorem k_Ratio_add_ : chkSs (cf N_Ratio_add_ (defScope s_Ratio_add_)) b_Ratio_add_ (defBody s_Ratio_add_) = true := by decide +kernel
theorem sc_Ratio_add_ : FnScope N_Ratio_add_ ["self", "other"] (defScope s_Ratio_add_) := ⟨rfl, rfl, rfl, by decide +kernel, rfl, by decide +kernel, by decide +kernel⟩
theorem o_Ratio_add_ : okSs P_Ratio_add_ G R_Ratio_add_ U b_Ratio_add_ := by
  repeat' (first | exact True.intro | exact allU rfl | refine And.intro ?_ ?_ | refine all1 ?_ ?_ | exact all0 | exact .inl (⟨rfl, rfl, rfl⟩) | exact .inr (.inl (⟨rfl, rfl, rfl⟩)) | exact .inr (.inr (⟨rfl, rfl, rfl⟩)) | exact .inl (⟨rfl, rfl⟩) | exact .inr (⟨rfl, rfl⟩) | exact rfl | exact allU rfl)
def P_Ratio_sub_ : Nat → List D → Fn → Prop := fun j dv sm => (j = 20 ∧ dv = [] ∧ sm = sm_parts_of) ∨ (j = 23 ∧ dv = [] ∧ sm = sm_ratio_with) ∨ (j = 27 ∧ dv = [] ∧ sm = sm_is_number)
def R_Ratio_sub_ : Nat → MkF → Prop := fun k mk => False
def N_Ratio_sub_ : List Str := ["self", "other", "top", "bottom"]
theorem k_Ratio_sub_ : chkSs (cf N_Ratio_sub_ (defScope s_Ratio_sub_)) b_Ratio_sub_ (defBody s_Ratio_sub_) = true := by decide +kernel
theorem sc_Ratio_sub_ : FnScope N_Ratio_sub_ ["self", "other"] (defScope s_Ratio_sub_) := ⟨rfl, rfl, rfl, by decide +kernel, rfl, by decide +kernel, by decide +kernel⟩
theorem o_Ratio_sub_ : okSs P_Ratio_sub_ G R_Ratio_sub_ U b_Ratio_sub_ := by
  repeat' (first | exact True.intro | exact allU rfl | refine And.intro ?_ ?_ | refine all1 ?_ ?_ | exact all0 | exact .inl (⟨rfl, rfl, rfl⟩) | exact .inr (.inl (⟨rfl, rfl, rfl⟩)) | exact .inr (.inr (⟨rfl, rfl, rfl⟩)) | exact .inl (⟨rfl, rfl⟩) | exact .inr (⟨rfl, rfl⟩) | exact rfl | exact allU rfl)
def P_Ratio_mul_ : Nat → List D → Fn → Prop := fun j dv sm => (j = 20 ∧ dv = [] ∧ sm = sm_parts_of) ∨ (j = 23 ∧ dv = [] ∧ sm = sm_ratio_with) ∨ (j = 27 ∧ dv = [] ∧ sm = sm_is_number)
def R_Ratio_mul_ : Nat → MkF → Prop := fun k mk => False
def N_Ratio_mul_ : List Str := ["self", "other", "top", "bottom"]
theorem k_Ratio_mul_ : chkSs (cf N_Ratio_mul_ (defScope s_Ratio_mul_)) b_Ratio_mul_ (defBody s_Ratio_mul_) = true := by decide +kernel
theorem sc_Ratio_mul_ : FnScope N_Ratio_mul_ ["self", "other"] (defScope s_Ratio_mul_) := ⟨rfl, rfl, rfl, by decide +kernel, rfl, by decide +kernel, by decide +kernel⟩
theorem o_Ratio_mul_ : okSs P_Ratio_mul_ G R_Ratio_mul_ U b_Ratio_mul_ := by
  repeat' (first | exact True.intro | exact allU rfl | refine And.intro ?_ ?_ | refine all1 ?_ ?_ | exact all0 | exact .inl (⟨rfl, rfl, rfl⟩) | exact .inr (.inl (⟨rfl, rfl, rfl⟩)) | exact .inr (.inr (⟨rfl, rfl, rfl⟩)) | exact .inl (⟨rfl, rfl⟩) | exact .inr (⟨rfl, rfl⟩) | exact rfl | exact allU rfl)
def P__law_done : Nat → List D → Fn → Prop := fun j dv sm => (j = 25 ∧ dv = [] ∧ sm = sm_Ratio_over) ∨ (j = 28 ∧ dv = [] ∧ sm = sm_Ratio_add_) ∨ (j = 29 ∧ dv = [] ∧ sm = sm_Ratio_sub_) ∨ (j = 30 ∧ dv = [] ∧ sm = sm_Ratio_mul_)
def R__law_done : Nat → MkF → Prop := fun k mk => False
def N__law_done : List Str := ["_law_way", "_law_ratio", "_law_other"]
theorem k__law_done : chkSs (cf N__law_done (defScope s__law_done)) b__law_done (defBody s__law_done) = true := by decide +kernel
theorem sc__law_done : FnScope N__law_done ["_law_way", "_law_ratio", "_law_other"] (defScope s__law_done) := ⟨rfl, rfl, rfl, by decide +kernel, rfl, by decide +kernel, by decide +kernel⟩
theorem o__law_done : okSs P__law_done G R__law_done U b__law_done := by
  repeat' (first | exact True.intro | exact allU rfl | refine And.intro ?_ ?_ | refine all1 ?_ ?_ | exact all0 | exact .inl (⟨rfl, rfl, rfl⟩) | exact .inr (.inl (⟨rfl, rfl, rfl⟩)) | exact .inr (.inr (.inl (⟨rfl, rfl, rfl⟩))) | exact .inr (.inr (.inr (⟨rfl, rfl, rfl⟩))) | exact .inl (⟨rfl, rfl⟩) | exact .inr (⟨rfl, rfl⟩) | exact rfl | exact allU rfl)
def P__law_made : Nat → List D → Fn → Prop := fun j dv sm => (j = 14 ∧ dv = [] ∧ sm = sm__law_low)
def R__law_made : Nat → MkF → Prop := fun k mk => False
def N__law_made : List Str := ["_law_way", "_law_one", "_law_other"]
theorem k__law_made : chkSs (cf N__law_made (defScope s__law_made)) b__law_made (defBody s__law_made) = true := by decide +kernel
theorem sc__law_made : FnScope N__law_made ["_law_way", "_law_one", "_law_other"] (defScope s__law_made) := ⟨rfl, rfl, rfl, by decide +kernel, rfl, by decide +kernel, by decide +kernel⟩
theorem o__law_made : okSs P__law_made G R__law_made U b__law_made := by
  repeat' (first | exact True.intro | exact allU rfl | refine And.intro ?_ ?_ | refine all1 ?_ ?_ | exact all0 | exact ⟨rfl, rfl, rfl⟩ | exact .inl (⟨rfl, rfl⟩) | exact .inr (⟨rfl, rfl⟩) | exact rfl | exact allU rfl)
def P__law_row_right : Nat → List D → Fn → Prop := fun j dv sm => (j = 1 ∧ dv = [] ∧ sm = sm__law_take) ∨ (j = 2 ∧ dv = [] ∧ sm = sm__law_some) ∨ (j = 4 ∧ dv = [] ∧ sm = sm__law_pair) ∨ (j = 9 ∧ dv = [] ∧ sm = sm_Ratio_eq_) ∨ (j = 13 ∧ dv = [(.int 1)] ∧ sm = sm_Ratio_init_) ∨ (j = 13 ∧ dv = [] ∧ sm = sm_Ratio_init_) ∨ (j = 14 ∧ dv = [] ∧ sm = sm__law_low) ∨ (j = 15 ∧ dv = [] ∧ sm = sm_Ratio_top) ∨ (j = 16 ∧ dv = [] ∧ sm = sm_Ratio_bottom) ∨ (j = 19 ∧ dv = [] ∧ sm = sm__law_shows) ∨ (j = 22 ∧ dv = [] ∧ sm = sm__law_compared_right) ∨ (j = 24 ∧ dv = [] ∧ sm = sm_Ratio_neg_) ∨ (j = 26 ∧ dv = [] ∧ sm = sm__law_error) ∨ (j = 29 ∧ dv = [] ∧ sm = sm_Ratio_sub_) ∨ (j = 30 ∧ dv = [] ∧ sm = sm_Ratio_mul_) ∨ (j = 31 ∧ dv = [] ∧ sm = sm__law_done) ∨ (j = 32 ∧ dv = [] ∧ sm = sm__law_made)
def R__law_row_right : Nat → MkF → Prop := fun k mk => False
def N__law_row_right : List Str := ["_law_urn_here", "_law_first", "_law_ratio", "_law_pair_here", "_law_turn", "_law_way", "_law_more", "_law_before", "_law_other", "_law_later"]
theorem k__law_row_right : chkSs (cf N__law_row_right (defScope s__law_row_right)) b__law_row_right (defBody s__law_row_right) = true := by decide +kernel
theorem sc__law_row_right : FnScope N__law_row_right ["_law_urn_here"] (defScope s__law_row_right) := ⟨rfl, rfl, rfl, by decide +kernel, rfl, by decide +kernel, by decide +kernel⟩
theorem o__law_row_right : okSs P__law_row_right G R__law_row_right U b__law_row_right := by
  repeat' (first | exact True.intro | exact allU rfl | refine And.intro ?_ ?_ | refine all1 ?_ ?_ | exact all0 | exact .inl (⟨rfl, rfl, rfl⟩) | exact .inr (.inl (⟨rfl, rfl, rfl⟩)) | exact .inr (.inr (.inl (⟨rfl, rfl, rfl⟩))) | exact .inr (.inr (.inr (.inl (⟨rfl, rfl, rfl⟩)))) | exact .inr (.inr (.inr (.inr (.inl (⟨rfl, rfl, rfl⟩))))) | exact .inr (.inr (.inr (.inr (.inr (.inl (⟨rfl, rfl, rfl⟩)))))) | exact .inr (.inr (.inr (.inr (.inr (.inr (.inl (⟨rfl, rfl, rfl⟩))))))) | exact .inr (.inr (.inr (.inr (.inr (.inr (.inr (.inl (⟨rfl, rfl, rfl⟩)))))))) | exact .inr (.inr (.inr (.inr (.inr (.inr (.inr (.inr (.inl (⟨rfl, rfl, rfl⟩))))))))) | exact .inr (.inr (.inr (.inr (.inr (.inr (.inr (.inr (.inr (.inl (⟨rfl, rfl, rfl⟩)))))))))) | exact .inr (.inr (.inr (.inr (.inr (.inr (.inr (.inr (.inr (.inr (.inl (⟨rfl, rfl, rfl⟩))))))))))) | exact .inr (.inr (.inr (.inr (.inr (.inr (.inr (.inr (.inr (.inr (.inr (.inl (⟨rfl, rfl, rfl⟩)))))))))))) | exact .inr (.inr (.inr (.inr (.inr (.inr (.inr (.inr (.inr (.inr (.inr (.inr (.inl (⟨rfl, rfl, rfl⟩))))))))))))) | exact .inr (.inr (.inr (.inr (.inr (.inr (.inr (.inr (.inr (.inr (.inr (.inr (.inr (.inl (⟨rfl, rfl, rfl⟩)))))))))))))) | exact .inr (.inr (.inr (.inr (.inr (.inr (.inr (.inr (.inr (.inr (.inr (.inr (.inr (.inr (.inl (⟨rfl, rfl, rfl⟩))))))))))))))) | exact .inr (.inr (.inr (.inr (.inr (.inr (.inr (.inr (.inr (.inr (.inr (.inr (.inr (.inr (.inr (.inl (⟨rfl, rfl, rfl⟩)))))))))))))))) | exact .inr (.inr (.inr (.inr (.inr (.inr (.inr (.inr (.inr (.inr (.inr (.inr (.inr (.inr (.inr (.inr (⟨rfl, rfl, rfl⟩)))))))))))))))) | exact .inl (⟨rfl, rfl⟩) | exact .inr (⟨rfl, rfl⟩) | exact rfl | exact allU rfl)
def P__law_made_error : Nat → List D → Fn → Prop := fun j dv sm => (j = 13 ∧ dv = [] ∧ sm = sm_Ratio_init_)
def R__law_made_error : Nat → MkF → Prop := fun k mk => False
def N__law_made_error : List Str := ["_law_top", "_law_bottom", "error"]
theorem k__law_made_error : chkSs (cf N__law_made_error (defScope s__law_made_error)) b__law_made_error (defBody s__law_made_error) = true := by decide +kernel
theorem sc__law_made_error : FnScope N__law_made_error ["_law_top", "_law_bottom"] (defScope s__law_made_error) := ⟨rfl, rfl, rfl, by decide +kernel, rfl, by decide +kernel, by decide +kernel⟩
theorem o__law_made_error : okSs P__law_made_error G R__law_made_error U b__law_made_error := by
  repeat' (first | exact True.intro | exact allU rfl | refine And.intro ?_ ?_ | refine all1 ?_ ?_ | exact all0 | exact ⟨rfl, rfl, rfl⟩ | exact .inl (⟨rfl, rfl⟩) | exact .inr (⟨rfl, rfl⟩) | exact rfl | exact allU rfl)
def P__law_wrong_right : Nat → List D → Fn → Prop := fun j dv sm => (j = 2 ∧ dv = [] ∧ sm = sm__law_some) ∨ (j = 3 ∧ dv = [] ∧ sm = sm__law_part) ∨ (j = 9 ∧ dv = [] ∧ sm = sm_Ratio_eq_) ∨ (j = 13 ∧ dv = [] ∧ sm = sm_Ratio_init_) ∨ (j = 26 ∧ dv = [] ∧ sm = sm__law_error) ∨ (j = 34 ∧ dv = [] ∧ sm = sm__law_made_error)
def R__law_wrong_right : Nat → MkF → Prop := fun k mk => False
def N__law_wrong_right : List Str := ["_law_urn_here", "_law_ratio", "_law_wrong", "_law_way", "_law_great", "_law_later"]
theorem k__law_wrong_right : chkSs (cf N__law_wrong_right (defScope s__law_wrong_right)) b__law_wrong_right (defBody s__law_wrong_right) = true := by decide +kernel
theorem sc__law_wrong_right : FnScope N__law_wrong_right ["_law_urn_here"] (defScope s__law_wrong_right) := ⟨rfl, rfl, rfl, by decide +kernel, rfl, by decide +kernel, by decide +kernel⟩
theorem o__law_wrong_right : okSs P__law_wrong_right G R__law_wrong_right U b__law_wrong_right := by
  repeat' (first | exact True.intro | exact allU rfl | refine And.intro ?_ ?_ | refine all1 ?_ ?_ | exact all0 | exact .inl (⟨rfl, rfl, rfl⟩) | exact .inr (.inl (⟨rfl, rfl, rfl⟩)) | exact .inr (.inr (.inl (⟨rfl, rfl, rfl⟩))) | exact .inr (.inr (.inr (.inl (⟨rfl, rfl, rfl⟩)))) | exact .inr (.inr (.inr (.inr (.inl (⟨rfl, rfl, rfl⟩))))) | exact .inr (.inr (.inr (.inr (.inr (⟨rfl, rfl, rfl⟩))))) | exact .inl (⟨rfl, rfl⟩) | exact .inr (⟨rfl, rfl⟩) | exact rfl | exact allU rfl)
def P_law : Nat → List D → Fn → Prop := fun j dv sm => (j = 0 ∧ dv = [] ∧ sm = sm__law_urn) ∨ (j = 7 ∧ dv = [] ∧ sm = sm_Ratio_str_) ∨ (j = 13 ∧ dv = [] ∧ sm = sm_Ratio_init_) ∨ (j = 21 ∧ dv = [] ∧ sm = sm_Ratio_compared) ∨ (j = 25 ∧ dv = [] ∧ sm = sm_Ratio_over) ∨ (j = 28 ∧ dv = [] ∧ sm = sm_Ratio_add_) ∨ (j = 29 ∧ dv = [] ∧ sm = sm_Ratio_sub_) ∨ (j = 30 ∧ dv = [] ∧ sm = sm_Ratio_mul_) ∨ (j = 33 ∧ dv = [] ∧ sm = sm__law_row_right) ∨ (j = 35 ∧ dv = [] ∧ sm = sm__law_wrong_right)
def R_law : Nat → MkF → Prop := fun k mk => False
def N_law : List Str := ["_law_script", "_law_at", "_law_urn_here", "_law_half", "_law_third", "_law_told", "_law_great"]
theorem k_law : chkSs (cf N_law (defScope s_law)) b_law (defBody s_law) = true := by decide +kernel
theorem sc_law : FnScope N_law ["_law_script"] (defScope s_law) := ⟨rfl, rfl, rfl, by decide +kernel, rfl, by decide +kernel, by decide +kernel⟩
theorem o_law : okSs P_law G R_law U b_law := by
  repeat' (first | exact True.intro | exact allU rfl | refine And.intro ?_ ?_ | refine all1 ?_ ?_ | exact all0 | exact .inl (⟨rfl, rfl, rfl⟩) | exact .inr (.inl (⟨rfl, rfl, rfl⟩)) | exact .inr (.inr (.inl (⟨rfl, rfl, rfl⟩))) | exact .inr (.inr (.inr (.inl (⟨rfl, rfl, rfl⟩)))) | exact .inr (.inr (.inr (.inr (.inl (⟨rfl, rfl, rfl⟩))))) | exact .inr (.inr (.inr (.inr (.inr (.inl (⟨rfl, rfl, rfl⟩)))))) | exact .inr (.inr (.inr (.inr (.inr (.inr (.inl (⟨rfl, rfl, rfl⟩))))))) | exact .inr (.inr (.inr (.inr (.inr (.inr (.inr (.inl (⟨rfl, rfl, rfl⟩)))))))) | exact .inr (.inr (.inr (.inr (.inr (.inr (.inr (.inr (.inl (⟨rfl, rfl, rfl⟩))))))))) | exact .inr (.inr (.inr (.inr (.inr (.inr (.inr (.inr (.inr (⟨rfl, rfl, rfl⟩))))))))) | exact .inl (⟨rfl, rfl⟩) | exact .inr (⟨rfl, rfl⟩) | exact rfl | exact allU rfl)
theorem all_mk {Pg : Program} (hPg : Pg = PySem.Challenge.pw_stairlots_k02_whole_rows_of_ratios) {w : World} {K : PySem.W.Frag} {h : Heap} {mg : Str → Option Value} {fa : Addr} (X : K.In h) (G0 : h.Ns mainGlobals mg) (hfa : mg "law" = some (.ref fa))
    {C0 : Addr} {xcd0 : ClassData}
    {C1 : Addr} {xcd1 : ClassData}
    {I1 D1 E1 : Addr} {xod1 xan1 xfo1 xcl1 : Option Addr} {xsl1 xfs1 xcs1 : Array (Option Value)} {xdV1 xkV1 xdc1 xpm1 xct1 xfc1 xcc1 : Value} {xvs1 : Array Value} {xfl1 : Str} {xtk1 : Tok}
    {gt_BEYOND : Tok}
    {gt_BAR : Tok}
    {B0 : Addr}
    {p0_0 : Addr}
    {p0_1 : Addr}
    {B1 : Addr}
    {p1_0 : Addr}
    {p1_1 : Addr}
    {f0 : Addr} {od0 an0 : Option Addr} {sl0 : Array (Option Value)} {oc0 kV0 dc0 pm0 cd0 ct0 : Value}
    {f1 : Addr} {od1 an1 : Option Addr} {sl1 : Array (Option Value)} {oc1 kV1 dc1 pm1 cd1 ct1 : Value}
    {f2 : Addr} {od2 an2 : Option Addr} {sl2 : Array (Option Value)} {oc2 kV2 dc2 pm2 cd2 ct2 : Value}
    {f3 : Addr} {od3 an3 : Option Addr} {sl3 : Array (Option Value)} {oc3 kV3 dc3 pm3 cd3 ct3 : Value}
    {f4 : Addr} {od4 an4 : Option Addr} {sl4 : Array (Option Value)} {oc4 kV4 dc4 pm4 cd4 ct4 : Value}
    {f5 : Addr} {od5 an5 : Option Addr} {sl5 : Array (Option Value)} {oc5 kV5 dc5 pm5 cd5 ct5 : Value}
    {f6 : Addr} {od6 an6 : Option Addr} {sl6 : Array (Option Value)} {oc6 kV6 dc6 pm6 cd6 ct6 : Value}
    {f7 : Addr} {od7 an7 : Option Addr} {sl7 : Array (Option Value)} {oc7 kV7 dc7 pm7 cd7 ct7 : Value}
    {f8 : Addr} {od8 an8 : Option Addr} {sl8 : Array (Option Value)} {oc8 kV8 dc8 pm8 cd8 ct8 : Value}
    {f9 : Addr} {od9 an9 : Option Addr} {sl9 : Array (Option Value)} {oc9 kV9 dc9 pm9 cd9 ct9 : Value}
    {f10 : Addr} {od10 an10 : Option Addr} {sl10 : Array (Option Value)} {oc10 kV10 dc10 pm10 cd10 ct10 : Value}
    {f11 : Addr} {od11 an11 : Option Addr} {sl11 : Array (Option Value)} {oc11 kV11 dc11 pm11 cd11 ct11 : Value}
    {f12 : Addr} {od12 an12 : Option Addr} {sl12 : Array (Option Value)} {oc12 kV12 dc12 pm12 cd12 ct12 : Value}
    {f13 : Addr} {od13 an13 : Option Addr} {sl13 : Array (Option Value)} {oc13 kV13 dc13 pm13 cd13 ct13 : Value}
    {dT13 : Addr} {dto13 : Value} {dtd13 : Option Addr} {dti13 : Array Value} {dtn13 : Nat} {dts13 : Array (Option Value)} {dtk13_0 : Tok}
    {f14 : Addr} {od14 an14 : Option Addr} {sl14 : Array (Option Value)} {oc14 kV14 dc14 pm14 cd14 ct14 : Value}
    {f15 : Addr} {od15 an15 : Option Addr} {sl15 : Array (Option Value)} {oc15 kV15 dc15 pm15 cd15 ct15 : Value}
    {pp15 : Addr} {pr15 : List Value}
    {f16 : Addr} {od16 an16 : Option Addr} {sl16 : Array (Option Value)} {oc16 kV16 dc16 pm16 cd16 ct16 : Value}
    {pp16 : Addr} {pr16 : List Value}
    {f17 : Addr} {od17 an17 : Option Addr} {sl17 : Array (Option Value)} {oc17 kV17 dc17 pm17 cd17 ct17 : Value}
    {pp17 : Addr} {pr17 : List Value}
    {f18 : Addr} {od18 an18 : Option Addr} {sl18 : Array (Option Value)} {oc18 kV18 dc18 pm18 cd18 ct18 : Value}
    {f19 : Addr} {od19 an19 : Option Addr} {sl19 : Array (Option Value)} {oc19 kV19 dc19 pm19 cd19 ct19 : Value}
    {f20 : Addr} {od20 an20 : Option Addr} {sl20 : Array (Option Value)} {oc20 kV20 dc20 pm20 cd20 ct20 : Value}
    {f21 : Addr} {od21 an21 : Option Addr} {sl21 : Array (Option Value)} {oc21 kV21 dc21 pm21 cd21 ct21 : Value}
    {f22 : Addr} {od22 an22 : Option Addr} {sl22 : Array (Option Value)} {oc22 kV22 dc22 pm22 cd22 ct22 : Value}
    {f23 : Addr} {od23 an23 : Option Addr} {sl23 : Array (Option Value)} {oc23 kV23 dc23 pm23 cd23 ct23 : Value}
    {f24 : Addr} {od24 an24 : Option Addr} {sl24 : Array (Option Value)} {oc24 kV24 dc24 pm24 cd24 ct24 : Value}
    {f25 : Addr} {od25 an25 : Option Addr} {sl25 : Array (Option Value)} {oc25 kV25 dc25 pm25 cd25 ct25 : Value}
    {f26 : Addr} {od26 an26 : Option Addr} {sl26 : Array (Option Value)} {oc26 kV26 dc26 pm26 cd26 ct26 : Value}
    {f27 : Addr} {od27 an27 : Option Addr} {sl27 : Array (Option Value)} {oc27 kV27 dc27 pm27 cd27 ct27 : Value}
    {f28 : Addr} {od28 an28 : Option Addr} {sl28 : Array (Option Value)} {oc28 kV28 dc28 pm28 cd28 ct28 : Value}
    {f29 : Addr} {od29 an29 : Option Addr} {sl29 : Array (Option Value)} {oc29 kV29 dc29 pm29 cd29 ct29 : Value}
    {f30 : Addr} {od30 an30 : Option Addr} {sl30 : Array (Option Value)} {oc30 kV30 dc30 pm30 cd30 ct30 : Value}
    {f31 : Addr} {od31 an31 : Option Addr} {sl31 : Array (Option Value)} {oc31 kV31 dc31 pm31 cd31 ct31 : Value}
    {f32 : Addr} {od32 an32 : Option Addr} {sl32 : Array (Option Value)} {oc32 kV32 dc32 pm32 cd32 ct32 : Value}
    {f33 : Addr} {od33 an33 : Option Addr} {sl33 : Array (Option Value)} {oc33 kV33 dc33 pm33 cd33 ct33 : Value}
    {f34 : Addr} {od34 an34 : Option Addr} {sl34 : Array (Option Value)} {oc34 kV34 dc34 pm34 cd34 ct34 : Value}
    {f35 : Addr} {od35 an35 : Option Addr} {sl35 : Array (Option Value)} {oc35 kV35 dc35 pm35 cd35 ct35 : Value}
    {f36 : Addr} {od36 an36 : Option Addr} {sl36 : Array (Option Value)} {oc36 kV36 dc36 pm36 cd36 ct36 : Value}
    (xa0 : PySem.W.nsIn K mainGlobals "InvalidOperation" = some (some (.ref C0)))
    (xk0 : PySem.W.clsIn K C0 = some xcd0)
    (xx0 : PySem.W.subIn K (.ref C0) (.type "BaseException") = some true)
    (xy0 : PySem.W.typeIn K (.ref C0) = some (.type "type"))
    (xkc0 : PySem.W.keepIn K (.ref C0) = true)
    (xq0 : PySem.W.excIn K C0 [.type "ValueError", .type "Exception", .type "BaseException", .type "object"] "ValueError.__new__" = true)
    (xa1 : PySem.W.nsIn K mainGlobals "InvalidNumber" = some (some (.ref C1)))
    (xk1 : PySem.W.clsIn K C1 = some xcd1)
    (xx1 : PySem.W.subIn K (.ref C1) (.type "BaseException") = some true)
    (xy1 : PySem.W.typeIn K (.ref C1) = some (.type "type"))
    (xkc1 : PySem.W.keepIn K (.ref C1) = true)
    (xq1 : PySem.W.excInitIn K C1 [.type "IndexError", .type "LookupError", .type "Exception", .type "BaseException", .type "object"] "IndexError.__new__" = true)
    (xi1 : PySem.W.findIn K (.ref C1) "__init__" = some (some (.ref I1)))
    (xl1 : K.lookup I1 = some ⟨.type "function", xod1, .func (PySem.W.ksFn "__init__" "InvalidNumber.__init__" (defArgs s_InvalidNumber_xinit) (defBody s_InvalidNumber_xinit) (defScope s_InvalidNumber_xinit) xdV1 xkV1 xdc1 xpm1 xan1 (.ref D1) xct1 E1), xsl1⟩)
    (xdf1 : xdV1 = .none)
    (xc1 : PySem.W.codeIn K (.ref D1) "InvalidNumber.__init__" = true)
    (xf1 : K.lookup D1 = some ⟨xfc1, xfo1, .fields xvs1, xfs1⟩)
    (xv1 : xvs1[2]? = some (.str xfl1 xtk1))
    (xff1 : ((Pg.main.file : Str) == xfl1) = true)
    (xe1 : K.lookup E1 = some ⟨xcc1, xcl1, .cell (some (.ref C1)), xcs1⟩)
    (xm1 : PySem.W.mroIn K C1 (.ref C1) = some true)
    (xs1 : PySem.W.ks_superIn K C1 C1 "__init__" = some (some (.builtin "IndexError.__init__")))
    (xb1 : PySem.W.subIn K (.ref C1) (.type "IndexError") = some true)
    (xt1 : PySem.W.findIn K (.ref C1) "__setattr__" = some (some (.builtin "object.__setattr__")))
    (xo1 : PySem.W.excOver K C1 [.type "IndexError", .type "LookupError", .type "Exception", .type "BaseException", .type "object"] = true)
    (xta1 : PySem.W.takerIn K C1 "given" = some none)
    (xh1 : PySem.W.hasDictIn K C1 = true)
    (xga1 : PySem.W.findIn K (.ref C1) "__getattribute__" = some (some (.builtin "BaseException.__getattribute__")))
    (xgg1 : PySem.W.findIn K (.ref C1) "__getattr__" = some none)
    (xnf1 : PySem.W.findIn K (.ref C1) "given" = some none)
    (xu0_0 : PySem.W.subIn K (.ref C0) (.ref C0) = some true)
    (xu0_1 : PySem.W.subIn K (.ref C0) (.ref C1) = some false)
    (xu1_0 : PySem.W.subIn K (.ref C1) (.ref C0) = some false)
    (xu1_1 : PySem.W.subIn K (.ref C1) (.ref C1) = some true)
    (dgt : PySem.W.nsIn K cStatics "sys.int_max_str_digits" = some none)
    (third : PySem.W.nsIn K cStatics "thirdparty.any" = some none)
    (z_super : PySem.W.nsIn K mainGlobals "super" = some none)
    (z_str : PySem.W.nsIn K mainGlobals "str" = some none)
    (z_abs : PySem.W.nsIn K mainGlobals "abs" = some none)
    (z_bool : PySem.W.nsIn K mainGlobals "bool" = some none)
    (z_int : PySem.W.nsIn K mainGlobals "int" = some none)
    (z_len : PySem.W.nsIn K mainGlobals "len" = some none)
    (z_max : PySem.W.nsIn K mainGlobals "max" = some none)
    (z_min : PySem.W.nsIn K mainGlobals "min" = some none)
    (z_repr : PySem.W.nsIn K mainGlobals "repr" = some none)
    (z_isinstance : PySem.W.nsIn K mainGlobals "isinstance" = some none)
    (z_range : PySem.W.nsIn K mainGlobals "range" = some none)
    (z_gcd : PySem.W.nsIn K mainGlobals "gcd" = some (some (.builtin "math.gcd")))
    (g_BEYOND : PySem.W.nsIn K mainGlobals "BEYOND" = some (some (.int 1000000000000000000000000000000000000000000000000000000000000 gt_BEYOND)))
    (g_BAR : PySem.W.nsIn K mainGlobals "BAR" = some (some (.str "/" gt_BAR)))
    (ca0 : PySem.W.nsIn K mainGlobals "Lowest" = some (some (.ref B0)))
    (cs10 : PySem.W.plainGet K B0 Str.empty = true)
    (cs20 : PySem.W.isClsIn K B0 = true)
    (cs30 : PySem.W.plainOver K B0 = true)
    (cs40 : PySem.W.findIn K (.ref B0) "__setattr__" = some (some (.builtin "object.__setattr__")))
    (ci10 : PySem.W.findIn K (.ref B0) "__class__" = some (some (.builtin "object.__class__")))
    (ci2 : PySem.W.specialIn K (.builtin "object.__class__") "__get__" = some (some (.builtin "getset_descriptor.__get__")))
    (ci3 : PySem.W.takesIn K (.builtin "object.__class__") = some true)
    (ci40 : PySem.W.mroIn K B0 (.type "object") = some true)
    (cne0 : PySem.W.findIn K (.ref B0) "__ne__" = some (some (.builtin "object.__ne__")))
    (ckp0 : PySem.W.keepIn K (.ref B0) = true)
    (sa0_0 : PySem.W.findIn K (.ref B0) "own_bottom" = some (some (.ref p0_0)))
    (sb0_0 : PySem.W.specialIn K (.ref p0_0) "__get__" = some (some (.builtin "member_descriptor.__get__")))
    (sc0_0 : PySem.W.takesIn K (.ref p0_0) = some true)
    (sd0_0 : PySem.W.typeIn K (.ref p0_0) = some (.type "member_descriptor"))
    (se0_0 : PySem.W.slotIn K p0_0 B0 = some 0)
    (sa0_1 : PySem.W.findIn K (.ref B0) "own_top" = some (some (.ref p0_1)))
    (sb0_1 : PySem.W.specialIn K (.ref p0_1) "__get__" = some (some (.builtin "member_descriptor.__get__")))
    (sc0_1 : PySem.W.takesIn K (.ref p0_1) = some true)
    (sd0_1 : PySem.W.typeIn K (.ref p0_1) = some (.type "member_descriptor"))
    (se0_1 : PySem.W.slotIn K p0_1 B0 = some 1)
    (ca1 : PySem.W.nsIn K mainGlobals "Ratio" = some (some (.ref B1)))
    (cs11 : PySem.W.plainGet K B1 Str.empty = true)
    (cs21 : PySem.W.isClsIn K B1 = true)
    (cs31 : PySem.W.plainOver K B1 = true)
    (cs41 : PySem.W.findIn K (.ref B1) "__setattr__" = some (some (.builtin "object.__setattr__")))
    (ci11 : PySem.W.findIn K (.ref B1) "__class__" = some (some (.builtin "object.__class__")))
    (ci41 : PySem.W.mroIn K B1 (.type "object") = some true)
    (cne1 : PySem.W.findIn K (.ref B1) "__ne__" = some (some (.builtin "object.__ne__")))
    (ckp1 : PySem.W.keepIn K (.ref B1) = true)
    (sa1_0 : PySem.W.findIn K (.ref B1) "own_bottom" = some (some (.ref p1_0)))
    (sb1_0 : PySem.W.specialIn K (.ref p1_0) "__get__" = some (some (.builtin "member_descriptor.__get__")))
    (sc1_0 : PySem.W.takesIn K (.ref p1_0) = some true)
    (sd1_0 : PySem.W.typeIn K (.ref p1_0) = some (.type "member_descriptor"))
    (se1_0 : PySem.W.slotIn K p1_0 B1 = some 0)
    (sa1_1 : PySem.W.findIn K (.ref B1) "own_top" = some (some (.ref p1_1)))
    (sb1_1 : PySem.W.specialIn K (.ref p1_1) "__get__" = some (some (.builtin "member_descriptor.__get__")))
    (sc1_1 : PySem.W.takesIn K (.ref p1_1) = some true)
    (sd1_1 : PySem.W.typeIn K (.ref p1_1) = some (.type "member_descriptor"))
    (se1_1 : PySem.W.slotIn K p1_1 B1 = some 1)
    (ki0_0 : PySem.W.kitOne K (.ref B0) (.ref B0) = some true)
    (nf0_0 : PySem.W.notFirst K B0 (.ref B0) = true)
    (ki0_1 : PySem.W.kitOne K (.ref B0) (.ref B1) = some false)
    (nf0_1 : PySem.W.notFirst K B0 (.ref B1) = true)
    (kb0_NoneType : PySem.W.kitOne K (.type "NoneType") (.ref B0) = some false)
    (kn0_NoneType : PySem.W.notFirst K B0 (.type "NoneType") = true)
    (ks0_NoneType : PySem.W.subIn K (.type "NoneType") (.ref B0) = some false)
    (kb0_bool : PySem.W.kitOne K (.type "bool") (.ref B0) = some false)
    (kn0_bool : PySem.W.notFirst K B0 (.type "bool") = true)
    (ks0_bool : PySem.W.subIn K (.type "bool") (.ref B0) = some false)
    (kb0_int : PySem.W.kitOne K (.type "int") (.ref B0) = some false)
    (kn0_int : PySem.W.notFirst K B0 (.type "int") = true)
    (ks0_int : PySem.W.subIn K (.type "int") (.ref B0) = some false)
    (kb0_str : PySem.W.kitOne K (.type "str") (.ref B0) = some false)
    (kn0_str : PySem.W.notFirst K B0 (.type "str") = true)
    (ks0_str : PySem.W.subIn K (.type "str") (.ref B0) = some false)
    (kb0_tuple : PySem.W.kitOne K (.type "tuple") (.ref B0) = some false)
    (kn0_tuple : PySem.W.notFirst K B0 (.type "tuple") = true)
    (ks0_tuple : PySem.W.subIn K (.type "tuple") (.ref B0) = some false)
    (kb0_list : PySem.W.kitOne K (.type "list") (.ref B0) = some false)
    (kn0_list : PySem.W.notFirst K B0 (.type "list") = true)
    (ks0_list : PySem.W.subIn K (.type "list") (.ref B0) = some false)
    (kb0_dict : PySem.W.kitOne K (.type "dict") (.ref B0) = some false)
    (kn0_dict : PySem.W.notFirst K B0 (.type "dict") = true)
    (ks0_dict : PySem.W.subIn K (.type "dict") (.ref B0) = some false)
    (kt0_bool : PySem.W.kitOne K (.ref B0) (.type "bool") = some false)
    (kt0_int : PySem.W.kitOne K (.ref B0) (.type "int") = some false)
    (kt0_str : PySem.W.kitOne K (.ref B0) (.type "str") = some false)
    (kt0_tuple : PySem.W.kitOne K (.ref B0) (.type "tuple") = some false)
    (kt0_list : PySem.W.kitOne K (.ref B0) (.type "list") = some false)
    (kt0_dict : PySem.W.kitOne K (.ref B0) (.type "dict") = some false)
    (ki1_0 : PySem.W.kitOne K (.ref B1) (.ref B0) = some false)
    (nf1_0 : PySem.W.notFirst K B1 (.ref B0) = true)
    (ki1_1 : PySem.W.kitOne K (.ref B1) (.ref B1) = some true)
    (nf1_1 : PySem.W.notFirst K B1 (.ref B1) = true)
    (kb1_NoneType : PySem.W.kitOne K (.type "NoneType") (.ref B1) = some false)
    (kn1_NoneType : PySem.W.notFirst K B1 (.type "NoneType") = true)
    (ks1_NoneType : PySem.W.subIn K (.type "NoneType") (.ref B1) = some false)
    (kb1_bool : PySem.W.kitOne K (.type "bool") (.ref B1) = some false)
    (kn1_bool : PySem.W.notFirst K B1 (.type "bool") = true)
    (ks1_bool : PySem.W.subIn K (.type "bool") (.ref B1) = some false)
    (kb1_int : PySem.W.kitOne K (.type "int") (.ref B1) = some false)
    (kn1_int : PySem.W.notFirst K B1 (.type "int") = true)
    (ks1_int : PySem.W.subIn K (.type "int") (.ref B1) = some false)
    (kb1_str : PySem.W.kitOne K (.type "str") (.ref B1) = some false)
    (kn1_str : PySem.W.notFirst K B1 (.type "str") = true)
    (ks1_str : PySem.W.subIn K (.type "str") (.ref B1) = some false)
    (kb1_tuple : PySem.W.kitOne K (.type "tuple") (.ref B1) = some false)
    (kn1_tuple : PySem.W.notFirst K B1 (.type "tuple") = true)
    (ks1_tuple : PySem.W.subIn K (.type "tuple") (.ref B1) = some false)
    (kb1_list : PySem.W.kitOne K (.type "list") (.ref B1) = some false)
    (kn1_list : PySem.W.notFirst K B1 (.type "list") = true)
    (ks1_list : PySem.W.subIn K (.type "list") (.ref B1) = some false)
    (kb1_dict : PySem.W.kitOne K (.type "dict") (.ref B1) = some false)
    (kn1_dict : PySem.W.notFirst K B1 (.type "dict") = true)
    (ks1_dict : PySem.W.subIn K (.type "dict") (.ref B1) = some false)
    (kt1_bool : PySem.W.kitOne K (.ref B1) (.type "bool") = some false)
    (kt1_int : PySem.W.kitOne K (.ref B1) (.type "int") = some false)
    (kt1_str : PySem.W.kitOne K (.ref B1) (.type "str") = some false)
    (kt1_tuple : PySem.W.kitOne K (.ref B1) (.type "tuple") = some false)
    (kt1_list : PySem.W.kitOne K (.ref B1) (.type "list") = some false)
    (kt1_dict : PySem.W.kitOne K (.ref B1) (.type "dict") = some false)
    (a0 : PySem.W.nsIn K mainGlobals "_law_urn" = some (some (.ref f0)))
    (l0 : K.lookup f0 = some ⟨oc0, od0, .func (PySem.W.fnOf "_law_urn" "_law_urn" (defArgs s__law_urn) (defBody s__law_urn) (defScope s__law_urn) .none kV0 dc0 pm0 an0 cd0 ct0), sl0⟩)
    (c0 : PySem.W.codeIn K cd0 "_law_urn" = true)
    (k0 : PySem.W.keepIn K (.ref f0) = true)
    (a1 : PySem.W.nsIn K mainGlobals "_law_take" = some (some (.ref f1)))
    (l1 : K.lookup f1 = some ⟨oc1, od1, .func (PySem.W.fnOf "_law_take" "_law_take" (defArgs s__law_take) (defBody s__law_take) (defScope s__law_take) .none kV1 dc1 pm1 an1 cd1 ct1), sl1⟩)
    (c1 : PySem.W.codeIn K cd1 "_law_take" = true)
    (k1 : PySem.W.keepIn K (.ref f1) = true)
    (a2 : PySem.W.nsIn K mainGlobals "_law_some" = some (some (.ref f2)))
    (l2 : K.lookup f2 = some ⟨oc2, od2, .func (PySem.W.fnOf "_law_some" "_law_some" (defArgs s__law_some) (defBody s__law_some) (defScope s__law_some) .none kV2 dc2 pm2 an2 cd2 ct2), sl2⟩)
    (c2 : PySem.W.codeIn K cd2 "_law_some" = true)
    (k2 : PySem.W.keepIn K (.ref f2) = true)
    (a3 : PySem.W.nsIn K mainGlobals "_law_part" = some (some (.ref f3)))
    (l3 : K.lookup f3 = some ⟨oc3, od3, .func (PySem.W.fnOf "_law_part" "_law_part" (defArgs s__law_part) (defBody s__law_part) (defScope s__law_part) .none kV3 dc3 pm3 an3 cd3 ct3), sl3⟩)
    (c3 : PySem.W.codeIn K cd3 "_law_part" = true)
    (k3 : PySem.W.keepIn K (.ref f3) = true)
    (a4 : PySem.W.nsIn K mainGlobals "_law_pair" = some (some (.ref f4)))
    (l4 : K.lookup f4 = some ⟨oc4, od4, .func (PySem.W.fnOf "_law_pair" "_law_pair" (defArgs s__law_pair) (defBody s__law_pair) (defScope s__law_pair) .none kV4 dc4 pm4 an4 cd4 ct4), sl4⟩)
    (c4 : PySem.W.codeIn K cd4 "_law_pair" = true)
    (k4 : PySem.W.keepIn K (.ref f4) = true)
    (a5 : PySem.W.nsIn K mainGlobals "is_whole" = some (some (.ref f5)))
    (l5 : K.lookup f5 = some ⟨oc5, od5, .func (PySem.W.fnOf "is_whole" "is_whole" (defArgs s_is_whole) (defBody s_is_whole) (defScope s_is_whole) .none kV5 dc5 pm5 an5 cd5 ct5), sl5⟩)
    (c5 : PySem.W.codeIn K cd5 "is_whole" = true)
    (k5 : PySem.W.keepIn K (.ref f5) = true)
    (a6 : PySem.W.nsIn K mainGlobals "is_integer" = some (some (.ref f6)))
    (l6 : K.lookup f6 = some ⟨oc6, od6, .func (PySem.W.fnOf "is_integer" "is_integer" (defArgs s_is_integer) (defBody s_is_integer) (defScope s_is_integer) .none kV6 dc6 pm6 an6 cd6 ct6), sl6⟩)
    (c6 : PySem.W.codeIn K cd6 "is_integer" = true)
    (k6 : PySem.W.keepIn K (.ref f6) = true)
    (a7 : PySem.W.findIn K (.ref B1) "__str__" = some (some (.ref f7)))
    (fn7 : PySem.W.isFn K (.ref f7) = true)
    (l7 : K.lookup f7 = some ⟨oc7, od7, .func (PySem.W.fnOf "__str__" "Ratio.__str__" (defArgs s_Ratio_str_) (defBody s_Ratio_str_) (defScope s_Ratio_str_) .none kV7 dc7 pm7 an7 cd7 ct7), sl7⟩)
    (c7 : PySem.W.codeIn K cd7 "Ratio.__str__" = true)
    (k7 : PySem.W.keepIn K (.ref f7) = true)
    (a8 : PySem.W.nsIn K mainGlobals "require_integer" = some (some (.ref f8)))
    (l8 : K.lookup f8 = some ⟨oc8, od8, .func (PySem.W.fnOf "require_integer" "require_integer" (defArgs s_require_integer) (defBody s_require_integer) (defScope s_require_integer) .none kV8 dc8 pm8 an8 cd8 ct8), sl8⟩)
    (c8 : PySem.W.codeIn K cd8 "require_integer" = true)
    (k8 : PySem.W.keepIn K (.ref f8) = true)
    (a9 : PySem.W.findIn K (.ref B1) "__eq__" = some (some (.ref f9)))
    (fn9 : PySem.W.isFn K (.ref f9) = true)
    (l9 : K.lookup f9 = some ⟨oc9, od9, .func (PySem.W.fnOf "__eq__" "Ratio.__eq__" (defArgs s_Ratio_eq_) (defBody s_Ratio_eq_) (defScope s_Ratio_eq_) .none kV9 dc9 pm9 an9 cd9 ct9), sl9⟩)
    (c9 : PySem.W.codeIn K cd9 "Ratio.__eq__" = true)
    (k9 : PySem.W.keepIn K (.ref f9) = true)
    (a10 : PySem.W.nsIn K mainGlobals "common_of" = some (some (.ref f10)))
    (l10 : K.lookup f10 = some ⟨oc10, od10, .func (PySem.W.fnOf "common_of" "common_of" (defArgs s_common_of) (defBody s_common_of) (defScope s_common_of) .none kV10 dc10 pm10 an10 cd10 ct10), sl10⟩)
    (c10 : PySem.W.codeIn K cd10 "common_of" = true)
    (k10 : PySem.W.keepIn K (.ref f10) = true)
    (a11 : PySem.W.findIn K (.ref B0) "__init__" = some (some (.ref f11)))
    (mk11 : PySem.W.makesIn K B0 = true)
    (fn11 : PySem.W.isFn K (.ref f11) = true)
    (l11 : K.lookup f11 = some ⟨oc11, od11, .func (PySem.W.fnOf "__init__" "Lowest.__init__" (defArgs s_Lowest_init_) (defBody s_Lowest_init_) (defScope s_Lowest_init_) .none kV11 dc11 pm11 an11 cd11 ct11), sl11⟩)
    (c11 : PySem.W.codeIn K cd11 "Lowest.__init__" = true)
    (k11 : PySem.W.keepIn K (.ref f11) = true)
    (a12 : PySem.W.nsIn K mainGlobals "lowest_told" = some (some (.ref f12)))
    (l12 : K.lookup f12 = some ⟨oc12, od12, .func (PySem.W.fnOf "lowest_told" "lowest_told" (defArgs s_lowest_told) (defBody s_lowest_told) (defScope s_lowest_told) .none kV12 dc12 pm12 an12 cd12 ct12), sl12⟩)
    (c12 : PySem.W.codeIn K cd12 "lowest_told" = true)
    (k12 : PySem.W.keepIn K (.ref f12) = true)
    (a13 : PySem.W.findIn K (.ref B1) "__init__" = some (some (.ref f13)))
    (mk13 : PySem.W.makesIn K B1 = true)
    (fn13 : PySem.W.isFn K (.ref f13) = true)
    (l13 : K.lookup f13 = some ⟨oc13, od13, .func (PySem.W.fnOf "__init__" "Ratio.__init__" (defArgs s_Ratio_init_) (defBody s_Ratio_init_) (defScope s_Ratio_init_) (.ref dT13) kV13 dc13 pm13 an13 cd13 ct13), sl13⟩)
    (c13 : PySem.W.codeIn K cd13 "Ratio.__init__" = true)
    (k13 : PySem.W.keepIn K (.ref f13) = true)
    (dl13 : K.lookup dT13 = some ⟨dto13, dtd13, .seq dti13 dtn13, dts13⟩)
    (dv13 : dti13 = ([.int 1 dtk13_0] : List Value).toArray)
    (a14 : PySem.W.nsIn K mainGlobals "_law_low" = some (some (.ref f14)))
    (l14 : K.lookup f14 = some ⟨oc14, od14, .func (PySem.W.fnOf "_law_low" "_law_low" (defArgs s__law_low) (defBody s__law_low) (defScope s__law_low) .none kV14 dc14 pm14 an14 cd14 ct14), sl14⟩)
    (c14 : PySem.W.codeIn K cd14 "_law_low" = true)
    (k14 : PySem.W.keepIn K (.ref f14) = true)
    (a15 : PySem.W.findIn K (.ref B1) "top" = some (some (.ref pp15)))
    (pg15 : PySem.W.specialIn K (.ref pp15) "__get__" = some (some (.builtin "property.__get__")))
    (pt15 : PySem.W.takesIn K (.ref pp15) = some true)
    (pc15 : PySem.W.recIn K pp15 "property" = some (.ref f15 :: pr15))
    (fn15 : PySem.W.isFn K (.ref f15) = true)
    (l15 : K.lookup f15 = some ⟨oc15, od15, .func (PySem.W.fnOf "top" "Ratio.top" (defArgs s_Ratio_top) (defBody s_Ratio_top) (defScope s_Ratio_top) .none kV15 dc15 pm15 an15 cd15 ct15), sl15⟩)
    (c15 : PySem.W.codeIn K cd15 "Ratio.top" = true)
    (k15 : PySem.W.keepIn K (.ref f15) = true)
    (a16 : PySem.W.findIn K (.ref B1) "bottom" = some (some (.ref pp16)))
    (pg16 : PySem.W.specialIn K (.ref pp16) "__get__" = some (some (.builtin "property.__get__")))
    (pt16 : PySem.W.takesIn K (.ref pp16) = some true)
    (pc16 : PySem.W.recIn K pp16 "property" = some (.ref f16 :: pr16))
    (fn16 : PySem.W.isFn K (.ref f16) = true)
    (l16 : K.lookup f16 = some ⟨oc16, od16, .func (PySem.W.fnOf "bottom" "Ratio.bottom" (defArgs s_Ratio_bottom) (defBody s_Ratio_bottom) (defScope s_Ratio_bottom) .none kV16 dc16 pm16 an16 cd16 ct16), sl16⟩)
    (c16 : PySem.W.codeIn K cd16 "Ratio.bottom" = true)
    (k16 : PySem.W.keepIn K (.ref f16) = true)
    (a17 : PySem.W.findIn K (.ref B1) "sign" = some (some (.ref pp17)))
    (pg17 : PySem.W.specialIn K (.ref pp17) "__get__" = some (some (.builtin "property.__get__")))
    (pt17 : PySem.W.takesIn K (.ref pp17) = some true)
    (pc17 : PySem.W.recIn K pp17 "property" = some (.ref f17 :: pr17))
    (fn17 : PySem.W.isFn K (.ref f17) = true)
    (l17 : K.lookup f17 = some ⟨oc17, od17, .func (PySem.W.fnOf "sign" "Ratio.sign" (defArgs s_Ratio_sign) (defBody s_Ratio_sign) (defScope s_Ratio_sign) .none kV17 dc17 pm17 an17 cd17 ct17), sl17⟩)
    (c17 : PySem.W.codeIn K cd17 "Ratio.sign" = true)
    (k17 : PySem.W.keepIn K (.ref f17) = true)
    (a18 : PySem.W.findIn K (.ref B1) "__bool__" = some (some (.ref f18)))
    (fn18 : PySem.W.isFn K (.ref f18) = true)
    (l18 : K.lookup f18 = some ⟨oc18, od18, .func (PySem.W.fnOf "__bool__" "Ratio.__bool__" (defArgs s_Ratio_bool_) (defBody s_Ratio_bool_) (defScope s_Ratio_bool_) .none kV18 dc18 pm18 an18 cd18 ct18), sl18⟩)
    (c18 : PySem.W.codeIn K cd18 "Ratio.__bool__" = true)
    (k18 : PySem.W.keepIn K (.ref f18) = true)
    (a19 : PySem.W.nsIn K mainGlobals "_law_shows" = some (some (.ref f19)))
    (l19 : K.lookup f19 = some ⟨oc19, od19, .func (PySem.W.fnOf "_law_shows" "_law_shows" (defArgs s__law_shows) (defBody s__law_shows) (defScope s__law_shows) .none kV19 dc19 pm19 an19 cd19 ct19), sl19⟩)
    (c19 : PySem.W.codeIn K cd19 "_law_shows" = true)
    (k19 : PySem.W.keepIn K (.ref f19) = true)
    (a20 : PySem.W.nsIn K mainGlobals "parts_of" = some (some (.ref f20)))
    (l20 : K.lookup f20 = some ⟨oc20, od20, .func (PySem.W.fnOf "parts_of" "parts_of" (defArgs s_parts_of) (defBody s_parts_of) (defScope s_parts_of) .none kV20 dc20 pm20 an20 cd20 ct20), sl20⟩)
    (c20 : PySem.W.codeIn K cd20 "parts_of" = true)
    (k20 : PySem.W.keepIn K (.ref f20) = true)
    (a21 : PySem.W.findIn K (.ref B1) "compared" = some (some (.ref f21)))
    (fn21 : PySem.W.isFn K (.ref f21) = true)
    (l21 : K.lookup f21 = some ⟨oc21, od21, .func (PySem.W.fnOf "compared" "Ratio.compared" (defArgs s_Ratio_compared) (defBody s_Ratio_compared) (defScope s_Ratio_compared) .none kV21 dc21 pm21 an21 cd21 ct21), sl21⟩)
    (c21 : PySem.W.codeIn K cd21 "Ratio.compared" = true)
    (k21 : PySem.W.keepIn K (.ref f21) = true)
    (a22 : PySem.W.nsIn K mainGlobals "_law_compared_right" = some (some (.ref f22)))
    (l22 : K.lookup f22 = some ⟨oc22, od22, .func (PySem.W.fnOf "_law_compared_right" "_law_compared_right" (defArgs s__law_compared_right) (defBody s__law_compared_right) (defScope s__law_compared_right) .none kV22 dc22 pm22 an22 cd22 ct22), sl22⟩)
    (c22 : PySem.W.codeIn K cd22 "_law_compared_right" = true)
    (k22 : PySem.W.keepIn K (.ref f22) = true)
    (a23 : PySem.W.nsIn K mainGlobals "ratio_with" = some (some (.ref f23)))
    (l23 : K.lookup f23 = some ⟨oc23, od23, .func (PySem.W.fnOf "ratio_with" "ratio_with" (defArgs s_ratio_with) (defBody s_ratio_with) (defScope s_ratio_with) .none kV23 dc23 pm23 an23 cd23 ct23), sl23⟩)
    (c23 : PySem.W.codeIn K cd23 "ratio_with" = true)
    (k23 : PySem.W.keepIn K (.ref f23) = true)
    (a24 : PySem.W.findIn K (.ref B1) "__neg__" = some (some (.ref f24)))
    (fn24 : PySem.W.isFn K (.ref f24) = true)
    (l24 : K.lookup f24 = some ⟨oc24, od24, .func (PySem.W.fnOf "__neg__" "Ratio.__neg__" (defArgs s_Ratio_neg_) (defBody s_Ratio_neg_) (defScope s_Ratio_neg_) .none kV24 dc24 pm24 an24 cd24 ct24), sl24⟩)
    (c24 : PySem.W.codeIn K cd24 "Ratio.__neg__" = true)
    (k24 : PySem.W.keepIn K (.ref f24) = true)
    (a25 : PySem.W.findIn K (.ref B1) "over" = some (some (.ref f25)))
    (fn25 : PySem.W.isFn K (.ref f25) = true)
    (l25 : K.lookup f25 = some ⟨oc25, od25, .func (PySem.W.fnOf "over" "Ratio.over" (defArgs s_Ratio_over) (defBody s_Ratio_over) (defScope s_Ratio_over) .none kV25 dc25 pm25 an25 cd25 ct25), sl25⟩)
    (c25 : PySem.W.codeIn K cd25 "Ratio.over" = true)
    (k25 : PySem.W.keepIn K (.ref f25) = true)
    (a26 : PySem.W.nsIn K mainGlobals "_law_error" = some (some (.ref f26)))
    (l26 : K.lookup f26 = some ⟨oc26, od26, .func (PySem.W.fnOf "_law_error" "_law_error" (defArgs s__law_error) (defBody s__law_error) (defScope s__law_error) .none kV26 dc26 pm26 an26 cd26 ct26), sl26⟩)
    (c26 : PySem.W.codeIn K cd26 "_law_error" = true)
    (k26 : PySem.W.keepIn K (.ref f26) = true)
    (a27 : PySem.W.nsIn K mainGlobals "is_number" = some (some (.ref f27)))
    (l27 : K.lookup f27 = some ⟨oc27, od27, .func (PySem.W.fnOf "is_number" "is_number" (defArgs s_is_number) (defBody s_is_number) (defScope s_is_number) .none kV27 dc27 pm27 an27 cd27 ct27), sl27⟩)
    (c27 : PySem.W.codeIn K cd27 "is_number" = true)
    (k27 : PySem.W.keepIn K (.ref f27) = true)
    (a28 : PySem.W.findIn K (.ref B1) "__add__" = some (some (.ref f28)))
    (sf28 : PySem.W.selfFirst K B1 = true)
    (sr28 : PySem.W.findIn K (.ref B1) "__radd__" = some none)
    (fn28 : PySem.W.isFn K (.ref f28) = true)
    (l28 : K.lookup f28 = some ⟨oc28, od28, .func (PySem.W.fnOf "__add__" "Ratio.__add__" (defArgs s_Ratio_add_) (defBody s_Ratio_add_) (defScope s_Ratio_add_) .none kV28 dc28 pm28 an28 cd28 ct28), sl28⟩)
    (c28 : PySem.W.codeIn K cd28 "Ratio.__add__" = true)
    (k28 : PySem.W.keepIn K (.ref f28) = true)
    (a29 : PySem.W.findIn K (.ref B1) "__sub__" = some (some (.ref f29)))
    (sf29 : PySem.W.selfFirst K B1 = true)
    (sr29 : PySem.W.findIn K (.ref B1) "__rsub__" = some none)
    (fn29 : PySem.W.isFn K (.ref f29) = true)
    (l29 : K.lookup f29 = some ⟨oc29, od29, .func (PySem.W.fnOf "__sub__" "Ratio.__sub__" (defArgs s_Ratio_sub_) (defBody s_Ratio_sub_) (defScope s_Ratio_sub_) .none kV29 dc29 pm29 an29 cd29 ct29), sl29⟩)
    (c29 : PySem.W.codeIn K cd29 "Ratio.__sub__" = true)
    (k29 : PySem.W.keepIn K (.ref f29) = true)
    (a30 : PySem.W.findIn K (.ref B1) "__mul__" = some (some (.ref f30)))
    (sf30 : PySem.W.selfFirst K B1 = true)
    (sr30 : PySem.W.findIn K (.ref B1) "__rmul__" = some none)
    (fn30 : PySem.W.isFn K (.ref f30) = true)
    (l30 : K.lookup f30 = some ⟨oc30, od30, .func (PySem.W.fnOf "__mul__" "Ratio.__mul__" (defArgs s_Ratio_mul_) (defBody s_Ratio_mul_) (defScope s_Ratio_mul_) .none kV30 dc30 pm30 an30 cd30 ct30), sl30⟩)
    (c30 : PySem.W.codeIn K cd30 "Ratio.__mul__" = true)
    (k30 : PySem.W.keepIn K (.ref f30) = true)
    (a31 : PySem.W.nsIn K mainGlobals "_law_done" = some (some (.ref f31)))
    (l31 : K.lookup f31 = some ⟨oc31, od31, .func (PySem.W.fnOf "_law_done" "_law_done" (defArgs s__law_done) (defBody s__law_done) (defScope s__law_done) .none kV31 dc31 pm31 an31 cd31 ct31), sl31⟩)
    (c31 : PySem.W.codeIn K cd31 "_law_done" = true)
    (k31 : PySem.W.keepIn K (.ref f31) = true)
    (a32 : PySem.W.nsIn K mainGlobals "_law_made" = some (some (.ref f32)))
    (l32 : K.lookup f32 = some ⟨oc32, od32, .func (PySem.W.fnOf "_law_made" "_law_made" (defArgs s__law_made) (defBody s__law_made) (defScope s__law_made) .none kV32 dc32 pm32 an32 cd32 ct32), sl32⟩)
    (c32 : PySem.W.codeIn K cd32 "_law_made" = true)
    (k32 : PySem.W.keepIn K (.ref f32) = true)
    (a33 : PySem.W.nsIn K mainGlobals "_law_row_right" = some (some (.ref f33)))
    (l33 : K.lookup f33 = some ⟨oc33, od33, .func (PySem.W.fnOf "_law_row_right" "_law_row_right" (defArgs s__law_row_right) (defBody s__law_row_right) (defScope s__law_row_right) .none kV33 dc33 pm33 an33 cd33 ct33), sl33⟩)
    (c33 : PySem.W.codeIn K cd33 "_law_row_right" = true)
    (k33 : PySem.W.keepIn K (.ref f33) = true)
    (a34 : PySem.W.nsIn K mainGlobals "_law_made_error" = some (some (.ref f34)))
    (l34 : K.lookup f34 = some ⟨oc34, od34, .func (PySem.W.fnOf "_law_made_error" "_law_made_error" (defArgs s__law_made_error) (defBody s__law_made_error) (defScope s__law_made_error) .none kV34 dc34 pm34 an34 cd34 ct34), sl34⟩)
    (c34 : PySem.W.codeIn K cd34 "_law_made_error" = true)
    (k34 : PySem.W.keepIn K (.ref f34) = true)
    (a35 : PySem.W.nsIn K mainGlobals "_law_wrong_right" = some (some (.ref f35)))
    (l35 : K.lookup f35 = some ⟨oc35, od35, .func (PySem.W.fnOf "_law_wrong_right" "_law_wrong_right" (defArgs s__law_wrong_right) (defBody s__law_wrong_right) (defScope s__law_wrong_right) .none kV35 dc35 pm35 an35 cd35 ct35), sl35⟩)
    (c35 : PySem.W.codeIn K cd35 "_law_wrong_right" = true)
    (k35 : PySem.W.keepIn K (.ref f35) = true)
    (a36 : PySem.W.nsIn K mainGlobals "law" = some (some (.ref f36)))
    (l36 : K.lookup f36 = some ⟨oc36, od36, .func (PySem.W.fnOf "law" "law" (defArgs s_law) (defBody s_law) (defScope s_law) .none kV36 dc36 pm36 an36 cd36 ct36), sl36⟩)
    (c36 : PySem.W.codeIn K cd36 "law" = true)
    (k36 : PySem.W.keepIn K (.ref f36) = true)
    : ∃ (T : Tb) (fd : FuncData), T.K = K ∧ (∀ (s : Shared) (u : Value), BindsTo s fd ⟨[u], []⟩ [("_law_script", u)]) ∧ ∀ base : Heap, K.In base → base.Ns mainGlobals mg → FnG Pg w K mg base 28 fa fd ["_law_script"] (spOf T sm_law) := by
  have e := hfa.symm.trans (PySem.W.mg_of X G0 a36)
  cases e
  subst dv13
  subst xdf1
  have ok0 : ClsOk K B0 ["own_bottom", "own_top"] := ⟨⟨cs10, cs20, cs30, cs40⟩, ⟨ci10, ci2, ci3, ci40⟩, cne0, fun j f e => by
      match j, f, e with
      | 0, f, e => exact ⟨p0_0, by cases e; exact ⟨sa0_0, sb0_0, sc0_0, sd0_0, se0_0, by decide⟩⟩
      | 1, f, e => exact ⟨p0_1, by cases e; exact ⟨sa0_1, sb0_1, sc0_1, sd0_1, se0_1, by decide⟩⟩
      | _ + 2, f, e => cases e⟩
  have ok1 : ClsOk K B1 ["own_bottom", "own_top"] := ⟨⟨cs11, cs21, cs31, cs41⟩, ⟨ci11, ci2, ci3, ci41⟩, cne1, fun j f e => by
      match j, f, e with
      | 0, f, e => exact ⟨p1_0, by cases e; exact ⟨sa1_0, sb1_0, sc1_0, sd1_0, se1_0, by decide⟩⟩
      | 1, f, e => exact ⟨p1_1, by cases e; exact ⟨sa1_1, sb1_1, sc1_1, sd1_1, se1_1, by decide⟩⟩
      | _ + 2, f, e => cases e⟩
  have tcok : ∀ k, k < 2 → ClsOk K ((fun x : Nat => match x with | 0 => B0 | _ => B1 : Nat → Addr) k) (slN k) := by
    intro k hk
    have hh : k = 0 ∨ k = 1 := by omega
    rcases hh with rfl | rfl
    · exact ok0
    · exact ok1
  have tkit : ∀ j k, j < 2 → k < 2 → PySem.W.kitOne K (.ref ((fun x : Nat => match x with | 0 => B0 | _ => B1 : Nat → Addr) j)) (.ref ((fun x : Nat => match x with | 0 => B0 | _ => B1 : Nat → Addr) k)) = some (j == k) := by
    intro j k hj hk
    have hh : j = 0 ∨ j = 1 := by omega
    rcases hh with rfl | rfl
    ·
      have hh : k = 0 ∨ k = 1 := by omega
      rcases hh with rfl | rfl
      · exact ki0_0
      · exact ki0_1
    ·
      have hh : k = 0 ∨ k = 1 := by omega
      rcases hh with rfl | rfl
      · exact ki1_0
      · exact ki1_1
  have tnf : ∀ j k, j < 2 → k < 2 → PySem.W.notFirst K ((fun x : Nat => match x with | 0 => B0 | _ => B1 : Nat → Addr) j) (.ref ((fun x : Nat => match x with | 0 => B0 | _ => B1 : Nat → Addr) k)) = true := by
    intro j k hj hk
    have hh : j = 0 ∨ j = 1 := by omega
    rcases hh with rfl | rfl
    ·
      have hh : k = 0 ∨ k = 1 := by omega
      rcases hh with rfl | rfl
      · exact nf0_0
      · exact nf0_1
    ·
      have hh : k = 0 ∨ k = 1 := by omega
      rcases hh with rfl | rfl
      · exact nf1_0
      · exact nf1_1
  have tkib : ∀ k, k < 2 → ∀ t ∈ ["NoneType", "bool", "int", "str", "tuple", "list", "dict"], PySem.W.kitOne K (.type t) (.ref ((fun x : Nat => match x with | 0 => B0 | _ => B1 : Nat → Addr) k)) = some false ∧ PySem.W.notFirst K ((fun x : Nat => match x with | 0 => B0 | _ => B1 : Nat → Addr) k) (.type t) = true ∧ PySem.W.subIn K (.type t) (.ref ((fun x : Nat => match x with | 0 => B0 | _ => B1 : Nat → Addr) k)) = some false := by
    intro k hk t ht
    simp only [List.mem_cons, List.not_mem_nil, or_false] at ht
    have hh : k = 0 ∨ k = 1 := by omega
    rcases hh with rfl | rfl
    · rcases ht with rfl | rfl | rfl | rfl | rfl | rfl | rfl
      · exact ⟨kb0_NoneType, kn0_NoneType, ks0_NoneType⟩
      · exact ⟨kb0_bool, kn0_bool, ks0_bool⟩
      · exact ⟨kb0_int, kn0_int, ks0_int⟩
      · exact ⟨kb0_str, kn0_str, ks0_str⟩
      · exact ⟨kb0_tuple, kn0_tuple, ks0_tuple⟩
      · exact ⟨kb0_list, kn0_list, ks0_list⟩
      · exact ⟨kb0_dict, kn0_dict, ks0_dict⟩
    · rcases ht with rfl | rfl | rfl | rfl | rfl | rfl | rfl
      · exact ⟨kb1_NoneType, kn1_NoneType, ks1_NoneType⟩
      · exact ⟨kb1_bool, kn1_bool, ks1_bool⟩
      · exact ⟨kb1_int, kn1_int, ks1_int⟩
      · exact ⟨kb1_str, kn1_str, ks1_str⟩
      · exact ⟨kb1_tuple, kn1_tuple, ks1_tuple⟩
      · exact ⟨kb1_list, kn1_list, ks1_list⟩
      · exact ⟨kb1_dict, kn1_dict, ks1_dict⟩
  have tkti : ∀ k, k < 2 → ∀ t ∈ ["bool", "int", "str", "tuple", "list", "dict"], PySem.W.kitOne K (.ref ((fun x : Nat => match x with | 0 => B0 | _ => B1 : Nat → Addr) k)) (.type t) = some false := by
    intro k hk t ht
    simp only [List.mem_cons, List.not_mem_nil, or_false] at ht
    have hh : k = 0 ∨ k = 1 := by omega
    rcases hh with rfl | rfl
    · rcases ht with rfl | rfl | rfl | rfl | rfl | rfl
      · exact kt0_bool
      · exact kt0_int
      · exact kt0_str
      · exact kt0_tuple
      · exact kt0_list
      · exact kt0_dict
    · rcases ht with rfl | rfl | rfl | rfl | rfl | rfl
      · exact kt1_bool
      · exact kt1_int
      · exact kt1_str
      · exact kt1_tuple
      · exact kt1_list
      · exact kt1_dict
  let T : Tb := { K := K, ca := (fun x : Nat => match x with | 0 => B0 | _ => B1 : Nat → Addr), nc := 2, sl := slN, cok := tcok, kit := tkit, kib := tkib, kti := tkti, nf := tnf, dg := dgt, xa := fun x => match x with | 0 => .ref C0 | _ => .ref C1, xf := fun x => match x with | 0 => "" | _ => "given", xm := xm, hc := fun x => match x with | 0 => .ref C0 | _ => .ref C1 }
  have Y1 : XCls Pg K C1 "IndexError" "IndexError.__init__" "IndexError.__new__" [.type "IndexError", .type "LookupError", .type "Exception", .type "BaseException", .type "object"] I1 D1 E1 "InvalidNumber.__init__" "self" "given" "given" (defScope s_InvalidNumber_xinit) (defBody s_InvalidNumber_xinit) (.Call (.Name "str" _) [.Name "given" _] [] _) :=
    { FB := PySem.F.excBase_IndexError, KF := PySem.W.kxs_IndexError, SF := PySem.F.store_IndexError, q := xq1, init := xi1, fn := ⟨_, _, _, _, _, _, _, _, _, _, _, _, xl1, rfl, rfl, rfl, fun s x y => .of_eq rfl⟩, code := xc1, file := ⟨_, _, _, _, _, _, xf1, xv1, xff1⟩, cell := ⟨_, _, _, xe1⟩, cls := ⟨_, xk1⟩, mro := xm1, sup := xs1, sub := xb1, third := third, sa := xt1, over := xo1, taker := xta1, hd := xh1, exC := xx1, tyC := xy1, kC := xkc1, top := by rw [hPg]; decide +kernel, txt := ⟨_, _, _, _, _, _, _, _, _, rfl, fun L => ⟨_, rfl⟩⟩, ks := by decide +kernel, kc := by decide +kernel, kslf := by decide +kernel, kpar := by decide +kernel, hne := by decide +kernel, dslf := by decide +kernel, dpar := by decide +kernel, nocell := by decide +kernel, kind := rfl, co := rfl, gen := rfl }
  have gl0 : ∀ N sc, ∀ base : Heap, Glob T Pg w K mg base G U (cf N sc) := fun N sc base => by
    refine { hK := rfl, bl := fun b hb => ?_, isi := fun hq => ?_, ty := fun t ht => ?_, rg := fun hq => ?_, gl := fun i d hd => ?_, cl := ⟨Nat.le_refl _, fun _ _ => rfl, fun k hk => ?_⟩, hn := fun k hk => ?_, xm := fun x k hk => ?_, xf := fun x k hk hx hf => ?_ }
    · replace hb : bkB b = true := hb
      cases b <;> first | (exact absurd hb (by decide)) | exact PySem.W.mg_none_of X G0 z_abs | exact PySem.W.mg_none_of X G0 z_bool | exact PySem.W.mg_none_of X G0 z_int | exact PySem.W.mg_none_of X G0 z_len | exact PySem.W.mg_none_of X G0 z_max | exact PySem.W.mg_none_of X G0 z_min | exact PySem.W.mg_none_of X G0 z_repr | exact PySem.W.mg_none_of X G0 z_str | exact PySem.W.mg_of X G0 z_gcd
    · exact PySem.W.mg_none_of X G0 z_isinstance
    · replace ht : tkB t = true := ht
      cases t <;> first | (exact absurd ht (by decide)) | exact PySem.W.mg_none_of X G0 z_bool | exact PySem.W.mg_none_of X G0 z_int
    · exact PySem.W.mg_none_of X G0 z_range
    · rcases hd with ⟨rfl, rfl⟩ | ⟨rfl, rfl⟩
      · exact ⟨_, .int 1000000000000000000000000000000000000000000000000000000000000, PySem.W.mg_of X G0 g_BEYOND, ⟨_, rfl⟩, fun W => .int _⟩
      · exact ⟨_, .str "/", PySem.W.mg_of X G0 g_BAR, ⟨_, rfl⟩, fun W => .str _⟩
    · exact (by
        have hh : k = 0 ∨ k = 1 := by have hk2 : k < 2 := hk; omega
        rcases hh with rfl | rfl
        · exact PySem.W.mg_of X G0 ca0
        · exact PySem.W.mg_of X G0 ca1
        )
    · exact (by
        have hh : k = 0 ∨ k = 1 := by have hk2 : k < 2 := hk; omega
        rcases hh with rfl | rfl
        · exact .inl (PySem.W.mg_of X G0 xa0)
        · exact .inl (PySem.W.mg_of X G0 xa1)
        )
    · exact (by
        have hh : k = 0 ∨ k = 1 := by have hk2 : k < 2 := hk; omega
        rcases hh with rfl | rfl
        · match x with
          | 0 => exact exm_by xx0 xk0 xy0 xu0_0
          | _ + 1 => exact exm_by xx0 xk0 xy0 xu1_0
        · match x with
          | 0 => exact exm_by xx1 xk1 xy1 xu0_1
          | _ + 1 => exact exm_by xx1 xk1 xy1 xu1_1
        )
    · exact (by
        have hh : k = 0 ∨ k = 1 := by have hk2 : k < 2 := hk; omega
        rcases hh with rfl | rfl
        · exact absurd rfl hf
        · match x, hx with
          | 0, hx => exact absurd (show false = true from hx) (by decide)
          | _ + 1, _ => exact ⟨C1, rfl, rfl, ⟨xga1, xgg1, xx1, xh1⟩, xnf1⟩
        )
  refine ⟨T, PySem.W.fnOf "law" "law" (defArgs s_law) (defBody s_law) (defScope s_law) .none kV36 dc36 pm36 an36 cd36 ct36, rfl, fun s u => .of_eq rfl, fun base kb nb => ?_⟩
  have B0_ : FnG Pg w K mg base 1 f0 _ ["_law_script", "_law_at"] (spOf T sm__law_urn) := fn_by (P := P__law_urn) (R := R__law_urn) (gl0 N__law_urn (defScope s__law_urn) base) rfl rfl rfl (fun j dv sm z => z.elim) (fun k mk z => z.elim) l0 c0 sc__law_urn o__law_urn k__law_urn
  have F0 := fun_mk (st := s__law_urn) l0 c0 k0
  have A0 : FnAt T Pg w K mg base .fn "_law_urn" 3 [] sm__law_urn := ⟨1, f0, _, _, [], [], by decide, B0_, ⟨PySem.W.mg_of X G0 a0, k0⟩, F0.binds (ps := ["_law_script", "_law_at"]) fun _ _ _ _ _ _ us hl => match us, hl with | [_, _], _ => rfl, .nil, fun _ => .nil⟩
  have B1_ : FnG Pg w K mg base 1 f1 _ ["_law_urn_here", "_law_total"] (spOf T sm__law_take) := fn_by (P := P__law_take) (R := R__law_take) (gl0 N__law_take (defScope s__law_take) base) rfl rfl rfl (fun j dv sm z => z.elim) (fun k mk z => z.elim) l1 c1 sc__law_take o__law_take k__law_take
  have F1 := fun_mk (st := s__law_take) l1 c1 k1
  have A1 : FnAt T Pg w K mg base .fn "_law_take" 3 [] sm__law_take := ⟨1, f1, _, _, [], [], by decide, B1_, ⟨PySem.W.mg_of X G0 a1, k1⟩, F1.binds (ps := ["_law_urn_here", "_law_total"]) fun _ _ _ _ _ _ us hl => match us, hl with | [_, _], _ => rfl, .nil, fun _ => .nil⟩
  have B2_ : FnG Pg w K mg base 4 f2 _ ["_law_urn_here", "_law_items"] (spOf T sm__law_some) := fn_by (P := P__law_some) (R := R__law_some) (gl0 N__law_some (defScope s__law_some) base) rfl rfl rfl (by
    rintro j dv sm (⟨rfl, rfl, rfl⟩)
    · exact A1.mono (by decide)
    ) (fun k mk z => z.elim) l2 c2 sc__law_some o__law_some k__law_some
  have F2 := fun_mk (st := s__law_some) l2 c2 k2
  have A2 : FnAt T Pg w K mg base .fn "_law_some" 6 [] sm__law_some := ⟨4, f2, _, _, [], [], by decide, B2_, ⟨PySem.W.mg_of X G0 a2, k2⟩, F2.binds (ps := ["_law_urn_here", "_law_items"]) fun _ _ _ _ _ _ us hl => match us, hl with | [_, _], _ => rfl, .nil, fun _ => .nil⟩
  have B3_ : FnG Pg w K mg base 7 f3 _ ["_law_urn_here"] (spOf T sm__law_part) := fn_by (P := P__law_part) (R := R__law_part) (gl0 N__law_part (defScope s__law_part) base) rfl rfl rfl (by
    rintro j dv sm (⟨rfl, rfl, rfl⟩ | ⟨rfl, rfl, rfl⟩)
    · exact A1.mono (by decide)
    · exact A2.mono (by decide)
    ) (fun k mk z => z.elim) l3 c3 sc__law_part o__law_part k__law_part
  have F3 := fun_mk (st := s__law_part) l3 c3 k3
  have A3 : FnAt T Pg w K mg base .fn "_law_part" 9 [] sm__law_part := ⟨7, f3, _, _, [], [], by decide, B3_, ⟨PySem.W.mg_of X G0 a3, k3⟩, F3.binds (ps := ["_law_urn_here"]) fun _ _ _ _ _ _ us hl => match us, hl with | [_], _ => rfl, .nil, fun _ => .nil⟩
  have B4_ : FnG Pg w K mg base 10 f4 _ ["_law_urn_here"] (spOf T sm__law_pair) := fn_by (P := P__law_pair) (R := R__law_pair) (gl0 N__law_pair (defScope s__law_pair) base) rfl rfl rfl (by
    rintro j dv sm (⟨rfl, rfl, rfl⟩)
    · exact A3.mono (by decide)
    ) (fun k mk z => z.elim) l4 c4 sc__law_pair o__law_pair k__law_pair
  have F4 := fun_mk (st := s__law_pair) l4 c4 k4
  have A4 : FnAt T Pg w K mg base .fn "_law_pair" 12 [] sm__law_pair := ⟨10, f4, _, _, [], [], by decide, B4_, ⟨PySem.W.mg_of X G0 a4, k4⟩, F4.binds (ps := ["_law_urn_here"]) fun _ _ _ _ _ _ us hl => match us, hl with | [_], _ => rfl, .nil, fun _ => .nil⟩
  have B5_ : FnG Pg w K mg base 1 f5 _ ["value"] (spOf T sm_is_whole) := fn_by (P := P_is_whole) (R := R_is_whole) (gl0 N_is_whole (defScope s_is_whole) base) rfl rfl rfl (fun j dv sm z => z.elim) (fun k mk z => z.elim) l5 c5 sc_is_whole o_is_whole k_is_whole
  have F5 := fun_mk (st := s_is_whole) l5 c5 k5
  have A5 : FnAt T Pg w K mg base .fn "is_whole" 3 [] sm_is_whole := ⟨1, f5, _, _, [], [], by decide, B5_, ⟨PySem.W.mg_of X G0 a5, k5⟩, F5.binds (ps := ["value"]) fun _ _ _ _ _ _ us hl => match us, hl with | [_], _ => rfl, .nil, fun _ => .nil⟩
  have B6_ : FnG Pg w K mg base 4 f6 _ ["value"] (spOf T sm_is_integer) := fn_by (P := P_is_integer) (R := R_is_integer) (gl0 N_is_integer (defScope s_is_integer) base) rfl rfl rfl (by
    rintro j dv sm (⟨rfl, rfl, rfl⟩)
    · exact A5.mono (by decide)
    ) (fun k mk z => z.elim) l6 c6 sc_is_integer o_is_integer k_is_integer
  have F6 := fun_mk (st := s_is_integer) l6 c6 k6
  have A6 : FnAt T Pg w K mg base .fn "is_integer" 6 [] sm_is_integer := ⟨4, f6, _, _, [], [], by decide, B6_, ⟨PySem.W.mg_of X G0 a6, k6⟩, F6.binds (ps := ["value"]) fun _ _ _ _ _ _ us hl => match us, hl with | [_], _ => rfl, .nil, fun _ => .nil⟩
  have B7_ : FnG Pg w K mg base 1 f7 _ ["self"] (spOf T sm_Ratio_str_) := fn_by (P := P_Ratio_str_) (R := R_Ratio_str_) (gl0 N_Ratio_str_ (defScope s_Ratio_str_) base) rfl rfl rfl (fun j dv sm z => z.elim) (fun k mk z => z.elim) l7 c7 sc_Ratio_str_ o_Ratio_str_ k_Ratio_str_
  have F7 := fun_mk (st := s_Ratio_str_) l7 c7 k7
  have A7 : FnAt T Pg w K mg base (.meth 1) "__str__" 3 [] sm_Ratio_str_ := ⟨1, f7, _, _, [], [], by decide, B7_, ⟨a7, fn7, k7⟩, F7.binds (ps := ["self"]) fun _ _ _ _ _ _ us hl => match us, hl with | [_], _ => rfl, .nil, fun _ => .nil⟩
  have M1 : MkAt T Pg w K mg base "InvalidNumber" 6 mk_InvalidNumber := mk_strOwn (T := T) (al := ⟨7, [], sm_Ratio_str_⟩) rfl Y1 rfl rfl (PySem.W.mg_of X G0 xa1) (by decide +kernel) (PySem.W.mg_none_of X G0 z_super) (PySem.W.mg_none_of X G0 z_str) (by decide +kernel) A7
  have B8_ : FnG Pg w K mg base 7 f8 _ ["value"] (spOf T sm_require_integer) := fn_by (P := P_require_integer) (R := R_require_integer) (gl0 N_require_integer (defScope s_require_integer) base) rfl rfl rfl (by
    rintro j dv sm (⟨rfl, rfl, rfl⟩ | ⟨rfl, rfl, rfl⟩)
    · exact A6.mono (by decide)
    · exact A7.mono (by decide)
    ) (by
    rintro k mk (⟨rfl, rfl⟩)
    · exact M1.mono (by decide)
    ) l8 c8 sc_require_integer o_require_integer k_require_integer
  have F8 := fun_mk (st := s_require_integer) l8 c8 k8
  have A8 : FnAt T Pg w K mg base .fn "require_integer" 9 [] sm_require_integer := ⟨7, f8, _, _, [], [], by decide, B8_, ⟨PySem.W.mg_of X G0 a8, k8⟩, F8.binds (ps := ["value"]) fun _ _ _ _ _ _ us hl => match us, hl with | [_], _ => rfl, .nil, fun _ => .nil⟩
  have B9_ : FnG Pg w K mg base 1 f9 _ ["self", "other"] (spOf T sm_Ratio_eq_) := fn_by (P := P_Ratio_eq_) (R := R_Ratio_eq_) (gl0 N_Ratio_eq_ (defScope s_Ratio_eq_) base) rfl rfl rfl (fun j dv sm z => z.elim) (fun k mk z => z.elim) l9 c9 sc_Ratio_eq_ o_Ratio_eq_ k_Ratio_eq_
  have F9 := fun_mk (st := s_Ratio_eq_) l9 c9 k9
  have A9 : FnAt T Pg w K mg base (.meth 1) "__eq__" 3 [] sm_Ratio_eq_ := ⟨1, f9, _, _, [], [], by decide, B9_, ⟨a9, fn9, k9⟩, F9.binds (ps := ["self", "other"]) fun _ _ _ _ _ _ us hl => match us, hl with | [_, _], _ => rfl, .nil, fun _ => .nil⟩
  have B10_ : FnG Pg w K mg base 1 f10 _ ["one", "other"] (spOf T sm_common_of) := fn_by (P := P_common_of) (R := R_common_of) (gl0 N_common_of (defScope s_common_of) base) rfl rfl rfl (fun j dv sm z => z.elim) (fun k mk z => z.elim) l10 c10 sc_common_of o_common_of k_common_of
  have F10 := fun_mk (st := s_common_of) l10 c10 k10
  have A10 : FnAt T Pg w K mg base .fn "common_of" 3 [] sm_common_of := ⟨1, f10, _, _, [], [], by decide, B10_, ⟨PySem.W.mg_of X G0 a10, k10⟩, F10.binds (ps := ["one", "other"]) fun _ _ _ _ _ _ us hl => match us, hl with | [_, _], _ => rfl, .nil, fun _ => .nil⟩
  have B11_ : FnG Pg w K mg base 4 f11 _ ["self", "top", "bottom"] (spOf T sm_Lowest_init_) := fn_by (P := P_Lowest_init_) (R := R_Lowest_init_) (gl0 N_Lowest_init_ (defScope s_Lowest_init_) base) rfl rfl rfl (by
    rintro j dv sm (⟨rfl, rfl, rfl⟩)
    · exact A10.mono (by decide)
    ) (fun k mk z => z.elim) l11 c11 sc_Lowest_init_ o_Lowest_init_ k_Lowest_init_
  have F11 := fun_mk (st := s_Lowest_init_) l11 c11 k11
  have A11 : FnAt T Pg w K mg base (.init 0) "Lowest" 6 [] sm_Lowest_init_ := ⟨4, f11, _, _, [], [], by decide, B11_, ⟨⟨mk11, a11, fn11, ckp0⟩, PySem.W.mg_of X G0 ca0⟩, F11.binds (ps := ["self", "top", "bottom"]) fun _ _ _ _ _ _ us hl => match us, hl with | [_, _, _], _ => rfl, .nil, fun _ => .nil⟩
  have B12_ : FnG Pg w K mg base 10 f12 _ ["top", "bottom"] (spOf T sm_lowest_told) := fn_by (P := P_lowest_told) (R := R_lowest_told) (gl0 N_lowest_told (defScope s_lowest_told) base) rfl rfl rfl (by
    rintro j dv sm (⟨rfl, rfl, rfl⟩ | ⟨rfl, rfl, rfl⟩ | ⟨rfl, rfl, rfl⟩ | ⟨rfl, rfl, rfl⟩)
    · exact A7.mono (by decide)
    · exact A8.mono (by decide)
    · exact A9.mono (by decide)
    · exact A11.mono (by decide)
    ) (by
    rintro k mk (⟨rfl, rfl⟩)
    · exact M1.mono (by decide)
    ) l12 c12 sc_lowest_told o_lowest_told k_lowest_told
  have F12 := fun_mk (st := s_lowest_told) l12 c12 k12
  have A12 : FnAt T Pg w K mg base .fn "lowest_told" 12 [] sm_lowest_told := ⟨10, f12, _, _, [], [], by decide, B12_, ⟨PySem.W.mg_of X G0 a12, k12⟩, F12.binds (ps := ["top", "bottom"]) fun _ _ _ _ _ _ us hl => match us, hl with | [_, _], _ => rfl, .nil, fun _ => .nil⟩
  have B13_ : FnG Pg w K mg base 13 f13 _ ["self", "top", "bottom"] (spOf T sm_Ratio_init_) := fn_by (P := P_Ratio_init_) (R := R_Ratio_init_) (gl0 N_Ratio_init_ (defScope s_Ratio_init_) base) rfl rfl rfl (by
    rintro j dv sm (⟨rfl, rfl, rfl⟩)
    · exact A12.mono (by decide)
    ) (fun k mk z => z.elim) l13 c13 sc_Ratio_init_ o_Ratio_init_ k_Ratio_init_
  have F13 : FunD K "__init__" "Ratio.__init__" (defArgs s_Ratio_init_) (defBody s_Ratio_init_) (defScope s_Ratio_init_) [.int 1] [] f13 _ := ⟨⟨_, _, _, _, _, _, _, _, _, _, rfl, l13, c13, .inr ⟨by simp, dT13, _, _, _, rfl, dl13, rfl, (.cons ⟨_, rfl⟩ .nil)⟩, .inl rfl⟩, k13⟩
  obtain ⟨ds13_1, dr13_1, db13_1⟩ := F13.binds1 (ps := ["self", "top", "bottom"]) 2 0 (by simp) (by decide) (fun _ _ _ _ _ _ _ us its h1 h2 => match us, its, h1, h2 with | [_, _], [_], _, _ => ⟨_, rfl, rfl⟩)
  have A13d1 : FnAt T Pg w K mg base (.init 1) "Ratio" 15 [(.int 1)] sm_Ratio_init_ := ⟨13, f13, _, _, ds13_1, _, by decide, B13_, ⟨⟨mk13, a13, fn13, ckp1⟩, PySem.W.mg_of X G0 ca1⟩, db13_1, dr13_1, fun _ => (.cons (.int _) .nil)⟩
  have F13 : FunD K "__init__" "Ratio.__init__" (defArgs s_Ratio_init_) (defBody s_Ratio_init_) (defScope s_Ratio_init_) [.int 1] [] f13 _ := ⟨⟨_, _, _, _, _, _, _, _, _, _, rfl, l13, c13, .inr ⟨by simp, dT13, _, _, _, rfl, dl13, rfl, (.cons ⟨_, rfl⟩ .nil)⟩, .inl rfl⟩, k13⟩
  obtain ⟨ds13_0, dr13_0, db13_0⟩ := F13.binds1 (ps := ["self", "top", "bottom"]) 3 1 (by simp) (by decide) (fun _ _ _ _ _ _ _ us its h1 h2 => match us, its, h1, h2 with | [_, _, _], [_], _, _ => ⟨_, rfl, rfl⟩)
  have A13 : FnAt T Pg w K mg base (.init 1) "Ratio" 15 [] sm_Ratio_init_ := ⟨13, f13, _, _, ds13_0, _, by decide, B13_, ⟨⟨mk13, a13, fn13, ckp1⟩, PySem.W.mg_of X G0 ca1⟩, db13_0, dr13_0, fun _ => .nil⟩
  have B14_ : FnG Pg w K mg base 1 f14 _ ["_law_top", "_law_bottom"] (spOf T sm__law_low) := fn_by (P := P__law_low) (R := R__law_low) (gl0 N__law_low (defScope s__law_low) base) rfl rfl rfl (fun j dv sm z => z.elim) (fun k mk z => z.elim) l14 c14 sc__law_low o__law_low k__law_low
  have F14 := fun_mk (st := s__law_low) l14 c14 k14
  have A14 : FnAt T Pg w K mg base .fn "_law_low" 3 [] sm__law_low := ⟨1, f14, _, _, [], [], by decide, B14_, ⟨PySem.W.mg_of X G0 a14, k14⟩, F14.binds (ps := ["_law_top", "_law_bottom"]) fun _ _ _ _ _ _ us hl => match us, hl with | [_, _], _ => rfl, .nil, fun _ => .nil⟩
  have B15_ : FnG Pg w K mg base 1 f15 _ ["self"] (spOf T sm_Ratio_top) := fn_by (P := P_Ratio_top) (R := R_Ratio_top) (gl0 N_Ratio_top (defScope s_Ratio_top) base) rfl rfl rfl (fun j dv sm z => z.elim) (fun k mk z => z.elim) l15 c15 sc_Ratio_top o_Ratio_top k_Ratio_top
  have F15 := fun_mk (st := s_Ratio_top) l15 c15 k15
  have A15 : FnAt T Pg w K mg base (.prop 1) "top" 3 [] sm_Ratio_top := ⟨1, f15, _, _, [], [], by decide, B15_, ⟨pp15, a15, pg15, pt15, _, pc15⟩, F15.binds (ps := ["self"]) fun _ _ _ _ _ _ us hl => match us, hl with | [_], _ => rfl, .nil, fun _ => .nil⟩
  have B16_ : FnG Pg w K mg base 1 f16 _ ["self"] (spOf T sm_Ratio_bottom) := fn_by (P := P_Ratio_bottom) (R := R_Ratio_bottom) (gl0 N_Ratio_bottom (defScope s_Ratio_bottom) base) rfl rfl rfl (fun j dv sm z => z.elim) (fun k mk z => z.elim) l16 c16 sc_Ratio_bottom o_Ratio_bottom k_Ratio_bottom
  have F16 := fun_mk (st := s_Ratio_bottom) l16 c16 k16
  have A16 : FnAt T Pg w K mg base (.prop 1) "bottom" 3 [] sm_Ratio_bottom := ⟨1, f16, _, _, [], [], by decide, B16_, ⟨pp16, a16, pg16, pt16, _, pc16⟩, F16.binds (ps := ["self"]) fun _ _ _ _ _ _ us hl => match us, hl with | [_], _ => rfl, .nil, fun _ => .nil⟩
  have B17_ : FnG Pg w K mg base 1 f17 _ ["self"] (spOf T sm_Ratio_sign) := fn_by (P := P_Ratio_sign) (R := R_Ratio_sign) (gl0 N_Ratio_sign (defScope s_Ratio_sign) base) rfl rfl rfl (fun j dv sm z => z.elim) (fun k mk z => z.elim) l17 c17 sc_Ratio_sign o_Ratio_sign k_Ratio_sign
  have F17 := fun_mk (st := s_Ratio_sign) l17 c17 k17
  have A17 : FnAt T Pg w K mg base (.prop 1) "sign" 3 [] sm_Ratio_sign := ⟨1, f17, _, _, [], [], by decide, B17_, ⟨pp17, a17, pg17, pt17, _, pc17⟩, F17.binds (ps := ["self"]) fun _ _ _ _ _ _ us hl => match us, hl with | [_], _ => rfl, .nil, fun _ => .nil⟩
  have B18_ : FnG Pg w K mg base 1 f18 _ ["self"] (spOf T sm_Ratio_bool_) := fn_by (P := P_Ratio_bool_) (R := R_Ratio_bool_) (gl0 N_Ratio_bool_ (defScope s_Ratio_bool_) base) rfl rfl rfl (fun j dv sm z => z.elim) (fun k mk z => z.elim) l18 c18 sc_Ratio_bool_ o_Ratio_bool_ k_Ratio_bool_
  have F18 := fun_mk (st := s_Ratio_bool_) l18 c18 k18
  have A18 : FnAt T Pg w K mg base (.meth 1) "__bool__" 3 [] sm_Ratio_bool_ := ⟨1, f18, _, _, [], [], by decide, B18_, ⟨a18, fn18, k18⟩, F18.binds (ps := ["self"]) fun _ _ _ _ _ _ us hl => match us, hl with | [_], _ => rfl, .nil, fun _ => .nil⟩
  have B19_ : FnG Pg w K mg base 4 f19 _ ["_law_ratio", "_law_pair_here"] (spOf T sm__law_shows) := fn_by (P := P__law_shows) (R := R__law_shows) (gl0 N__law_shows (defScope s__law_shows) base) rfl rfl rfl (by
    rintro j dv sm (⟨rfl, rfl, rfl⟩ | ⟨rfl, rfl, rfl⟩ | ⟨rfl, rfl, rfl⟩ | ⟨rfl, rfl, rfl⟩ | ⟨rfl, rfl, rfl⟩)
    · exact A7.mono (by decide)
    · exact A15.mono (by decide)
    · exact A16.mono (by decide)
    · exact A17.mono (by decide)
    · exact A18.mono (by decide)
    ) (fun k mk z => z.elim) l19 c19 sc__law_shows o__law_shows k__law_shows
  have F19 := fun_mk (st := s__law_shows) l19 c19 k19
  have A19 : FnAt T Pg w K mg base .fn "_law_shows" 6 [] sm__law_shows := ⟨4, f19, _, _, [], [], by decide, B19_, ⟨PySem.W.mg_of X G0 a19, k19⟩, F19.binds (ps := ["_law_ratio", "_law_pair_here"]) fun _ _ _ _ _ _ us hl => match us, hl with | [_, _], _ => rfl, .nil, fun _ => .nil⟩
  have B20_ : FnG Pg w K mg base 7 f20 _ ["value"] (spOf T sm_parts_of) := fn_by (P := P_parts_of) (R := R_parts_of) (gl0 N_parts_of (defScope s_parts_of) base) rfl rfl rfl (by
    rintro j dv sm (⟨rfl, rfl, rfl⟩ | ⟨rfl, rfl, rfl⟩)
    · exact A5.mono (by decide)
    · exact A7.mono (by decide)
    ) (by
    rintro k mk (⟨rfl, rfl⟩)
    · exact M1.mono (by decide)
    ) l20 c20 sc_parts_of o_parts_of k_parts_of
  have F20 := fun_mk (st := s_parts_of) l20 c20 k20
  have A20 : FnAt T Pg w K mg base .fn "parts_of" 9 [] sm_parts_of := ⟨7, f20, _, _, [], [], by decide, B20_, ⟨PySem.W.mg_of X G0 a20, k20⟩, F20.binds (ps := ["value"]) fun _ _ _ _ _ _ us hl => match us, hl with | [_], _ => rfl, .nil, fun _ => .nil⟩
  have B21_ : FnG Pg w K mg base 10 f21 _ ["self", "other"] (spOf T sm_Ratio_compared) := fn_by (P := P_Ratio_compared) (R := R_Ratio_compared) (gl0 N_Ratio_compared (defScope s_Ratio_compared) base) rfl rfl rfl (by
    rintro j dv sm (⟨rfl, rfl, rfl⟩)
    · exact A20.mono (by decide)
    ) (fun k mk z => z.elim) l21 c21 sc_Ratio_compared o_Ratio_compared k_Ratio_compared
  have F21 := fun_mk (st := s_Ratio_compared) l21 c21 k21
  have A21 : FnAt T Pg w K mg base (.meth 1) "compared" 12 [] sm_Ratio_compared := ⟨10, f21, _, _, [], [], by decide, B21_, ⟨a21, fn21, k21⟩, F21.binds (ps := ["self", "other"]) fun _ _ _ _ _ _ us hl => match us, hl with | [_, _], _ => rfl, .nil, fun _ => .nil⟩
  have B22_ : FnG Pg w K mg base 13 f22 _ ["_law_ratio", "_law_pair_here", "_law_other", "_law_more"] (spOf T sm__law_compared_right) := fn_by (P := P__law_compared_right) (R := R__law_compared_right) (gl0 N__law_compared_right (defScope s__law_compared_right) base) rfl rfl rfl (by
    rintro j dv sm (⟨rfl, rfl, rfl⟩ | ⟨rfl, rfl, rfl⟩ | ⟨rfl, rfl, rfl⟩)
    · exact A7.mono (by decide)
    · exact A9.mono (by decide)
    · exact A21.mono (by decide)
    ) (fun k mk z => z.elim) l22 c22 sc__law_compared_right o__law_compared_right k__law_compared_right
  have F22 := fun_mk (st := s__law_compared_right) l22 c22 k22
  have A22 : FnAt T Pg w K mg base .fn "_law_compared_right" 15 [] sm__law_compared_right := ⟨13, f22, _, _, [], [], by decide, B22_, ⟨PySem.W.mg_of X G0 a22, k22⟩, F22.binds (ps := ["_law_ratio", "_law_pair_here", "_law_other", "_law_more"]) fun _ _ _ _ _ _ us hl => match us, hl with | [_, _, _, _], _ => rfl, .nil, fun _ => .nil⟩
  have B23_ : FnG Pg w K mg base 16 f23 _ ["top", "bottom"] (spOf T sm_ratio_with) := fn_by (P := P_ratio_with) (R := R_ratio_with) (gl0 N_ratio_with (defScope s_ratio_with) base) rfl rfl rfl (by
    rintro j dv sm (⟨rfl, rfl, rfl⟩ | ⟨rfl, rfl, rfl⟩)
    · exact A11.mono (by decide)
    · exact A13d1.mono (by decide)
    ) (fun k mk z => z.elim) l23 c23 sc_ratio_with o_ratio_with k_ratio_with
  have F23 := fun_mk (st := s_ratio_with) l23 c23 k23
  have A23 : FnAt T Pg w K mg base .fn "ratio_with" 18 [] sm_ratio_with := ⟨16, f23, _, _, [], [], by decide, B23_, ⟨PySem.W.mg_of X G0 a23, k23⟩, F23.binds (ps := ["top", "bottom"]) fun _ _ _ _ _ _ us hl => match us, hl with | [_, _], _ => rfl, .nil, fun _ => .nil⟩
  have B24_ : FnG Pg w K mg base 19 f24 _ ["self"] (spOf T sm_Ratio_neg_) := fn_by (P := P_Ratio_neg_) (R := R_Ratio_neg_) (gl0 N_Ratio_neg_ (defScope s_Ratio_neg_) base) rfl rfl rfl (by
    rintro j dv sm (⟨rfl, rfl, rfl⟩)
    · exact A23.mono (by decide)
    ) (fun k mk z => z.elim) l24 c24 sc_Ratio_neg_ o_Ratio_neg_ k_Ratio_neg_
  have F24 := fun_mk (st := s_Ratio_neg_) l24 c24 k24
  have A24 : FnAt T Pg w K mg base (.meth 1) "__neg__" 21 [] sm_Ratio_neg_ := ⟨19, f24, _, _, [], [], by decide, B24_, ⟨a24, fn24, k24⟩, F24.binds (ps := ["self"]) fun _ _ _ _ _ _ us hl => match us, hl with | [_], _ => rfl, .nil, fun _ => .nil⟩
  have M0 : MkAt T Pg w K mg base "InvalidOperation" 0 mk_InvalidOperation := mk_no (T := T) rfl PySem.F.excBase_ValueError xq0 rfl (PySem.W.mg_of X G0 xa0) (by decide +kernel) xkc0 xx0 xy0
  have B25_ : FnG Pg w K mg base 19 f25 _ ["self", "other"] (spOf T sm_Ratio_over) := fn_by (P := P_Ratio_over) (R := R_Ratio_over) (gl0 N_Ratio_over (defScope s_Ratio_over) base) rfl rfl rfl (by
    rintro j dv sm (⟨rfl, rfl, rfl⟩ | ⟨rfl, rfl, rfl⟩)
    · exact A20.mono (by decide)
    · exact A23.mono (by decide)
    ) (by
    rintro k mk (⟨rfl, rfl⟩)
    · exact M0.mono (by decide)
    ) l25 c25 sc_Ratio_over o_Ratio_over k_Ratio_over
  have F25 := fun_mk (st := s_Ratio_over) l25 c25 k25
  have A25 : FnAt T Pg w K mg base (.meth 1) "over" 21 [] sm_Ratio_over := ⟨19, f25, _, _, [], [], by decide, B25_, ⟨a25, fn25, k25⟩, F25.binds (ps := ["self", "other"]) fun _ _ _ _ _ _ us hl => match us, hl with | [_, _], _ => rfl, .nil, fun _ => .nil⟩
  have B26_ : FnG Pg w K mg base 22 f26 _ ["_law_way", "_law_ratio", "_law_value"] (spOf T sm__law_error) := fn_by (P := P__law_error) (R := R__law_error) (gl0 N__law_error (defScope s__law_error) base) rfl rfl rfl (by
    rintro j dv sm (⟨rfl, rfl, rfl⟩ | ⟨rfl, rfl, rfl⟩)
    · exact A21.mono (by decide)
    · exact A25.mono (by decide)
    ) (fun k mk z => z.elim) l26 c26 sc__law_error o__law_error k__law_error
  have F26 := fun_mk (st := s__law_error) l26 c26 k26
  have A26 : FnAt T Pg w K mg base .fn "_law_error" 24 [] sm__law_error := ⟨22, f26, _, _, [], [], by decide, B26_, ⟨PySem.W.mg_of X G0 a26, k26⟩, F26.binds (ps := ["_law_way", "_law_ratio", "_law_value"]) fun _ _ _ _ _ _ us hl => match us, hl with | [_, _, _], _ => rfl, .nil, fun _ => .nil⟩
  have B27_ : FnG Pg w K mg base 4 f27 _ ["value"] (spOf T sm_is_number) := fn_by (P := P_is_number) (R := R_is_number) (gl0 N_is_number (defScope s_is_number) base) rfl rfl rfl (by
    rintro j dv sm (⟨rfl, rfl, rfl⟩)
    · exact A5.mono (by decide)
    ) (fun k mk z => z.elim) l27 c27 sc_is_number o_is_number k_is_number
  have F27 := fun_mk (st := s_is_number) l27 c27 k27
  have A27 : FnAt T Pg w K mg base .fn "is_number" 6 [] sm_is_number := ⟨4, f27, _, _, [], [], by decide, B27_, ⟨PySem.W.mg_of X G0 a27, k27⟩, F27.binds (ps := ["value"]) fun _ _ _ _ _ _ us hl => match us, hl with | [_], _ => rfl, .nil, fun _ => .nil⟩
  have B28_ : FnG Pg w K mg base 19 f28 _ ["self", "other"] (spOf T sm_Ratio_add_) := fn_by (P := P_Ratio_add_) (R := R_Ratio_add_) (gl0 N_Ratio_add_ (defScope s_Ratio_add_) base) rfl rfl rfl (by
    rintro j dv sm (⟨rfl, rfl, rfl⟩ | ⟨rfl, rfl, rfl⟩ | ⟨rfl, rfl, rfl⟩)
    · exact A20.mono (by decide)
    · exact A23.mono (by decide)
    · exact A27.mono (by decide)
    ) (fun k mk z => z.elim) l28 c28 sc_Ratio_add_ o_Ratio_add_ k_Ratio_add_
  have F28 := fun_mk (st := s_Ratio_add_) l28 c28 k28
  have A28 : FnAt T Pg w K mg base (.op 1 .add) "__add__" 21 [] sm_Ratio_add_ := ⟨19, f28, _, _, [], [], by decide, B28_, ⟨⟨a28, fn28, k28⟩, sf28, sr28⟩, F28.binds (ps := ["self", "other"]) fun _ _ _ _ _ _ us hl => match us, hl with | [_, _], _ => rfl, .nil, fun _ => .nil⟩
  have B29_ : FnG Pg w K mg base 19 f29 _ ["self", "other"] (spOf T sm_Ratio_sub_) := fn_by (P := P_Ratio_sub_) (R := R_Ratio_sub_) (gl0 N_Ratio_sub_ (defScope s_Ratio_sub_) base) rfl rfl rfl (by
    rintro j dv sm (⟨rfl, rfl, rfl⟩ | ⟨rfl, rfl, rfl⟩ | ⟨rfl, rfl, rfl⟩)
    · exact A20.mono (by decide)
    · exact A23.mono (by decide)
    · exact A27.mono (by decide)
    ) (fun k mk z => z.elim) l29 c29 sc_Ratio_sub_ o_Ratio_sub_ k_Ratio_sub_
  have F29 := fun_mk (st := s_Ratio_sub_) l29 c29 k29
  have A29 : FnAt T Pg w K mg base (.op 1 .sub) "__sub__" 21 [] sm_Ratio_sub_ := ⟨19, f29, _, _, [], [], by decide, B29_, ⟨⟨a29, fn29, k29⟩, sf29, sr29⟩, F29.binds (ps := ["self", "other"]) fun _ _ _ _ _ _ us hl => match us, hl with | [_, _], _ => rfl, .nil, fun _ => .nil⟩
  have B30_ : FnG Pg w K mg base 19 f30 _ ["self", "other"] (spOf T sm_Ratio_mul_) := fn_by (P := P_Ratio_mul_) (R := R_Ratio_mul_) (gl0 N_Ratio_mul_ (defScope s_Ratio_mul_) base) rfl rfl rfl (by
    rintro j dv sm (⟨rfl, rfl, rfl⟩ | ⟨rfl, rfl, rfl⟩ | ⟨rfl, rfl, rfl⟩)
    · exact A20.mono (by decide)
    · exact A23.mono (by decide)
    · exact A27.mono (by decide)
    ) (fun k mk z => z.elim) l30 c30 sc_Ratio_mul_ o_Ratio_mul_ k_Ratio_mul_
  have F30 := fun_mk (st := s_Ratio_mul_) l30 c30 k30
  have A30 : FnAt T Pg w K mg base (.op 1 .mul) "__mul__" 21 [] sm_Ratio_mul_ := ⟨19, f30, _, _, [], [], by decide, B30_, ⟨⟨a30, fn30, k30⟩, sf30, sr30⟩, F30.binds (ps := ["self", "other"]) fun _ _ _ _ _ _ us hl => match us, hl with | [_, _], _ => rfl, .nil, fun _ => .nil⟩
  have B31_ : FnG Pg w K mg base 22 f31 _ ["_law_way", "_law_ratio", "_law_other"] (spOf T sm__law_done) := fn_by (P := P__law_done) (R := R__law_done) (gl0 N__law_done (defScope s__law_done) base) rfl rfl rfl (by
    rintro j dv sm (⟨rfl, rfl, rfl⟩ | ⟨rfl, rfl, rfl⟩ | ⟨rfl, rfl, rfl⟩ | ⟨rfl, rfl, rfl⟩)
    · exact A25.mono (by decide)
    · exact A28.mono (by decide)
    · exact A29.mono (by decide)
    · exact A30.mono (by decide)
    ) (fun k mk z => z.elim) l31 c31 sc__law_done o__law_done k__law_done
  have F31 := fun_mk (st := s__law_done) l31 c31 k31
  have A31 : FnAt T Pg w K mg base .fn "_law_done" 24 [] sm__law_done := ⟨22, f31, _, _, [], [], by decide, B31_, ⟨PySem.W.mg_of X G0 a31, k31⟩, F31.binds (ps := ["_law_way", "_law_ratio", "_law_other"]) fun _ _ _ _ _ _ us hl => match us, hl with | [_, _, _], _ => rfl, .nil, fun _ => .nil⟩
  have B32_ : FnG Pg w K mg base 4 f32 _ ["_law_way", "_law_one", "_law_other"] (spOf T sm__law_made) := fn_by (P := P__law_made) (R := R__law_made) (gl0 N__law_made (defScope s__law_made) base) rfl rfl rfl (by
    rintro j dv sm (⟨rfl, rfl, rfl⟩)
    · exact A14.mono (by decide)
    ) (fun k mk z => z.elim) l32 c32 sc__law_made o__law_made k__law_made
  have F32 := fun_mk (st := s__law_made) l32 c32 k32
  have A32 : FnAt T Pg w K mg base .fn "_law_made" 6 [] sm__law_made := ⟨4, f32, _, _, [], [], by decide, B32_, ⟨PySem.W.mg_of X G0 a32, k32⟩, F32.binds (ps := ["_law_way", "_law_one", "_law_other"]) fun _ _ _ _ _ _ us hl => match us, hl with | [_, _, _], _ => rfl, .nil, fun _ => .nil⟩
  have B33_ : FnG Pg w K mg base 25 f33 _ ["_law_urn_here"] (spOf T sm__law_row_right) := fn_by (P := P__law_row_right) (R := R__law_row_right) (gl0 N__law_row_right (defScope s__law_row_right) base) rfl rfl rfl (by
    rintro j dv sm (⟨rfl, rfl, rfl⟩ | ⟨rfl, rfl, rfl⟩ | ⟨rfl, rfl, rfl⟩ | ⟨rfl, rfl, rfl⟩ | ⟨rfl, rfl, rfl⟩ | ⟨rfl, rfl, rfl⟩ | ⟨rfl, rfl, rfl⟩ | ⟨rfl, rfl, rfl⟩ | ⟨rfl, rfl, rfl⟩ | ⟨rfl, rfl, rfl⟩ | ⟨rfl, rfl, rfl⟩ | ⟨rfl, rfl, rfl⟩ | ⟨rfl, rfl, rfl⟩ | ⟨rfl, rfl, rfl⟩ | ⟨rfl, rfl, rfl⟩ | ⟨rfl, rfl, rfl⟩ | ⟨rfl, rfl, rfl⟩)
    · exact A1.mono (by decide)
    · exact A2.mono (by decide)
    · exact A4.mono (by decide)
    · exact A9.mono (by decide)
    · exact A13d1.mono (by decide)
    · exact A13.mono (by decide)
    · exact A14.mono (by decide)
    · exact A15.mono (by decide)
    · exact A16.mono (by decide)
    · exact A19.mono (by decide)
    · exact A22.mono (by decide)
    · exact A24.mono (by decide)
    · exact A26.mono (by decide)
    · exact A29.mono (by decide)
    · exact A30.mono (by decide)
    · exact A31.mono (by decide)
    · exact A32.mono (by decide)
    ) (fun k mk z => z.elim) l33 c33 sc__law_row_right o__law_row_right k__law_row_right
  have F33 := fun_mk (st := s__law_row_right) l33 c33 k33
  have A33 : FnAt T Pg w K mg base .fn "_law_row_right" 27 [] sm__law_row_right := ⟨25, f33, _, _, [], [], by decide, B33_, ⟨PySem.W.mg_of X G0 a33, k33⟩, F33.binds (ps := ["_law_urn_here"]) fun _ _ _ _ _ _ us hl => match us, hl with | [_], _ => rfl, .nil, fun _ => .nil⟩
  have B34_ : FnG Pg w K mg base 16 f34 _ ["_law_top", "_law_bottom"] (spOf T sm__law_made_error) := fn_by (P := P__law_made_error) (R := R__law_made_error) (gl0 N__law_made_error (defScope s__law_made_error) base) rfl rfl rfl (by
    rintro j dv sm (⟨rfl, rfl, rfl⟩)
    · exact A13.mono (by decide)
    ) (fun k mk z => z.elim) l34 c34 sc__law_made_error o__law_made_error k__law_made_error
  have F34 := fun_mk (st := s__law_made_error) l34 c34 k34
  have A34 : FnAt T Pg w K mg base .fn "_law_made_error" 18 [] sm__law_made_error := ⟨16, f34, _, _, [], [], by decide, B34_, ⟨PySem.W.mg_of X G0 a34, k34⟩, F34.binds (ps := ["_law_top", "_law_bottom"]) fun _ _ _ _ _ _ us hl => match us, hl with | [_, _], _ => rfl, .nil, fun _ => .nil⟩
  have B35_ : FnG Pg w K mg base 25 f35 _ ["_law_urn_here"] (spOf T sm__law_wrong_right) := fn_by (P := P__law_wrong_right) (R := R__law_wrong_right) (gl0 N__law_wrong_right (defScope s__law_wrong_right) base) rfl rfl rfl (by
    rintro j dv sm (⟨rfl, rfl, rfl⟩ | ⟨rfl, rfl, rfl⟩ | ⟨rfl, rfl, rfl⟩ | ⟨rfl, rfl, rfl⟩ | ⟨rfl, rfl, rfl⟩ | ⟨rfl, rfl, rfl⟩)
    · exact A2.mono (by decide)
    · exact A3.mono (by decide)
    · exact A9.mono (by decide)
    · exact A13.mono (by decide)
    · exact A26.mono (by decide)
    · exact A34.mono (by decide)
    ) (fun k mk z => z.elim) l35 c35 sc__law_wrong_right o__law_wrong_right k__law_wrong_right
  have F35 := fun_mk (st := s__law_wrong_right) l35 c35 k35
  have A35 : FnAt T Pg w K mg base .fn "_law_wrong_right" 27 [] sm__law_wrong_right := ⟨25, f35, _, _, [], [], by decide, B35_, ⟨PySem.W.mg_of X G0 a35, k35⟩, F35.binds (ps := ["_law_urn_here"]) fun _ _ _ _ _ _ us hl => match us, hl with | [_], _ => rfl, .nil, fun _ => .nil⟩
  have B36_ : FnG Pg w K mg base 28 fa _ ["_law_script"] (spOf T sm_law) := fn_by (P := P_law) (R := R_law) (gl0 N_law (defScope s_law) base) rfl rfl rfl (by
    rintro j dv sm (⟨rfl, rfl, rfl⟩ | ⟨rfl, rfl, rfl⟩ | ⟨rfl, rfl, rfl⟩ | ⟨rfl, rfl, rfl⟩ | ⟨rfl, rfl, rfl⟩ | ⟨rfl, rfl, rfl⟩ | ⟨rfl, rfl, rfl⟩ | ⟨rfl, rfl, rfl⟩ | ⟨rfl, rfl, rfl⟩ | ⟨rfl, rfl, rfl⟩)
    · exact A0.mono (by decide)
    · exact A7.mono (by decide)
    · exact A13.mono (by decide)
    · exact A21.mono (by decide)
    · exact A25.mono (by decide)
    · exact A28.mono (by decide)
    · exact A29.mono (by decide)
    · exact A30.mono (by decide)
    · exact A33.mono (by decide)
    · exact A35.mono (by decide)
    ) (fun k mk z => z.elim) l36 c36 sc_law o_law k_law
  exact B36_
end L02
set_option Elab.async false
set_option linter.all false
set_option maxRecDepth 100000
set_option maxHeartbeats 1000000
open PySem PySem.W PyProof.Rows in
set_option maxRecDepth 100000 in
set_option maxHeartbeats 0 in
theorem PySem.Challenge.cw_stairlots_k02_whole_rows_of_ratios_holds : PySem.Challenge.rw_stairlots_k02_whole_rows_of_ratios.Holds := by
  w_on; o_law; k_head; (case hw => w_witness2)
  k_fill
  refine Ip.walk_G (l := PySem.Challenge.rw_stairlots_k02_whole_rows_of_ratios) (n := 63) (k := 28) (x := "_law_script") (sm := L02.sm_law) rfl (by decide) rfl ⟨rfl, by decide, by decide⟩ (fun w h Y => PySem.W.kIn_of Y) ?F L02.law_true
  case F =>
    intro w mg fa h KX G hmg
    refine' L02.all_mk rfl KX G hmg ?xa0 ?xk0 ?xx0 ?xy0 ?xkc0 ?xq0 ?xa1 ?xk1 ?xx1 ?xy1 ?xkc1 ?xq1 ?xi1 ?xl1 ?xdf1 ?xc1 ?xf1 ?xv1 ?xff1 ?xe1 ?xm1 ?xs1 ?xb1 ?xt1 ?xo1 ?xta1 ?xh1 ?xga1 ?xgg1 ?xnf1 ?xu0_0 ?xu0_1 ?xu1_0 ?xu1_1 ?dgt ?third ?z_super ?z_str ?z_abs ?z_bool ?z_int ?z_len ?z_max ?z_min ?z_repr ?z_isinstance ?z_range ?z_gcd ?g_BEYOND ?g_BAR ?ca0 ?cs10 ?cs20 ?cs30 ?cs40 ?ci10 ?ci2 ?ci3 ?ci40 ?cne0 ?ckp0 ?sa0_0 ?sb0_0 ?sc0_0 ?sd0_0 ?se0_0 ?sa0_1 ?sb0_1 ?sc0_1 ?sd0_1 ?se0_1 ?ca1 ?cs11 ?cs21 ?cs31 ?cs41 ?ci11 ?ci41 ?cne1 ?ckp1 ?sa1_0 ?sb1_0 ?sc1_0 ?sd1_0 ?se1_0 ?sa1_1 ?sb1_1 ?sc1_1 ?sd1_1 ?se1_1 ?ki0_0 ?nf0_0 ?ki0_1 ?nf0_1 ?kb0_NoneType ?kn0_NoneType ?ks0_NoneType ?kb0_bool ?kn0_bool ?ks0_bool ?kb0_int ?kn0_int ?ks0_int ?kb0_str ?kn0_str ?ks0_str ?kb0_tuple ?kn0_tuple ?ks0_tuple ?kb0_list ?kn0_list ?ks0_list ?kb0_dict ?kn0_dict ?ks0_dict ?kt0_bool ?kt0_int ?kt0_str ?kt0_tuple ?kt0_list ?kt0_dict ?ki1_0 ?nf1_0 ?ki1_1 ?nf1_1 ?kb1_NoneType ?kn1_NoneType ?ks1_NoneType ?kb1_bool ?kn1_bool ?ks1_bool ?kb1_int ?kn1_int ?ks1_int ?kb1_str ?kn1_str ?ks1_str ?kb1_tuple ?kn1_tuple ?ks1_tuple ?kb1_list ?kn1_list ?ks1_list ?kb1_dict ?kn1_dict ?ks1_dict ?kt1_bool ?kt1_int ?kt1_str ?kt1_tuple ?kt1_list ?kt1_dict ?a0 ?l0 ?c0 ?k0 ?a1 ?l1 ?c1 ?k1 ?a2 ?l2 ?c2 ?k2 ?a3 ?l3 ?c3 ?k3 ?a4 ?l4 ?c4 ?k4 ?a5 ?l5 ?c5 ?k5 ?a6 ?l6 ?c6 ?k6 ?a7 ?fn7 ?l7 ?c7 ?k7 ?a8 ?l8 ?c8 ?k8 ?a9 ?fn9 ?l9 ?c9 ?k9 ?a10 ?l10 ?c10 ?k10 ?a11 ?mk11 ?fn11 ?l11 ?c11 ?k11 ?a12 ?l12 ?c12 ?k12 ?a13 ?mk13 ?fn13 ?l13 ?c13 ?k13 ?dl13 ?dv13 ?a14 ?l14 ?c14 ?k14 ?a15 ?pg15 ?pt15 ?pc15 ?fn15 ?l15 ?c15 ?k15 ?a16 ?pg16 ?pt16 ?pc16 ?fn16 ?l16 ?c16 ?k16 ?a17 ?pg17 ?pt17 ?pc17 ?fn17 ?l17 ?c17 ?k17 ?a18 ?fn18 ?l18 ?c18 ?k18 ?a19 ?l19 ?c19 ?k19 ?a20 ?l20 ?c20 ?k20 ?a21 ?fn21 ?l21 ?c21 ?k21 ?a22 ?l22 ?c22 ?k22 ?a23 ?l23 ?c23 ?k23 ?a24 ?fn24 ?l24 ?c24 ?k24 ?a25 ?fn25 ?l25 ?c25 ?k25 ?a26 ?l26 ?c26 ?k26 ?a27 ?l27 ?c27 ?k27 ?a28 ?sf28 ?sr28 ?fn28 ?l28 ?c28 ?k28 ?a29 ?sf29 ?sr29 ?fn29 ?l29 ?c29 ?k29 ?a30 ?sf30 ?sr30 ?fn30 ?l30 ?c30 ?k30 ?a31 ?l31 ?c31 ?k31 ?a32 ?l32 ?c32 ?k32 ?a33 ?l33 ?c33 ?k33 ?a34 ?l34 ?c34 ?k34 ?a35 ?l35 ?c35 ?k35 ?a36 ?l36 ?c36 ?k36
    (case xa0 => k_is)
    (case xk0 => k_is)
    (case xx0 => k_is)
    (case xy0 => k_is)
    (case xkc0 => k_is)
    (case xq0 => k_exc)
    (case xa1 => k_is)
    (case xk1 => k_is)
    (case xx1 => k_is)
    (case xy1 => k_is)
    (case xkc1 => k_is)
    (case xq1 => kx_is)
    (case xi1 => k_is)
    (case xl1 => k_is)
    (case xdf1 => rfl)
    (case xc1 => k_is)
    (case xf1 => k_is)
    (case xv1 => rfl)
    (case xff1 => (first | rfl | decide | decide +kernel))
    (case xe1 => k_is)
    (case xm1 => k_is)
    (case xs1 => ks_is)
    (case xb1 => k_is)
    (case xt1 => k_is)
    (case xo1 => kx_is)
    (case xta1 => k_is)
    (case xh1 => k_is)
    (case xga1 => k_is)
    (case xgg1 => k_is)
    (case xnf1 => k_is)
    (case xu0_0 => k_is)
    (case xu0_1 => k_is)
    (case xu1_0 => k_is)
    (case xu1_1 => k_is)
    (case dgt => k_is)
    (case third => k_is)
    (case z_super => k_is)
    (case z_str => k_is)
    (case z_abs => k_is)
    (case z_bool => k_is)
    (case z_int => k_is)
    (case z_len => k_is)
    (case z_max => k_is)
    (case z_min => k_is)
    (case z_repr => k_is)
    (case z_isinstance => k_is)
    (case z_range => k_is)
    (case z_gcd => k_is)
    (case g_BEYOND => k_is)
    (case g_BAR => k_is)
    (case ca0 => k_is)
    (case cs10 => k_is)
    (case cs20 => k_is)
    (case cs30 => k_is)
    (case cs40 => k_is)
    (case ci10 => k_is)
    (case ci2 => k_is)
    (case ci3 => k_is)
    (case ci40 => k_is)
    (case cne0 => k_is)
    (case ckp0 => k_is)
    (case sa0_0 => k_is)
    (case sb0_0 => k_is)
    (case sc0_0 => k_is)
    (case sd0_0 => k_is)
    (case se0_0 => k_is)
    (case sa0_1 => k_is)
    (case sb0_1 => k_is)
    (case sc0_1 => k_is)
    (case sd0_1 => k_is)
    (case se0_1 => k_is)
    (case ca1 => k_is)
    (case cs11 => k_is)
    (case cs21 => k_is)
    (case cs31 => k_is)
    (case cs41 => k_is)
    (case ci11 => k_is)
    (case ci41 => k_is)
    (case cne1 => k_is)
    (case ckp1 => k_is)
    (case sa1_0 => k_is)
    (case sb1_0 => k_is)
    (case sc1_0 => k_is)
    (case sd1_0 => k_is)
    (case se1_0 => k_is)
    (case sa1_1 => k_is)
    (case sb1_1 => k_is)
    (case sc1_1 => k_is)
    (case sd1_1 => k_is)
    (case se1_1 => k_is)
    (case ki0_0 => (first | kernel_rfl | rfl | decide +kernel))
    (case nf0_0 => k_is)
    (case ki0_1 => (first | kernel_rfl | rfl | decide +kernel))
    (case nf0_1 => k_is)
    (case kb0_NoneType => (first | kernel_rfl | rfl | decide +kernel))
    (case kn0_NoneType => k_is)
    (case ks0_NoneType => k_is)
    (case kb0_bool => (first | kernel_rfl | rfl | decide +kernel))
    (case kn0_bool => k_is)
    (case ks0_bool => k_is)
    (case kb0_int => (first | kernel_rfl | rfl | decide +kernel))
    (case kn0_int => k_is)
    (case ks0_int => k_is)
    (case kb0_str => (first | kernel_rfl | rfl | decide +kernel))
    (case kn0_str => k_is)
    (case ks0_str => k_is)
    (case kb0_tuple => (first | kernel_rfl | rfl | decide +kernel))
    (case kn0_tuple => k_is)
    (case ks0_tuple => k_is)
    (case kb0_list => (first | kernel_rfl | rfl | decide +kernel))
    (case kn0_list => k_is)
    (case ks0_list => k_is)
    (case kb0_dict => (first | kernel_rfl | rfl | decide +kernel))
    (case kn0_dict => k_is)
    (case ks0_dict => k_is)
    (case kt0_bool => (first | kernel_rfl | rfl | decide +kernel))
    (case kt0_int => (first | kernel_rfl | rfl | decide +kernel))
    (case kt0_str => (first | kernel_rfl | rfl | decide +kernel))
    (case kt0_tuple => (first | kernel_rfl | rfl | decide +kernel))
    (case kt0_list => (first | kernel_rfl | rfl | decide +kernel))
    (case kt0_dict => (first | kernel_rfl | rfl | decide +kernel))
    (case ki1_0 => (first | kernel_rfl | rfl | decide +kernel))
    (case nf1_0 => k_is)
    (case ki1_1 => (first | kernel_rfl | rfl | decide +kernel))
    (case nf1_1 => k_is)
    (case kb1_NoneType => (first | kernel_rfl | rfl | decide +kernel))
    (case kn1_NoneType => k_is)
    (case ks1_NoneType => k_is)
    (case kb1_bool => (first | kernel_rfl | rfl | decide +kernel))
    (case kn1_bool => k_is)
    (case ks1_bool => k_is)
    (case kb1_int => (first | kernel_rfl | rfl | decide +kernel))
    (case kn1_int => k_is)
    (case ks1_int => k_is)
    (case kb1_str => (first | kernel_rfl | rfl | decide +kernel))
    (case kn1_str => k_is)
    (case ks1_str => k_is)
    (case kb1_tuple => (first | kernel_rfl | rfl | decide +kernel))
    (case kn1_tuple => k_is)
    (case ks1_tuple => k_is)
    (case kb1_list => (first | kernel_rfl | rfl | decide +kernel))
    (case kn1_list => k_is)
    (case ks1_list => k_is)
    (case kb1_dict => (first | kernel_rfl | rfl | decide +kernel))
    (case kn1_dict => k_is)
    (case ks1_dict => k_is)
    (case kt1_bool => (first | kernel_rfl | rfl | decide +kernel))
    (case kt1_int => (first | kernel_rfl | rfl | decide +kernel))
    (case kt1_str => (first | kernel_rfl | rfl | decide +kernel))
    (case kt1_tuple => (first | kernel_rfl | rfl | decide +kernel))
    (case kt1_list => (first | kernel_rfl | rfl | decide +kernel))
    (case kt1_dict => (first | kernel_rfl | rfl | decide +kernel))
    (case a0 => k_is)
    (case l0 => k_is)
    (case c0 => k_is)
    (case k0 => k_is)
    (case a1 => k_is)
    (case l1 => k_is)
    (case c1 => k_is)
    (case k1 => k_is)
    (case a2 => k_is)
    (case l2 => k_is)
    (case c2 => k_is)
    (case k2 => k_is)
    (case a3 => k_is)
    (case l3 => k_is)
    (case c3 => k_is)
    (case k3 => k_is)
    (case a4 => k_is)
    (case l4 => k_is)
    (case c4 => k_is)
    (case k4 => k_is)
    (case a5 => k_is)
    (case l5 => k_is)
    (case c5 => k_is)
    (case k5 => k_is)
    (case a6 => k_is)
    (case l6 => k_is)
    (case c6 => k_is)
    (case k6 => k_is)
    (case a7 => k_is)
    (case fn7 => k_is)
    (case l7 => k_is)
    (case c7 => k_is)
    (case k7 => k_is)
    (case a8 => k_is)
    (case l8 => k_is)
    (case c8 => k_is)
    (case k8 => k_is)
    (case a9 => k_is)
    (case fn9 => k_is)
    (case l9 => k_is)
    (case c9 => k_is)
    (case k9 => k_is)
    (case a10 => k_is)
    (case l10 => k_is)
    (case c10 => k_is)
    (case k10 => k_is)
    (case a11 => k_is)
    (case mk11 => k_is)
    (case fn11 => k_is)
    (case l11 => k_is)
    (case c11 => k_is)
    (case k11 => k_is)
    (case a12 => k_is)
    (case l12 => k_is)
    (case c12 => k_is)
    (case k12 => k_is)
    (case a13 => k_is)
    (case mk13 => k_is)
    (case fn13 => k_is)
    (case l13 => k_is)
    (case c13 => k_is)
    (case k13 => k_is)
    (case dl13 => k_is)
    (case dv13 => rfl)
    (case a14 => k_is)
    (case l14 => k_is)
    (case c14 => k_is)
    (case k14 => k_is)
    (case a15 => k_is)
    (case pg15 => k_is)
    (case pt15 => k_is)
    (case pc15 => k_is)
    (case fn15 => k_is)
    (case l15 => k_is)
    (case c15 => k_is)
    (case k15 => k_is)
    (case a16 => k_is)
    (case pg16 => k_is)
    (case pt16 => k_is)
    (case pc16 => k_is)
    (case fn16 => k_is)
    (case l16 => k_is)
    (case c16 => k_is)
    (case k16 => k_is)
    (case a17 => k_is)
    (case pg17 => k_is)
    (case pt17 => k_is)
    (case pc17 => k_is)
    (case fn17 => k_is)
    (case l17 => k_is)
    (case c17 => k_is)
    (case k17 => k_is)
    (case a18 => k_is)
    (case fn18 => k_is)
    (case l18 => k_is)
    (case c18 => k_is)
    (case k18 => k_is)
    (case a19 => k_is)
    (case l19 => k_is)
    (case c19 => k_is)
    (case k19 => k_is)
    (case a20 => k_is)
    (case l20 => k_is)
    (case c20 => k_is)
    (case k20 => k_is)
    (case a21 => k_is)
    (case fn21 => k_is)
    (case l21 => k_is)
    (case c21 => k_is)
    (case k21 => k_is)
    (case a22 => k_is)
    (case l22 => k_is)
    (case c22 => k_is)
    (case k22 => k_is)
    (case a23 => k_is)
    (case l23 => k_is)
    (case c23 => k_is)
    (case k23 => k_is)
    (case a24 => k_is)
    (case fn24 => k_is)
    (case l24 => k_is)
    (case c24 => k_is)
    (case k24 => k_is)
    (case a25 => k_is)
    (case fn25 => k_is)
    (case l25 => k_is)
    (case c25 => k_is)
    (case k25 => k_is)
    (case a26 => k_is)
    (case l26 => k_is)
    (case c26 => k_is)
    (case k26 => k_is)
    (case a27 => k_is)
    (case l27 => k_is)
    (case c27 => k_is)
    (case k27 => k_is)
    (case a28 => k_is)
    (case sf28 => k_is)
    (case sr28 => k_is)
    (case fn28 => k_is)
    (case l28 => k_is)
    (case c28 => k_is)
    (case k28 => k_is)
    (case a29 => k_is)
    (case sf29 => k_is)
    (case sr29 => k_is)
    (case fn29 => k_is)
    (case l29 => k_is)
    (case c29 => k_is)
    (case k29 => k_is)
    (case a30 => k_is)
    (case sf30 => k_is)
    (case sr30 => k_is)
    (case fn30 => k_is)
    (case l30 => k_is)
    (case c30 => k_is)
    (case k30 => k_is)
    (case a31 => k_is)
    (case l31 => k_is)
    (case c31 => k_is)
    (case k31 => k_is)
    (case a32 => k_is)
    (case l32 => k_is)
    (case c32 => k_is)
    (case k32 => k_is)
    (case a33 => k_is)
    (case l33 => k_is)
    (case c33 => k_is)
    (case k33 => k_is)
    (case a34 => k_is)
    (case l34 => k_is)
    (case c34 => k_is)
    (case k34 => k_is)
    (case a35 => k_is)
    (case l35 => k_is)
    (case c35 => k_is)
    (case k35 => k_is)
    (case a36 => k_is)
    (case l36 => k_is)
    (case c36 => k_is)
    (case k36 => k_is)
