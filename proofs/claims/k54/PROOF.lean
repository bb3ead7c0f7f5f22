import PyProof.Rows.All
import Wide.All
import OpenK.AllK
import Wide.FinOn
import KE.DataEq
import HandS.ForMost
import HandS.Exc
import HandS.TryOnly
import HandS.ExcOwn
import HandS.WordsExc
import HandS.IsInst
import HandS.Wide
import HandS.WideBits
import HandS.TupAny
import HandS.Style
import HandS.Conv
import HandS.NoneIn
import HandS.Defaults
import HandS.Zip
import HandS.Dict
import HandS.ExcCtx
import HandS.ExcIs
import HandS.HotCalls
import HandS.RaiseMore
import HandS.Text
import HandS.SortInts
import HandS.Iter
import PyProof.ZipIter
import PyProof.EnumMake
import PyProof.Draws
import PyProof.EnumFor
import HandS.Rev
import HandS.RevTup
import HandS.ExcInit
import HandS.ExcField
import HandS.Codes
import HandS.Words
import HandS.SortKw
import HandS.ExcValue
import HandS.Hot
import KE.SortKeyHeap
import KE.KDictDisplayH
import HandS.Ends
import HandS.EndBits
import HandS.HeadHook1
import HandS.HeadHook2
import PyProof.ExcBaseAll.ValueError
import HandS.HeadHook3
import KE.KStateDown
import HandS.Head0
import HandS.Head1
import HandS.Head2
import HandS.HeadEnd
import PySem.Challenge.RW_spinboard_k54_made_of
set_option Elab.async false
set_option linter.all false
set_option maxRecDepth 100000
/-! PX1: a compact syntax of the defs and its evaluator over data. -/
namespace PX
open PySem PySem.Spec PyProof.Rows L2

inductive Res (A : Type) where
  | ok (a : A)
  | exc (c : Nat)
  | fail
def Res.bind {A B : Type} : Res A → (A → Res B) → Res B
  | .ok a, f => f a
  | .exc c, _ => .exc c
  | .fail, _ => .fail
inductive RV where
  | val (d : PyData)
  | own (l : List PyData)
def RV.d : RV → PyData
  | .val d => d
  | .own l => .list l
abbrev Rr := Res RV
abbrev RE := List (Option PyData)
abbrev Ro := Option RV
def rv (d : PyData) : Ro := some (.val d)
def rint (i : Int) : Ro := some (.val (.int i))
def rbool (b : Bool) : Ro := some (.val (.bool b))

mutual
/-- no list lies within -/
def flat : PyData → Bool
  | .none => true
  | .bool _ => true
  | .int _ => true
  | .str _ => true
  | .list _ => false
  | .tuple xs => flats xs
  | .dict _ => false
def flats : List PyData → Bool
  | [] => true
  | x :: xs => flat x && flats xs
end
def RV.flat : RV → Bool
  | .val d => PX.flat d
  | .own l => flats l

def ofO {A : Type} : Option A → Res A
  | some a => .ok a
  | none => .fail
/-! ### dicts whose keys are tuples of ints and texts -/
def kD : L2.Key → PyData
  | .inl i => .int i
  | .inr x => .str x
def ksD (k : List L2.Key) : PyData := .tuple (k.map kD)
def keyD1 : PyData → Option L2.Key
  | .int i => some (.inl i)
  | .str x => some (.inr x)
  | _ => none
def keysD : List PyData → Option (List L2.Key)
  | [] => some []
  | d :: ds => match keyD1 d, keysD ds with
    | some k, some ks => some (k :: ks)
    | _, _ => none
def keyD : PyData → Option (List L2.Key)
  | .tuple ds => keysD ds
  | _ => none
abbrev Dic := List (List L2.Key × PyData)
def encD (kvs : Dic) : List (PyData × PyData) := kvs.map fun p => (ksD p.1, p.2)
def decD : List (PyData × PyData) → Option Dic
  | [] => some []
  | p :: ps => match keyD p.1, decD ps with
    | some k, some r => some ((k, p.2) :: r)
    | _, _ => none
def dHas (kvs : Dic) (k : List L2.Key) : Bool := kvs.any fun p => decide (p.1 = k)
def dVal (kvs : Dic) (k : List L2.Key) : Option PyData := (kvs.find? fun p => decide (p.1 = k)).map (·.2)
def dPut (kvs : Dic) (k : List L2.Key) (d : PyData) : Dic := if dHas kvs k = true then kvs.map fun p => if p.1 = k then (p.1, d) else p else kvs ++ [(k, d)]
def inD (d : PyData) (es : List (PyData × PyData)) : Option Bool := match keyD d, decD es with
  | some k, some kvs => if kvs.isEmpty = true then none else some (dHas kvs k)
  | _, _ => none
/-! ### operators -/
inductive Bop where
  | add | sub | mul | fdiv | mod | pow | shl | shr | band | bor | bxor
inductive Cop where
  | eq | ne | lt | le | gt | ge | is | isn | inn | nin
inductive Ty where
  | int | bool | tuple | list | str
inductive Bf where
  | len | list | tuple | abs | max2 | min2 | max1 | min1 | sum | all | any | int1 | divmod | str1 | sort1
def mulOk (i j : Int) : Bool := decide (i.natAbs < 18446744073709551616) || decide (j.natAbs < 18446744073709551616) || decide (i.natAbs.log2 + j.natAbs.log2 < 134217000)
def divOk (i j : Int) : Bool := decide (j ≠ 0) && decide (j.natAbs.log2 < 9000)
def shlOk (i j : Int) : Bool := decide (0 ≤ j) && decide ((Builtin.Int.intBits i : Int) + j ≤ 134217728)
def powOk (i j : Int) : Bool := decide (0 ≤ j) && decide (j ≤ 1000000) && decide (i.natAbs < 18446744073709551616)
def lineB (n : Nat) : Bool := decide (n ≤ 16777216)
def bop : Bop → PyData → PyData → Ro
  | .add, .int i, .int j => rint (i + j)
  | .sub, .int i, .int j => rint (i - j)
  | .mul, .int i, .int j => if mulOk i j = true then rint (i * j) else none
  | .fdiv, .int i, .int j => if divOk i j = true then rint (i.fdiv j) else none
  | .mod, .int i, .int j => if j = 0 then none else rint (i.fmod j)
  | .pow, .int i, .int j => if powOk i j = true then rint (i ^ j.toNat) else none
  | .shl, .int i, .int j => if shlOk i j = true then rint (i * 2 ^ j.toNat) else none
  | .shr, .int i, .int j => if 0 ≤ j then rint (i / 2 ^ j.toNat) else none
  | .band, .int i, .int j => rint (Builtin.bitAnd i j)
  | .bor, .int i, .int j => rint (Builtin.bitOr i j)
  | .bxor, .int i, .int j => rint (Builtin.bitXor i j)
  | .add, .list xs, .list ys => if lineB (xs.length + ys.length) = true then some (.own (xs ++ ys)) else none
  | .add, .tuple xs, .tuple ys => if lineB (xs.length + ys.length) = true then rv (.tuple (xs ++ ys)) else none
  | .mul, .list xs, .int k => if (lineB (xs.length * k.toNat) && decide (-9223372036854775808 ≤ k) && decide (k < 9223372036854775808)) = true then some (.own (List.replicate k.toNat xs).flatten) else none
  | .add, .str x, .str y => if lineB (x.length + y.length) = true then rv (.str (x ++ y)) else none
  | .mul, .int k, .list xs => if (lineB (xs.length * k.toNat) && decide (-9223372036854775808 ≤ k) && decide (k < 9223372036854775808)) = true then some (.own (List.replicate k.toNat xs).flatten) else none
  | _, _, _ => none

def isNone : PyData → Bool
  | .none => true
  | _ => false
/-- a scalar: what is compared by value alone -/
def scalD : PyData → Bool
  | .none => true
  | .bool _ => true
  | .int _ => true
  | .str _ => true
  | _ => false
def eqOk (d e : PyData) : Bool := d.plain && e.plain && (decide (d.depth ≤ 64) || decide (e.depth ≤ 64))
def cop : Cop → PyData → PyData → Ro
  | .eq, d, e => if eqOk d e = true then rbool (PyData.eqv d e) else none
  | .ne, d, e => if eqOk d e = true then rbool (!PyData.eqv d e) else none
  | .lt, .int i, .int j => rbool (decide (i < j))
  | .le, .int i, .int j => rbool (decide (i ≤ j))
  | .gt, .int i, .int j => rbool (decide (j < i))
  | .ge, .int i, .int j => rbool (decide (j ≤ i))
  | .is, d, .none => rbool (isNone d)
  | .isn, d, .none => rbool (!isNone d)
  | .is, .bool a, .bool b => rbool (a == b)
  | .isn, .bool a, .bool b => rbool (!(a == b))
  | .inn, .str y, .str z => match y.cps.toList with
    | [c] => rbool (decide (c ∈ z.cps.toList))
    | _ => none
  | .nin, .str y, .str z => match y.cps.toList with
    | [c] => rbool (!decide (c ∈ z.cps.toList))
    | _ => none
  | .inn, d, .list xs => if (scalD d && xs.all scalD) = true then rbool (xs.any fun y => PyData.eqv y d) else none
  | .inn, d, .tuple xs => if (scalD d && xs.all scalD) = true then rbool (xs.any fun y => PyData.eqv y d) else none
  | .nin, d, .list xs => if (scalD d && xs.all scalD) = true then rbool (!xs.any fun y => PyData.eqv y d) else none
  | .nin, d, .tuple xs => if (scalD d && xs.all scalD) = true then rbool (!xs.any fun y => PyData.eqv y d) else none
  | .inn, d, .dict es => (inD d es).bind fun b => rbool b
  | .nin, d, .dict es => (inD d es).bind fun b => rbool (!b)
  | _, _, _ => none

def isTy : PyData → Ty → Bool
  | .int _, .int => true
  | .bool _, .int => true
  | .bool _, .bool => true
  | .tuple _, .tuple => true
  | .list _, .list => true
  | .str _, .str => true
  | _, _ => false

def ints? : List PyData → Option (List Int)
  | [] => some []
  | .int i :: r => (ints? r).map (i :: ·)
  | _ :: _ => none
def bools? : List PyData → Option (List Bool)
  | [] => some []
  | .bool b :: r => (bools? r).map (b :: ·)
  | _ :: _ => none
def maxI : List Int → Int
  | [] => 0
  | [i] => i
  | i :: r => if maxI r > i then maxI r else i
def minI : List Int → Int
  | [] => 0
  | [i] => i
  | i :: r => if minI r < i then minI r else i
def bf : Bf → List PyData → Ro
  | .len, [.list xs] => rint xs.length
  | .len, [.tuple xs] => rint xs.length
  | .len, [.str x] => if lineB x.length = true then rint x.length else none
  | .list, [.list xs] => some (.own xs)
  | .list, [.tuple xs] => some (.own xs)
  | .tuple, [.list xs] => rv (.tuple xs)
  | .tuple, [.tuple xs] => rv (.tuple xs)
  | .abs, [.int i] => rint (if i < 0 then -i else i)
  | .max2, [.int i, .int j] => rint (if j > i then j else i)
  | .min2, [.int i, .int j] => rint (if j < i then j else i)
  | .max1, [.list xs] => match ints? xs with
    | some (i :: r) => rint (maxI (i :: r))
    | _ => none
  | .min1, [.list xs] => match ints? xs with
    | some (i :: r) => rint (minI (i :: r))
    | _ => none
  | .max1, [.tuple xs] => match ints? xs with
    | some (i :: r) => rint (maxI (i :: r))
    | _ => none
  | .min1, [.tuple xs] => match ints? xs with
    | some (i :: r) => rint (minI (i :: r))
    | _ => none
  | .sum, [.list xs] => match ints? xs with
    | some ns => rint ns.sum
    | none => none
  | .all, [.list xs] => match bools? xs with
    | some bs => rbool (bs.all id)
    | none => none
  | .any, [.list xs] => match bools? xs with
    | some bs => rbool (bs.any id)
    | none => none
  | .int1, [.int i] => rint i
  | .int1, [.bool b] => rint (if b then 1 else 0)
  | .divmod, [.int i, .int j] => if (decide (0 < j) && !(Builtin.divisionGoesByPylong i j)) = true then rv (.tuple [.int (i / j), .int (i % j)]) else none
  | .str1, [.int i] => if decide (i.natAbs.log2 < 1920) = true then rv (.str (toString i)) else none
  | .str1, [.str z] => rv (.str z)
  | .sort1, [.list xs] => match ints? xs with
    | some ns => some (.own ((ns.mergeSort fun a b => decide (a ≤ b)).map PyData.int))
    | none => none
  | .list, [.dict es] => match decD es with
    | some (p :: r) => some (.own ((p :: r).map fun q => ksD q.1))
    | _ => none
  | _, _ => none

def ixD : PyData → PyData → Ro
  | .list xs, .int i => match atI xs i with
    | some d => rv d
    | none => none
  | .tuple xs, .int i => match atI xs i with
    | some d => rv d
    | none => none
  | .str z, .int i => if lineB z.length = true then match atI z.cps.toList i with
      | some c => rv (.str ⟨#[c]⟩)
      | none => none
    else none
  | _, _ => none
def cutD (xs : List PyData) (lo hi : Option Int) : List PyData := (xs.drop (HT.sIx xs.length 0 lo)).take (HT.sIx xs.length xs.length hi - HT.sIx xs.length 0 lo)
def slD : PyData → Option Int → Option Int → Ro
  | .list xs, lo, hi => some (.own (cutD xs lo hi))
  | .tuple xs, lo, hi => rv (.tuple (cutD xs lo hi))
  | .str z, lo, hi => if lineB z.length = true then rv (.str (cutS z lo hi)) else none
  | _, _, _ => none
def repD (ds : List PyData) : PyData → Ro
  | .int k => if (lineB (ds.length * k.toNat) && decide (-9223372036854775808 ≤ k) && decide (k < 9223372036854775808)) = true then some (.own (List.replicate k.toNat ds).flatten) else none
  | _ => none
def bitsD : PyData → Ro
  | .int i => rint (Builtin.Int.intBits i : Nat)
  | _ => none
def negD : PyData → Ro
  | .int i => rint (-i)
  | _ => none
def notD : PyData → Ro
  | .bool b => rbool (!b)
  | _ => none

/-! ### what is walked -/
def rngs (lo c : Int) : Nat → List PyData
  | n => (List.range n).map fun (i : Nat) => PyData.int (lo + i * c)
def small62 (i : Int) : Bool := decide (-4611686018427387904 ≤ i) && decide (i < 4611686018427387904)
def rngD : List PyData → Option (List PyData)
  | [.int j] => if small62 j = true then some (rngs 0 1 j.toNat) else none
  | [.int i, .int j] => if (small62 i && small62 j) = true then some (rngs i 1 (j - i).toNat) else none
  | [.int i, .int j, .int c] => if (decide (c ≠ 0) && decide (c.natAbs < 1073741824) && Builtin.Range.small i j c) = true then some (rngs i c (Builtin.Range.rangeSize i j c).toNat) else none
  | _ => none
def lrngD : List PyData → Ro
  | [.int j] => if (small62 j && decide (j ≤ 16777216)) = true then some (.own (rngs 0 1 j.toNat)) else none
  | [.int i, .int j] => if (small62 i && small62 j && decide (j - i ≤ 16777216)) = true then some (.own (rngs i 1 (j - i).toNat)) else none
  | _ => none
def revD : PyData → Ro
  | .list xs => some (.own xs.reverse)
  | _ => none
def seqD : PyData → Option (List PyData)
  | .list xs => some xs
  | .tuple xs => some xs
  | _ => none
def listD : PyData → Option (List PyData)
  | .list xs => some xs
  | _ => none
def signsD (z : Str) : List PyData := z.cps.toList.map fun c => .str ⟨#[c]⟩
/-- a list's items or a text's signs -/
def lsD : PyData → Option (List PyData)
  | .list l => some l
  | .str z => some (signsD z)
  | _ => none
def enumFrom (n : Nat) : List PyData → List PyData
  | [] => []
  | x :: xs => .tuple [.int (n : Int), x] :: enumFrom (n + 1) xs
def zipD3 : List PyData → List PyData → List PyData → List PyData
  | x :: xs, y :: ys, z :: zs => .tuple [x, y, z] :: zipD3 xs ys zs
  | _, _, _ => []
def zipD : List PyData → List PyData → List PyData
  | x :: xs, y :: ys => .tuple [x, y] :: zipD xs ys
  | _, _ => []

/-! ### targets -/
inductive Tg where
  | nm (i : Nat)
  | tp (l : List Nat)
def setAll {A B : Type} (f : B → A) : List Nat → List B → List A → List A
  | i :: is, d :: ds, r => setAll f is ds (r.set i (f d))
  | _, _, r => r
def tgs {A : Type} (f : PyData → A) : Tg → PyData → List A → Option (List A)
  | .nm i, d, r => some (r.set i (f d))
  | .tp l, .tuple ds, r => if l.length = ds.length then some (setAll f l ds r) else none
  | .tp l, .list ds, r => if l.length = ds.length then some (setAll f l ds r) else none
  | .tp _, _, _ => none
def Tg.slots : Tg → List Nat
  | .nm i => [i]
  | .tp l => l
def wipeD {A : Type} (z : A) (r : List A) : List Nat → List A
  | [] => r
  | v :: vs => (wipeD z r vs).set v z

/-! ### expressions -/
mutual
inductive Ex where
  | v (i : Nat)
  | c (d : PyData)
  | g (x : Nat)
  | bop (o : Bop) (a b : Ex)
  | neg (a : Ex)
  | cmp (o : Cop) (a b : Ex)
  | chain (o p : Cop) (a b c : Ex)
  | band (es : Exs)
  | bor (es : Exs)
  | bnot (a : Ex)
  | tup (es : Exs)
  | lst (es : Exs)
  | ix (a b : Ex)
  | sl (a : Ex) (lo hi : Ox)
  | isi (a : Ex) (t : Ty)
  | bf (f : Bf) (es : Exs)
  | bits (a : Ex)
  | call (f : Nat) (es : Exs) (dfl : List PyData)
  | comp (own : List (Str × Nat)) (elt : Ex) (t : Tg) (it : Itx) (cond : Ox)
  | dict0
  | lrng1 (a : Ex)
  | lrng2 (a b : Ex)
  | lrev (a : Ex)
  | sortk (f : Nat) (a : Ex)
  | dget (a : Ex) (es : Exs)
  | dix (a : Ex) (es : Exs)
  | dgv (a k : Ex)
  | sl3 (a : Ex) (lo hi st : Int)
  | rep (es : Exs) (k : Ex)
  | tget (n : Nat) (a : Ex) (d : Int)
  | nset (a : Ex)
  | eis (a : Ex) (cs : List Nat)
  | callh (f : Nat) (es : Exs)
  | plc (a : Ex)
  | join (a b : Ex)
  | sfind (a b : Ex)
  | sstart (a b : Ex)
  | callk (f : Nat) (es : Exs) (mid : List PyData) (e : Ex)
  | stuck
inductive Exs where
  | nil
  | cons (e : Ex) (es : Exs)
inductive Ox where
  | no
  | yes (e : Ex)
inductive Itx where
  | seq (e : Ex)
  | rng1 (a : Ex)
  | rng2 (a b : Ex)
  | rng3 (a b c : Ex)
  | enum (e : Ex)
  | zip (a b : Ex)
  | zip3 (a b c : Ex)
  | rev (e : Ex)
end

/-- where an exception stands, and its fields -/
abbrev Tk : Type := Nat × Nat
/-- a dict whose keys are tuples, not empty -/
def dicK (d : PyData) (k : Dic → Rr) : Rr := match d with
  | .dict es => match decD es with
    | some kvs => if kvs.isEmpty = true then .fail else k kvs
    | none => .fail
  | _ => .fail
def dgetD (kvs : Dic) (ks : List PyData) : Ro := if lineB ks.length = true then (keysD ks).bind fun k => rv ((dVal kvs k).getD .none) else none
def dixD (kvs : Dic) (ks : List PyData) : Ro := if lineB ks.length = true then (keysD ks).bind fun k => (dVal kvs k).bind fun d => rv d else none
def dgvD (kvs : Dic) (d : PyData) : Ro := (keyD d).bind fun k => rv ((dVal kvs k).getD .none)
/-- the items of a slice with a step -/
def pickL {A : Type} (xs : List A) (lo hi st : Int) : List A := (PySem.sliceRange (PySem.sliceBounds (some lo) (some hi) (some st) xs.length).1 (PySem.sliceBounds (some lo) (some hi) (some st) xs.length).2.1 (PySem.sliceBounds (some lo) (some hi) (some st) xs.length).2.2).filterMap (xs[·]?)
def sl3D (lo hi st : Int) : PyData → Ro
  | .list xs => some (.own (pickL xs lo hi st))
  | _ => none
/-- sorted by whole numbers, those with the same one in their old order -/
def sortP {A : Type} (ks : List Int) (xs : List A) : List A := ((ks.zip xs).mergeSort fun p q => decide (p.1 ≤ q.1)).map (·.2)
/-- a tuple of scalars -/
def tupS : PyData → Bool
  | .tuple ds => ds.all scalD
  | _ => false
def keysK (f : List PyData → Rr) : List PyData → Option (List Int)
  | [] => some []
  | d :: ds => match tupS d, f [d], keysK f ds with
    | true, .ok (.val (.int k)), some ks => some (k :: ks)
    | _, _, _ => none
def sortD (f : List PyData → Rr) : PyData → Ro
  | .list l => (keysK f l).bind fun ks => some (.own (sortP ks l))
  | _ => none
/-- what a def's text may name: defs by number, the module's constants by number -/
structure Gd where
  fn : Nat → List PyData → Rr
  con : Nat → Option PyData
  tab : Nat → Option (List (Str × Int)) := fun _ => none
  hot : Option (Nat × Tk) := none
  fnh : Nat → Nat × Tk → List PyData → Rr := fun _ _ _ => .fail
  kfn : Nat → List PyData → Rr := fun _ _ => .fail
/-- .. where the exception at a, of the class c, is handled -/
def Gd.seth (G : Gd) (c : Nat) (a : Tk) : Gd := { G with hot := some (c, a) }
/-- the exception at a, as data: of a class with a place (class number c % 16) the place is c / 16 - 1 -/
def tok (c : Nat) (a : Tk) : PyData := if c < 16 then .dict [(.int (a.1 : Int), .none)] else .dict [(.int (a.1 : Int), .int (a.2 : Int)), (.int ((c / 16 - 1 : Nat) : Int), .none)]
/-- classes by number: 0 the one above all own ones, 99 ValueError -/
def subC (c C : Nat) : Bool := decide (C = c) || decide (C = 0) || decide (C = 99)
def catches (c : Nat) (cs : List Nat) : Bool := cs.any (subC (c % 16))
def tokD : PyData → Bool
  | .dict (_ :: _) => true
  | _ => false
def isiD (x : PyData) (t : Ty) : Rr := if tokD x = true then .fail else .ok (.val (.bool (isTy x t)))
/-- isinstance of what is handled -/
def plcT (c : Nat) (a : Tk) (g : PyData → Rr) : PyData → Rr
  | .dict [(.int i, .none)] => if c < 16 ∧ i = (a.1 : Int) then g (.dict [(.int i, .none)]) else .fail
  | .dict [(.int i, .int j), (.int p, .none)] => if (16 ≤ c ∧ i = (a.1 : Int)) ∧ j = (a.2 : Int) then g (.dict [(.int i, .int j), (.int p, .none)]) else .fail
  | _ => .fail
def eisD (h : Option (Nat × Tk)) (cs : List Nat) (x : PyData) : Rr := match h with
  | some (c, a) => plcT c a (fun _ => .ok (.val (.bool (catches c cs)))) x
  | none => .fail
/-- the place of what is handled -/
def plcG : PyData → Rr
  | .dict [(.int _, .int _), (.int p, .none)] => .ok (.val (.int p))
  | _ => .fail
def plcD (h : Option (Nat × Tk)) (x : PyData) : Rr := match h with
  | some (c, a) => plcT c a plcG x
  | none => .fail
def callhD (h : Option (Nat × Tk)) (f : Nat × Tk → List PyData → Rr) (ds : List PyData) : Rr := match h with
  | some p => match f p ds with
    | .ok x => .ok x
    | _ => .fail
  | none => .fail

def strs? : List PyData → Option (List Str)
  | [] => some []
  | .str z :: r => (strs? r).map (z :: ·)
  | _ :: _ => none
/-- sep.join(texts) -/
def joinD (a : Str) : PyData → Ro
  | .list l => match strs? l with
    | some ys => if lineB ((ys.map (·.length)).sum + ys.length * a.length) = true then rv (.str (Txt.join a ys)) else none
    | none => none
  | _ => none
def strK (x : PyData) (k : Str → Rr) : Rr := match x with
  | .str z => k z
  | _ => .fail
/-- a call that must not raise -/
def noX : Rr → Rr
  | .ok x => .ok x
  | _ => .fail
def rdV : Option (Option PyData) → Rr
  | some (some d) => .ok (.val d)
  | _ => .fail
/-- NAME.get(x, d) of a table of the module -/
def tgetD : Option (List (Str × Int)) → Int → PyData → Rr
  | some t, d, .str z => .ok (.val (.int ((t.lookup z).getD d)))
  | _, _, _ => .fail
/-- len(set(x)) of ints -/
def nsetD : PyData → Ro
  | .list l => match ints? l with
    | some ns => if ns.length ≤ 4000 then rint ((PyProof.Rows.firstMet (fun i => ns.getD i 0) ns.length).length : Nat) else none
    | none => none
  | _ => none
def asB : Rr → Res Bool
  | .ok r => match r.d with
    | .bool b => .ok b
    | _ => .fail
  | .exc c => .exc c
  | .fail => .fail
def vof (r : Rr) (k : PyData → Rr) : Rr := r.bind fun x => k x.d
def chainD (o p : Cop) (x y : PyData) (rc : Unit → Rr) : Rr := match cop o x y with
  | some (.val (.bool true)) => vof (rc ()) fun z => ofO (cop p y z)
  | some (.val (.bool false)) => .ok (.val (.bool false))
  | _ => .fail
/-- a comprehension's turns -/
def compL (f : PyData → Res (Option PyData)) : List PyData → Option (List PyData)
  | [] => some []
  | d :: ds => match f d with
    | .ok (some e) => match compL f ds with
      | some l => some (e :: l)
      | none => none
    | .ok none => compL f ds
    | _ => none
def ownL (r : Option (List PyData)) : Rr := match r with
  | some l => .ok (.own l)
  | none => .fail
mutual
def ev (G : Gd) : Ex → RE → Rr
  | .v i, r => rdV r[i]?
  | .c d, _ => .ok (.val d)
  | .g x, _ => match G.con x with
    | some d => .ok (.val d)
    | none => .fail
  | .bop o a b, r => vof (ev G a r) fun x => vof (ev G b r) fun y => ofO (bop o x y)
  | .neg a, r => vof (ev G a r) fun x => ofO (negD x)
  | .cmp o a b, r => vof (ev G a r) fun x => vof (ev G b r) fun y => ofO (cop o x y)
  | .chain o p a b c, r => vof (ev G a r) fun x => vof (ev G b r) fun y => chainD o p x y fun _ => ev G c r
  | .band es, r => evAnd G es r
  | .bor es, r => evOr G es r
  | .bnot a, r => vof (ev G a r) fun x => ofO (notD x)
  | .tup es, r => (evs G es r).bind fun ds => if lineB ds.length = true then .ok (.val (.tuple ds)) else .fail
  | .lst es, r => (evs G es r).bind fun ds => if lineB ds.length = true then .ok (.own ds) else .fail
  | .ix a b, r => vof (ev G a r) fun x => vof (ev G b r) fun y => ofO (ixD x y)
  | .sl a lo hi, r => vof (ev G a r) fun x => (evo G lo r).bind fun l => (evo G hi r).bind fun h => ofO (slD x l h)
  | .isi a t, r => vof (ev G a r) fun x => isiD x t
  | .bf f es, r => (evs G es r).bind fun ds => ofO (bf f ds)
  | .bits a, r => vof (ev G a r) fun x => ofO (bitsD x)
  | .call f es dfl, r => (evs G es r).bind fun ds => G.fn f (ds ++ dfl)
  | .comp own elt t it cond, r => (evi G it r).bind fun ds =>
      if lineB ds.length = true then
        ownL (compL (fun d => match tgs some t d (wipeD none r (own.map (·.2))) with
          | some r2 => (evc G cond r2).bind fun b => if b = true then (ev G elt r2).bind fun x => .ok (some x.d)
            else .ok none
          | none => .fail) ds)
      else .fail
  | .dict0, _ => .ok (.val (.dict []))
  | .rep es k, r => (evs G es r).bind fun ds => if lineB ds.length = true then vof (ev G k r) fun x => ofO (repD ds x) else .fail
  | .tget n a d, r => vof (ev G a r) fun x => tgetD (G.tab n) d x
  | .nset a, r => vof (ev G a r) fun x => ofO (nsetD x)
  | .eis a cs, r => vof (ev G a r) fun x => eisD G.hot cs x
  | .callh f es, r => (evs G es r).bind fun ds => callhD G.hot (G.fnh f) ds
  | .plc a, r => vof (ev G a r) fun x => plcD G.hot x
  | .join a b, r => vof (ev G a r) fun x => strK x fun z => vof (ev G b r) fun y => ofO (joinD z y)
  | .sfind a b, r => vof (ev G a r) fun x => strK x fun z => vof (ev G b r) fun y => strK y fun t => .ok (.val (.int (Txt.find z t)))
  | .sstart a b, r => vof (ev G a r) fun x => strK x fun z => vof (ev G b r) fun y => strK y fun t => .ok (.val (.bool (Txt.startswith z t)))
  | .callk f es mid e, r => (evs G es r).bind fun ds => vof (ev G e r) fun x => noX (G.kfn f (ds ++ (mid ++ [x])))
  | .stuck, _ => .fail
  | .lrng1 a, r => (ev G a r).bind fun x => ofO (lrngD [x.d])
  | .lrev a, r => vof (ev G a r) fun x => ofO (revD x)
  | .sortk n a, r => vof (ev G a r) fun x => ofO (sortD (G.kfn n) x)
  | .dget a es, r => vof (ev G a r) fun x => dicK x fun kvs => (evs G es r).bind fun ks => ofO (dgetD kvs ks)
  | .dix a es, r => vof (ev G a r) fun x => dicK x fun kvs => (evs G es r).bind fun ks => ofO (dixD kvs ks)
  | .dgv a k, r => vof (ev G a r) fun x => dicK x fun kvs => vof (ev G k r) fun y => ofO (dgvD kvs y)
  | .sl3 a lo hi st, r => vof (ev G a r) fun x => ofO (sl3D lo hi st x)
  | .lrng2 a b, r => (ev G a r).bind fun x => (ev G b r).bind fun y => ofO (lrngD [x.d, y.d])
def evs (G : Gd) : Exs → RE → Res (List PyData)
  | .nil, _ => .ok []
  | .cons e es, r => (ev G e r).bind fun x => (evs G es r).bind fun l => .ok (x.d :: l)
def evAnd (G : Gd) : Exs → RE → Rr
  | .nil, _ => .fail
  | .cons e .nil, r => ev G e r
  | .cons e (.cons e2 es), r => vof (ev G e r) fun x => match x with
    | .bool true => evAnd G (.cons e2 es) r
    | .bool false => .ok (.val (.bool false))
    | _ => .fail
def evOr (G : Gd) : Exs → RE → Rr
  | .nil, _ => .fail
  | .cons e .nil, r => ev G e r
  | .cons e (.cons e2 es), r => vof (ev G e r) fun x => match x with
    | .bool true => .ok (.val (.bool true))
    | .bool false => evOr G (.cons e2 es) r
    | _ => .fail
def evo (G : Gd) : Ox → RE → Res (Option Int)
  | .no, _ => .ok none
  | .yes e, r => (ev G e r).bind fun x => match x.d with
    | .int i => .ok (some i)
    | _ => .fail
def evc (G : Gd) : Ox → RE → Res Bool
  | .no, _ => .ok true
  | .yes e, r => asB (ev G e r)
def evi (G : Gd) : Itx → RE → Res (List PyData)
  | .seq e, r => (ev G e r).bind fun x => ofO (seqD x.d)
  | .rng1 a, r => (ev G a r).bind fun x => ofO (rngD [x.d])
  | .rng2 a b, r => (ev G a r).bind fun x => (ev G b r).bind fun y => ofO (rngD [x.d, y.d])
  | .rng3 a b c, r => (ev G a r).bind fun x => (ev G b r).bind fun y => (ev G c r).bind fun z => ofO (rngD [x.d, y.d, z.d])
  | .enum e, r => (ev G e r).bind fun x => (ofO (lsD x.d)).bind fun l => .ok (enumFrom 0 l)
  | .zip a b, r => (ev G a r).bind fun x => (ev G b r).bind fun y => (ofO (listD x.d)).bind fun l => (ofO (listD y.d)).bind fun m => .ok (zipD l m)
  | .zip3 a b c, r => (ev G a r).bind fun x => (ev G b r).bind fun y => (ev G c r).bind fun z => (ofO (listD x.d)).bind fun l => (ofO (listD y.d)).bind fun m => (ofO (listD z.d)).bind fun n => .ok (zipD3 l m n)
  | .rev e, r => (ev G e r).bind fun x => (ofO (listD x.d)).bind fun l => .ok l.reverse
end

/-! ### statements -/
inductive Cell where
  | no
  | val (d : PyData)
  | own (l : List PyData)
  | dic (kvs : Dic)
abbrev CE := List Cell
/-- slots frozen ahead, and whether owned lists may be read (then what comes of it holds no list) -/
structure Md where
  fz : List Nat
  bw : Bool
mutual
inductive Sx where
  | asg (i : Nat) (own : Bool) (m : Md) (e : Ex)
  | unp (l : List Nat) (m : Md) (e : Ex)
  | par2 (i j : Nat) (m : Md) (es : Exs)
  | setix (i : Nat) (m : Md) (x e : Ex)
  | app (i : Nat) (m : Md) (e : Ex)
  | aug (i : Nat) (o : Bop) (e : Ex)
  | ret (m : Md) (e : Ex)
  | reto (i : Nat)
  | retn
  | drop (m : Md) (e : Ex)
  | ite (c : Ex) (a b : Sxs)
  | whl (c : Ex) (b : Sxs)
  | for_ (t : Tg) (fz : List Nat) (it : Itx) (b : Sxs)
  | rais (c : Nat)
  | raisp (c : Nat) (e : Ex)
  | pass
  | brk
  | cnt
  | try_ (i : Option Nat) (cs al : List Nat) (b s e : Sxs)
  | swp (i : Nat) (m : Md) (x y : Ex) (es : Exs)
  | callio (f i : Nat) (es : Exs)
  | popx (i j : Nat) (e : Ex)
  | dnew (i : Nat) (ks : Exs) (e : Ex)
  | dput (i : Nat) (m : Md) (es : Exs) (e : Ex)
  | forb (t : Tg) (e : Ex) (b : Sxs)
  | stuck
inductive Sxs where
  | nil
  | cons (s : Sx) (ss : Sxs)
end
inductive Out where
  | nx (r : CE)
  | ret (x : RV)
  | brk (r : CE)
  | cnt (r : CE)
  | exc (c : Nat) (r : CE)
  | fail
def rdP : Cell → Option PyData
  | .val d => some d
  | _ => none
def rdB : Cell → Option PyData
  | .val d => some d
  | .own l => some (.list l)
  | .dic kvs => some (.dict (encD kvs))
  | .no => none
def frz1 (r : CE) (i : Nat) : CE := match r[i]? with
  | some (.dic l) => r.set i (.val (.dict (encD l)))
  | some (.own l) => r.set i (.val (.list l))
  | _ => r
def frz (r : CE) : List Nat → CE
  | [] => r
  | i :: is => frz (frz1 r i) is
def rdM (m : Md) (r : CE) : RE := (frz r m.fz).map (if m.bw = true then rdB else rdP)
def evM (m : Md) (f : RE → Rr) (r : CE) (k : RV → CE → Out) : Out := match f (rdM m r) with
  | .ok x => if (m.bw && !x.flat) = true then .fail else k x (frz r m.fz)
  | .exc c => .exc c (frz r m.fz)
  | .fail => .fail
/-- a test: owned lists may be read -/
def evB (f : RE → Rr) (r : CE) : Res Bool := asB (f (r.map rdB))
def evT (f : RE → Rr) (r : CE) (k : Bool → Out) : Out := match evB f r with
  | .ok b => k b
  | .exc c => .exc c r
  | .fail => .fail
def tupD : PyData → Bool
  | .tuple _ => true
  | _ => false
def cellOf (own : Bool) : RV → Cell
  | .val d => .val d
  | .own l => if own = true then .own l else .val (.list l)
def forL (body : PyData → CE → Out) : List PyData → CE → Out
  | [], r => .nx r
  | d :: ds, r => match body d r with
    | .nx r' => forL body ds r'
    | .cnt r' => forL body ds r'
    | .brk r' => .nx r'
    | .ret x => .ret x
    | .exc c r' => .exc c r'
    | .fail => .fail
def whN (c : CE → Res Bool) (b : CE → Out) : Nat → CE → Option Out
  | 0, _ => none
  | n + 1, r => match c r with
    | .ok true => match b r with
      | .nx r' => whN c b n r'
      | .cnt r' => whN c b n r'
      | .brk r' => some (.nx r')
      | .ret x => some (.ret x)
      | .exc e r' => some (.exc e r')
      | .fail => some .fail
    | .ok false => some (.nx r)
    | .exc e => some (.exc e r)
    | .fail => some .fail
open Classical in
noncomputable def whl (c : CE → Res Bool) (b : CE → Out) (r : CE) : Out :=
  if h : ∃ n o, whN c b n r = some o then h.choose_spec.choose else .fail
def seqO (o : Out) (k : CE → Out) : Out := match o with
  | .nx r => k r
  | o => o
open Classical in
/-- what comes out wherever the exception lies -/
noncomputable def allA (f : Tk → Out) : Out := if h : ∃ o, ∀ a, f a = o then h.choose else .fail
/-- behind a suite -/
def unE (i : Option Nat) : Out → Out
  | .nx r => .nx (match i with
    | some i => r.set i .no
    | none => r)
  | .brk r => .brk (match i with
    | some i => r.set i .no
    | none => r)
  | .cnt r => .cnt (match i with
    | some i => r.set i .no
    | none => r)
  | .ret x => .ret x
  | .exc _ _ => .fail
  | .fail => .fail
def setE (i : Option Nat) (c : Nat) (a : Tk) (r : CE) : CE := match i with
  | some i => r.set i (.val (tok c a))
  | none => r
noncomputable def tryO (o : Out) (i : Option Nat) (cs al : List Nat) (s : Nat → Tk → CE → Out) (e : CE → Out) : Out := match o with
  | .nx r => e r
  | .exc c r => if c % 16 ∈ al then if catches c cs = true then allA fun a => unE i (s c a (setE i c a r)) else .exc c r else .fail
  | o => o
/-- an item of an owned list set anew -/
def pokeO (i : Nat) (f : RE → Rr) (d : PyData) (r : CE) (k : CE → Out) : Out := match r[i]? with
  | some (.own l) => evM ⟨[], true⟩ f r fun z _ => match z.d with
    | .int z => match ixN l.length z with
      | some j => k (r.set i (.own (l.set j d)))
      | none => .fail
    | _ => .fail
  | _ => .fail
/-- an owned list's item, taken out -/
def popO (l : List PyData) (i j : Nat) (d : PyData) (r : CE) : Out := match d with
  | .int z => if small62 z = true then match ixN l.length z with
    | some p => match l[p]? with
      | some x => .nx ((r.set i (.own (l.eraseIdx p))).set j (.val x))
      | none => .fail
    | none => .fail else .fail
  | _ => .fail
def two (d : PyData) (k : PyData → PyData → Out) : Out := match d with
  | .tuple [a, b] => k a b
  | _ => .fail
/-- a def that writes into the list handed in first tells that list -/
def ioO (x : Rr) (k : List PyData → Out) : Out := match x with
  | .ok (.val (.list l)) => k l
  | _ => .fail
/-- an exception of the class c with a place -/
def raisO (c : Nat) (x : RV) (r : CE) : Out := match x with
  | .val (.int p) => if 0 ≤ p then .exc (c + 16 * (p.toNat + 1)) r else .fail
  | _ => .fail
mutual
noncomputable def sx (G : Gd) : Sx → CE → Out
  | .asg i own m e, r => evM m (ev G e) r fun x r' => .nx (r'.set i (cellOf own x))
  | .unp l m e, r => evM m (ev G e) r fun x r' => match tgs Cell.val (.tp l) x.d r' with
    | some r2 => .nx r2
    | none => .fail
  | .par2 i j m es, r => match evs G es (rdM m r) with
    | .ok ds => if (m.bw && !flats ds) = true then .fail else if ds.length = 2 then .nx (setAll Cell.val [i, j] ds (frz r m.fz)) else .fail
    | .exc c => .exc c (frz r m.fz)
    | .fail => .fail
  | .setix i m x e, r => evM m (ev G e) r fun d r1 => match r1[i]? with
    | some (.own l) => evM ⟨[], true⟩ (ev G x) r1 fun k _ => match k.d with
      | .int z => match ixN l.length z with
        | some j => .nx (r1.set i (.own (l.set j d.d)))
        | none => .fail
      | _ => .fail
    | _ => .fail
  | .app i m e, r => match (frz r m.fz)[i]? with
    | some (.own l) => evM m (ev G e) r fun d r1 => if l.length < 16777216 then .nx (r1.set i (.own (l ++ [d.d]))) else .fail
    | _ => .fail
  | .aug i o e, r => match r[i]? with
    | some (.val d) => evM ⟨[], true⟩ (ev G e) r fun x r1 => match bop o d x.d with
      | some (.val z) => if tupD z = true then .fail else .nx (r1.set i (.val z))
      | _ => .fail
    | _ => .fail
  | .ret m e, r => evM m (ev G e) r fun x _ => .ret x
  | .reto i, r => match r[i]? with
    | some (.own l) => .ret (.own l)
    | _ => .fail
  | .retn, _ => .ret (.val .none)
  | .drop m e, r => evM m (ev G e) r fun _ r' => .nx r'
  | .ite c a b, r => evT (ev G c) r fun t => if t = true then sxs G a r else sxs G b r
  | .whl c b, r => whl (evB (ev G c)) (sxs G b) r
  | .for_ t fz it b, r => match evi G it ((frz r fz).map rdP) with
    | .ok ds => forL (fun d r' => match tgs Cell.val t d r' with
      | some r2 => sxs G b r2
      | none => .fail) ds (frz r fz)
    | .exc c => .exc c (frz r fz)
    | .fail => .fail
  | .rais c, r => .exc c r
  | .raisp c e, r => evM ⟨[], false⟩ (ev G e) r fun x r1 => raisO c x r1
  | .pass, r => .nx r
  | .brk, r => .brk r
  | .cnt, r => .cnt r
  | .popx i j e, r => match r[i]? with
    | some (.own l) => evM ⟨[], true⟩ (ev G e) r fun k r1 => popO l i j k.d r1
    | _ => .fail
  | .swp i m x y es, r => evM m (ev G (.tup es)) r fun t r1 => two t.d fun d1 d2 => pokeO i (ev G x) d1 r1 fun r2 => pokeO i (ev G y) d2 r2 .nx
  | .callio f i es, r => match r[i]? with
    | some (.own l) => match evs G es (r.map rdP) with
      | .ok ds => ioO (G.fn f (.list l :: ds)) fun l' => .nx (r.set i (.own l'))
      | _ => .fail
    | _ => .fail
  | .dnew i ks e, r => (match evs G ks (r.map rdP) with
    | .ok ds => (match ev G e (r.map rdP) with
      | .ok x => (match keysD ds with
        | some k => if scalD x.d = true ∧ lineB ds.length = true then .nx (r.set i (.dic [(k, x.d)])) else .fail
        | none => .fail)
      | _ => .fail)
    | _ => .fail)
  | .dput i m es e, r => evM m (ev G e) r fun x r1 => match r1[i]? with
    | some (.dic kvs) => (match evs G es (r1.map rdB) with
      | .ok ds => (match keysD ds with
        | some k => if scalD x.d = true ∧ kvs.length < 16777216 ∧ lineB ds.length = true then .nx (r1.set i (.dic (dPut kvs k x.d))) else .fail
        | none => .fail)
      | .exc c => .exc c r1
      | .fail => .fail)
    | _ => .fail
  | .forb t e b, r => evM ⟨[], true⟩ (ev G e) r fun x r1 => match x with
    | .own ds => forL (fun d r' => match tgs Cell.val t d r' with
      | some r2 => sxs G b r2
      | none => .fail) ds r1
    | .val _ => .fail
  | .stuck, _ => .fail
  | .try_ i cs al b s e, r => tryO (sxs G b r) i cs al (fun c a r' => sxs (G.seth c a) s r') (sxs G e)
noncomputable def sxs (G : Gd) : Sxs → CE → Out
  | .nil, r => .nx r
  | .cons s ss, r => seqO (sx G s r) (sxs G ss)
end
noncomputable def fnD (G : Gd) (b : Sxs) (n : Nat) (ds : List PyData) : Rr := match sxs G b (ds.map Cell.val ++ List.replicate (n - ds.length) Cell.no) with
  | .ret x => .ok x
  | .nx _ => .ok (.val .none)
  | .exc c _ => .exc c
  | _ => .fail
/-- .. of a def that writes into its first argument: a list in, the list then -/
noncomputable def fnIO (G : Gd) (b : Sxs) (n : Nat) : List PyData → Rr
  | .list l :: ds => match sxs G b (.own l :: (ds.map Cell.val ++ List.replicate (n - (ds.length + 1)) Cell.no)) with
    | .nx (.own l' :: _) => .ok (.val (.list l'))
    | _ => .fail
  | _ => .fail
/-- no other statement than those that keep the first list where it lies -/
def okIo : Sxs → Bool
  | .nil => true
  | .cons (.setix _ _ _ _) ss => okIo ss
  | .cons (.ite _ a b) ss => okIo a && okIo b && okIo ss
  | .cons _ _ => false
abbrev Tb : Type := Str × List (Str × Int)
def gdT (fs : List (List PyData → Rr)) (cs : List PyData) (ts : List (List (Str × Int))) (hs : List (Nat × Tk → List PyData → Rr) := []) (ks : List (List PyData → Rr) := []) : Gd := { fn := fun n => (fs[n]?).getD fun _ => .fail, con := fun n => cs[n]?, tab := fun n => ts[n]?, fnh := fun n => (hs[n]?).getD fun _ _ => .fail, kfn := fun n => (ks[n]?).getD fun _ => .fail }
abbrev gd (fs : List (List PyData → Rr)) (cs : List PyData) : Gd := gdT fs cs []
end PX

/-! PX2: what data stands at a value, and the operators. -/
namespace PX
open PySem PySem.Spec PyProof.Rows L2

/-- a scalar's value -/
def dVS : PyData → V
  | .bool b => .bl b
  | .int i => .int i
  | .str x => .str x
  | _ => .non
mutual
inductive Rp (K : PySem.W.Frag) (F : Hp) : PyData → V → Prop
  | non : Rp K F .none .non
  | bl (b : Bool) : Rp K F (.bool b) (.bl b)
  | int (i : Int) : Rp K F (.int i) (.int i)
  | str (x : Str) : Rp K F (.str x) (.str x)
  | lst {a : Addr} {xs : List V} {ds : List PyData} : SqL K F a xs → Rps K F ds xs → Rp K F (.list ds) (.ref a)
  | tup {a : Addr} {xs : List V} {ds : List PyData} : SqT K F a xs → Rps K F ds xs → Rp K F (.tuple ds) (.ref a)
  | dct {a : Addr} : F a = some (.dK []) → Rp K F (.dict []) (.ref a)
  | dtk {a : Addr} {es : List (PyData × PyData)} (kvs : Dic) : es = encD kvs → kvs ≠ [] → (∀ p ∈ kvs, scalD p.2 = true) → F a = some (.dT (kvs.map fun p => (p.1, dVS p.2))) → Rp K F (.dict es) (.ref a)
  | exn {a : Addr} : Rp K F (.dict [(.int (a : Int), .none)]) (.ref a)
  | exp {a d : Addr} {p : Int} : F d = some (.xd [("place", .int p)]) → Rp K F (.dict [(.int (a : Int), .int (d : Int)), (.int p, .none)]) (.ref a)
inductive Rps (K : PySem.W.Frag) (F : Hp) : List PyData → List V → Prop
  | nil : Rps K F [] []
  | cons {d : PyData} {ds : List PyData} {v : V} {vs : List V} : Rp K F d v → Rps K F ds vs → Rps K F (d :: ds) (v :: vs)
end

theorem rd_mono {F H : Hp} {a : Addr} {u : HO} (e : Same F H) (h : Rd F a u) : Rd H a u := by
  rcases h with h | ⟨o, h⟩
  · exact Or.inl (e a _ h)
  · exact Or.inr ⟨o, e a _ h⟩
section
variable {K : PySem.W.Frag} {F H : Hp}
theorem sqL_mono {a : Addr} {xs : List V} (e : Same F H) (h : SqL K F a xs) : SqL K H a xs := h.imp (rd_mono e) id
theorem sqT_mono {a : Addr} {xs : List V} (e : Same F H) (h : SqT K F a xs) : SqT K H a xs := h.imp (rd_mono e) id
mutual
theorem Rp.mono (e : Same F H) : ∀ (d : PyData) (v : V), Rp K F d v → Rp K H d v
  | .none, _, h => by cases h; exact .non
  | .bool b, _, h => by cases h; exact .bl b
  | .int i, _, h => by cases h; exact .int i
  | .str x, _, h => by cases h; exact .str x
  | .list ds, _, h => by
    cases h with
    | lst s r => exact .lst (sqL_mono e s) (Rps.mono e ds _ r)
  | .tuple ds, _, h => by
    cases h with
    | tup s r => exact .tup (sqT_mono e s) (Rps.mono e ds _ r)
  | .dict kvs, _, h => by
    cases h with
    | dct s => exact .dct (e _ _ s)
    | dtk kvs h1 h2 h3 h4 => exact .dtk kvs h1 h2 h3 (e _ _ h4)
    | exn => exact .exn
    | exp s => exact .exp (e _ _ s)
theorem Rps.mono (e : Same F H) : ∀ (ds : List PyData) (vs : List V), Rps K F ds vs → Rps K H ds vs
  | [], _, h => by cases h; exact .nil
  | d :: ds, _, h => by
    cases h with
    | cons a b => exact .cons (Rp.mono e d _ a) (Rps.mono e ds _ b)
end
mutual
theorem Rp.dp : ∀ (d : PyData) (v : V), d.plain = true → Rp K F d v → Dp K F v d
  | .none, _, _, h => by cases h; exact .non
  | .bool b, _, _, h => by cases h; exact .bl b
  | .int i, _, _, h => by cases h; exact .int i
  | .str x, _, _, h => by cases h; exact .str x
  | .list ds, _, p, h => by
    cases h with
    | lst s r => exact .lst s (Rps.dp ds _ (by simpa [PyData.plain] using p) r)
  | .tuple ds, _, p, h => by
    cases h with
    | tup s r => exact .tup s (Rps.dp ds _ (by simpa [PyData.plain] using p) r)
  | .dict kvs, _, p, h => by simp [PyData.plain] at p
theorem Rps.dp : ∀ (ds : List PyData) (vs : List V), PyData.plainAll ds = true → Rps K F ds vs → DpAll K F vs ds
  | [], _, _, h => by cases h; exact .nil
  | d :: ds, _, p, h => by
    have p' : d.plain = true ∧ PyData.plainAll ds = true := by simpa [PyData.plainAll] using p
    cases h with
    | cons a b => exact .cons (Rp.dp d _ p'.1 a) (Rps.dp ds _ p'.2 b)
end
/-- a list or a dict stands there -/
def Loose (F : Hp) (b : Addr) : Prop := (∃ l, F b = some (.lst l)) ∨ ∃ kvs, F b = some (.dT kvs)
theorem Loose.not {F : Hp} {b : Addr} {o : HO} (h : Loose F b) (e : F b = some o) (n1 : ∀ l, o ≠ .lst l) (n2 : ∀ l, o ≠ .dT l) : False := by
  rcases h with ⟨l, q⟩ | ⟨l, q⟩
  · rw [e] at q; exact n1 l (Option.some.inj q)
  · rw [e] at q; exact n2 l (Option.some.inj q)
/-- some addresses, all of lists and dicts, forgotten -/
theorem sqT_cut {G : Hp} {a : Addr} {xs : List V} (hG : ∀ b, Loose F b ∨ G b = F b) (h : SqT K F a xs) : SqT K G a xs := by
  rcases h with (h | ⟨o, h⟩) | h
  · rcases hG a with l | e
    · exact (l.not h (fun _ z => nomatch z) fun _ z => nomatch z).elim
    · exact .inl (.inl (e.trans h))
  · rcases hG a with l | e
    · exact (l.not h (fun _ z => nomatch z) fun _ z => nomatch z).elim
    · exact .inl (.inr ⟨o, e.trans h⟩)
  · exact .inr h
mutual
theorem Rp.cut {G : Hp} (hG : ∀ b, Loose F b ∨ G b = F b) : ∀ (d : PyData) (v : V), flat d = true → Rp K F d v → Rp K G d v
  | .none, _, _, h => by cases h; exact .non
  | .bool b, _, _, h => by cases h; exact .bl b
  | .int i, _, _, h => by cases h; exact .int i
  | .str x, _, _, h => by cases h; exact .str x
  | .list ds, _, p, h => by simp [flat] at p
  | .tuple ds, _, p, h => by
    cases h with
    | tup s r => exact .tup (sqT_cut hG s) (Rps.cut hG ds _ (by simpa [flat] using p) r)
  | .dict kvs, _, p, h => by simp [flat] at p
theorem Rps.cut {G : Hp} (hG : ∀ b, Loose F b ∨ G b = F b) : ∀ (ds : List PyData) (vs : List V), flats ds = true → Rps K F ds vs → Rps K G ds vs
  | [], _, _, h => by cases h; exact .nil
  | d :: ds, _, p, h => by
    have p' : flat d = true ∧ flats ds = true := by simpa [flats] using p
    cases h with
    | cons a b => exact .cons (Rp.cut hG d _ p'.1 a) (Rps.cut hG ds _ p'.2 b)
end
theorem Rps.len : ∀ {ds : List PyData} {vs : List V}, Rps K F ds vs → ds.length = vs.length
  | _, _, .nil => rfl
  | _, _, .cons _ t => congrArg (· + 1) (Rps.len t)
theorem Rps.get : ∀ {ds : List PyData} {vs : List V} {i : Nat} {d : PyData}, Rps K F ds vs → ds[i]? = some d → ∃ v, vs[i]? = some v ∧ Rp K F d v
  | _, _, _, _, .nil, e => by simp at e
  | _, _, 0, d, .cons r _, e => by simp at e; subst e; exact ⟨_, rfl, r⟩
  | _, _, i + 1, d, .cons _ t, e => by
    obtain ⟨u, h1, h2⟩ := Rps.get (i := i) (d := d) t (by simpa using e)
    exact ⟨u, by simpa using h1, h2⟩
theorem Rps.getv : ∀ {ds : List PyData} {vs : List V} {i : Nat} {v : V}, Rps K F ds vs → vs[i]? = some v → ∃ d, ds[i]? = some d ∧ Rp K F d v
  | _, _, _, _, .nil, e => by simp at e
  | _, _, 0, v, .cons r _, e => by simp at e; subst e; exact ⟨_, rfl, r⟩
  | _, _, i + 1, v, .cons _ t, e => by
    obtain ⟨u, h1, h2⟩ := Rps.getv (i := i) (v := v) t (by simpa using e)
    exact ⟨u, by simpa using h1, h2⟩
theorem Rps.app : ∀ {ds es : List PyData} {vs us : List V}, Rps K F ds vs → Rps K F es us → Rps K F (ds ++ es) (vs ++ us)
  | _, _, _, _, .nil, s => s
  | _, _, _, _, .cons r t, s => .cons r (Rps.app t s)
theorem Rps.set {d : PyData} {v : V} (r : Rp K F d v) : ∀ {ds : List PyData} {vs : List V} (i : Nat), Rps K F ds vs → Rps K F (ds.set i d) (vs.set i v)
  | _, _, _, .nil => .nil
  | _, _, 0, .cons _ t => .cons r t
  | _, _, i + 1, .cons q t => .cons q (Rps.set r i t)
theorem Rps.take : ∀ {ds : List PyData} {vs : List V} (n : Nat), Rps K F ds vs → Rps K F (ds.take n) (vs.take n)
  | _, _, 0, _ => .nil
  | _, _, _ + 1, .nil => .nil
  | _, _, n + 1, .cons r t => .cons r (Rps.take n t)
theorem Rps.drop : ∀ {ds : List PyData} {vs : List V} (n : Nat), Rps K F ds vs → Rps K F (ds.drop n) (vs.drop n)
  | _, _, 0, r => r
  | _, _, _ + 1, .nil => .nil
  | _, _, n + 1, .cons _ t => Rps.drop n t
theorem Rps.rev {ds : List PyData} {vs : List V} (h : Rps K F ds vs) : Rps K F ds.reverse vs.reverse := by
  induction ds generalizing vs with
  | nil => cases h; exact .nil
  | cons d ds ih =>
    cases h with
    | cons a b =>
      rw [List.reverse_cons, List.reverse_cons]
      exact (ih b).app (.cons a .nil)
theorem Rps.rep {ds : List PyData} {vs : List V} (h : Rps K F ds vs) : ∀ k : Nat, Rps K F (List.replicate k ds).flatten (List.replicate k vs).flatten
  | 0 => .nil
  | k + 1 => by
    rw [List.replicate_succ, List.replicate_succ, List.flatten_cons, List.flatten_cons]
    exact h.app (Rps.rep h k)
theorem Rps.ints : ∀ {ns : List Int}, Rps K F (ns.map PyData.int) (ns.map V.int)
  | [] => .nil
  | n :: ns => .cons (.int n) Rps.ints
theorem ints_of : ∀ {ds : List PyData} {ns : List Int} {vs : List V}, ints? ds = some ns → Rps K F ds vs → vs = ns.map V.int
  | [], ns, vs, e, h => by
    cases h
    cases (Option.some.inj e)
    rfl
  | d :: ds, ns, vs, e, h => by
    cases h with
    | cons a b =>
      cases a <;> simp [ints?] at e
      rename_i i
      obtain ⟨m, e1, e2⟩ := e
      rw [← e2, ints_of e1 b]
      rfl
theorem bools_of : ∀ {ds : List PyData} {bs : List Bool} {vs : List V}, bools? ds = some bs → Rps K F ds vs → vs = bs.map V.bl
  | [], ns, vs, e, h => by
    cases h
    cases (Option.some.inj e)
    rfl
  | d :: ds, ns, vs, e, h => by
    cases h with
    | cons a b =>
      cases a <;> simp [bools?] at e
      rename_i i
      obtain ⟨m, e1, e2⟩ := e
      rw [← e2, bools_of e1 b]
      rfl
end

/-! ### the known part grows -/
/-- something other than a tuple stands there -/
def NT (H : Hp) (b : Addr) : Prop := ∃ o, H b = some o ∧ ∀ xs, o ≠ .tup xs
theorem NT.lst {H : Hp} {b : Addr} {l : List V} (h : H b = some (.lst l)) : NT H b := ⟨_, h, fun _ z => nomatch z⟩
theorem NT.dT {H : Hp} {b : Addr} {l : List (List L2.Key × V)} (h : H b = some (.dT l)) : NT H b := ⟨_, h, fun _ z => nomatch z⟩
theorem NT.mono {H H' : Hp} {b : Addr} (e : Same H H') (h : NT H b) : NT H' b := let ⟨o, h1, h2⟩ := h; ⟨o, e _ _ h1, h2⟩
theorem NT.nn {H : Hp} {b : Addr} (h : NT H b) : H b ≠ none := by obtain ⟨o, h1, _⟩ := h; rw [h1]; exact fun z => nomatch z
structure Grow (F H F' H' : Hp) : Prop where
  ff : Same F F'
  fh : Same F' H'
  hh : Same H H'
  nw : ∀ b, NT H b → F' b = F b
section
variable {F H F' H' F1 H1 : Hp}
theorem Grow.refl (h : Same F H) : Grow F H F H := ⟨Same.refl _, h, Same.refl _, fun _ _ => rfl⟩
theorem some_ne {H : Hp} {b : Addr} {o : HO} (h : H b = some o) : H b ≠ none := by rw [h]; exact fun z => nomatch z
theorem Same.nn {H H' : Hp} (e : Same H H') {b : Addr} (h : H b ≠ none) : H' b ≠ none := by
  cases q : H b with
  | none => exact absurd q h
  | some o => exact some_ne (e b o q)
theorem Grow.trans (a : Grow F H F1 H1) (b : Grow F1 H1 F' H') : Grow F H F' H' :=
  ⟨a.ff.trans b.ff, b.fh, a.hh.trans b.hh, fun c h => (b.nw c (h.mono a.hh)).trans (a.nw c h)⟩
theorem same_upd {H : Hp} {p : Addr} {o : HO} (h : H p = none) : Same H (upd H p o) := fun b u e => by
  rw [upd_ne (ne_of_none e h)]
  exact e
theorem Grow.new {p : Addr} {o : HO} (e : Same F H) (h : H p = none) : Grow F H (upd F p o) (upd H p o) := by
  have hF := Same.free e h
  refine ⟨same_upd hF, fun b u q => ?_, same_upd h, fun b q => ?_⟩
  · by_cases hb : b = p
    · subst hb
      rw [upd_same] at q ⊢
      exact q
    · rw [upd_ne hb] at q ⊢
      exact e b u q
  · have hb : b ≠ p := fun z => by subst z; exact q.nn h
    rw [upd_ne hb]
/-- a tuple that stands already -/
theorem Grow.tup {b : Addr} {xs : List V} (e : Same F H) (h : H b = some (.tup xs)) : Grow F H (upd F b (.tup xs)) H := by
  refine ⟨fun c u q => ?_, fun c u q => ?_, Same.refl _, fun c q => ?_⟩
  · by_cases hb : c = b
    · subst hb
      have := e c u q
      rw [h] at this
      rw [upd_same, this]
    · rw [upd_ne hb]; exact q
  · by_cases hb : c = b
    · subst hb
      rw [upd_same] at q
      rw [h, q]
    · rw [upd_ne hb] at q
      exact e c u q
  · have hb : c ≠ b := fun z => by
      subst z
      obtain ⟨o, h1, h2⟩ := q
      rw [h] at h1
      exact h2 _ (Option.some.inj h1).symm
    rw [upd_ne hb]
/-- a new object, not yet among what is frozen -/
theorem Grow.aside {p : Addr} {o : HO} (e : Same F H) (h : H p = none) : Grow F H F (upd H p o) :=
  ⟨Same.refl _, e.trans (same_upd h), same_upd h, fun _ _ => rfl⟩
/-- .. frozen later -/
theorem Grow.freeze {p : Addr} {o : HO} (g : Grow F H F' H') (h : H p = none) (hf : F' p = none) (h' : H' p = some o) : Grow F H (upd F' p o) H' := by
  refine ⟨g.ff.trans (same_upd hf), fun b u q => ?_, g.hh, fun b q => ?_⟩
  · by_cases hb : b = p
    · subst hb
      rw [upd_same] at q
      rw [h', q]
    · rw [upd_ne hb] at q
      exact g.fh b u q
  · have hb : b ≠ p := fun z => by subst z; exact q.nn h
    rw [upd_ne hb]
    exact g.nw b q
end

/-! ### what is wanted of an answer -/
section
variable {A B : Type}
/-- P, of what there is by then -/
def PN (r : Option A) (P : A → Hp → Hp → Prop) (F H : Hp) : Prop := match r with
  | some a => P a F H
  | none => False
/-- the fields that an exception of the class c % 16 has: none, or its place -/
def Pay (c : Nat) (F : Hp) (d : Option Addr) : Prop := (c < 16 ∧ d = none) ∨ (16 ≤ c ∧ ∃ dd : Addr, d = some dd ∧ F dd = some (.xd [("place", .int ((c / 16 - 1 : Nat) : Int))]))
theorem Pay.small {c : Nat} {F : Hp} (h : c < 16) : Pay c F none := .inl ⟨h, rfl⟩
theorem Pay.mono {c : Nat} {F F' : Hp} {d : Option Addr} (e : Same F F') (h : Pay c F d) : Pay c F' d := h.imp id fun ⟨q, dd, e1, e2⟩ => ⟨q, dd, e1, e _ _ e2⟩
def PR (W : WX) (cl : Nat → Value) (σ : L2.St) (r : Res A) (P : A → Hp → Hp → Prop) (F H : Hp) : Prop := match r with
  | .ok a => P a F H
  | .exc c => ∀ F' H', Grow F H F' H' → ∀ d, Pay c F' d → W (cl (c % 16)) d σ H'
  | .fail => False
def MonoP (P : A → Hp → Hp → Prop) : Prop := ∀ a F H F' H', Grow F H F' H' → P a F H → P a F' H'
theorem PR.mono {W : WX} {cl : Nat → Value} {σ : L2.St} {r : Res A} {P : A → Hp → Hp → Prop} {F H F' H' : Hp} (m : MonoP P) (g : Grow F H F' H') (h : PR W cl σ r P F H) : PR W cl σ r P F' H' := by
  cases r with
  | ok a => exact m a F H F' H' g h
  | exc c => exact fun F2 H2 g2 => h F2 H2 (g.trans g2)
  | fail => exact h
theorem PR.monoP {W : WX} {cl : Nat → Value} {σ : L2.St} {r : A → Res B} {P : B → Hp → Hp → Prop} (m : MonoP P) : MonoP fun a F H => PR W cl σ (r a) P F H := fun a F H F' H' g h => PR.mono m g h
theorem PR.bind {W : WX} {cl : Nat → Value} {σ : L2.St} {r : Res A} {k : A → Res B} {P : B → Hp → Hp → Prop} {F H : Hp} (h : PR W cl σ (r.bind k) P F H) : PR W cl σ r (fun a F H => PR W cl σ (k a) P F H) F H := by
  cases r with
  | ok a => exact h
  | exc c => exact h
  | fail => exact h
theorem PR.ofO {W : WX} {cl : Nat → Value} {σ : L2.St} {r : Option A} {P : A → Hp → Hp → Prop} {F H : Hp} (h : PR W cl σ (ofO r) P F H) : PN r P F H := by
  cases r with
  | some a => exact h
  | none => exact h
end
section
variable (K : PySem.W.Frag)
/-- .. of a value -/
def PV (Q : VK) : RV → Hp → Hp → Prop
  | .val d, F, H => ∀ v F' H', Grow F H F' H' → Rp K F' d v → Q v H'
  | .own l, F, H => ∀ a vs F' H', Grow F H F' H' → H a = none → F' a = none → H' a = some (.lst vs) → Rps K F' l vs → Q (.ref a) H'
def PL (Q : List V → Hp → Prop) (ds : List PyData) (F H : Hp) : Prop := ∀ vs F' H', Grow F H F' H' → Rps K F' ds vs → Q vs H'
def PB {A : Type} (Q : A → Hp → Prop) (a : A) (F H : Hp) : Prop := ∀ F' H', Grow F H F' H' → Q a H'
end
section
variable {K : PySem.W.Frag}
theorem PV.monoP {Q : VK} : MonoP (PV K Q) := fun x F H F' H' g h => by
  cases x with
  | val d => exact fun v F2 H2 g2 r => h v F2 H2 (g.trans g2) r
  | own l => exact fun a vs F2 H2 g2 n1 n2 e r => h a vs F2 H2 (g.trans g2) (Same.free g.hh n1) n2 e r
theorem PL.monoP {Q : List V → Hp → Prop} : MonoP (PL K Q) := fun x F H F' H' g h vs F2 H2 g2 r => h vs F2 H2 (g.trans g2) r
theorem PB.monoP {A : Type} {Q : A → Hp → Prop} : MonoP (PB Q) := fun x F H F' H' g h F2 H2 g2 => h F2 H2 (g.trans g2)
/-- a value that is used as data: an owned list is frozen -/
theorem PV.use {Q : VK} {x : RV} {F H : Hp} (h : ∀ v F' H', Grow F H F' H' → Rp K F' x.d v → Q v H') : PV K Q x F H := by
  cases x with
  | val d => exact h
  | own l => exact fun a vs F' H' g n1 n2 e r => h _ _ H' (g.freeze n1 n2 e) (.lst (.inl (.inl upd_same)) (Rps.mono (same_upd n2) _ _ r))
/-- .. here and now -/
theorem PV.now {Q : VK} {d : PyData} {F H : Hp} {v : V} (h : PV K Q (.val d) F H) (e : Same F H) (r : Rp K F d v) : Q v H := h v F H (Grow.refl e) r
theorem PV.newT {Q : VK} {ds : List PyData} {vs : List V} {F H : Hp} {p : Addr} (h : PV K Q (.val (.tuple ds)) F H) (e : Same F H) (r : Rps K F ds vs) (hp : H p = none) : Q (.ref p) (upd H p (.tup vs)) :=
  h _ _ _ (Grow.new e hp) (.tup (.inl (.inl upd_same)) (Rps.mono (same_upd (Same.free e hp)) _ _ r))
theorem PV.newL {Q : VK} {ds : List PyData} {vs : List V} {F H : Hp} {p : Addr} (h : PV K Q (.own ds) F H) (e : Same F H) (r : Rps K F ds vs) (hp : H p = none) : Q (.ref p) (upd H p (.lst vs)) :=
  h _ vs F _ (Grow.aside e hp) hp (Same.free e hp) upd_same r
end
end PX

/-! PX3: the operators keep to the data. -/
namespace PX
open PySem PySem.Spec PyProof.Rows L2

def Bop.op : Bop → Operator
  | .add => .Add
  | .sub => .Sub
  | .mul => .Mult
  | .fdiv => .FloorDiv
  | .mod => .Mod
  | .pow => .Pow
  | .shl => .LShift
  | .shr => .RShift
  | .band => .BitAnd
  | .bor => .BitOr
  | .bxor => .BitXor
def Cop.op : Cop → CmpOp
  | .eq => .Eq
  | .ne => .NotEq
  | .lt => .Lt
  | .le => .LtE
  | .gt => .Gt
  | .ge => .GtE
  | .is => .Is
  | .isn => .IsNot
  | .inn => .In
  | .nin => .NotIn
def r2D (K : PySem.W.Frag) (g : PyData → PyData → Ro) : R2 := fun x y H Q => ∃ F d e, Same F H ∧ Rp K F d x ∧ Rp K F e y ∧ PN (g d e) (PV K Q) F H

theorem no_of {A : Type} {a : A} {P : Prop} (h : (none : Option A) = some a) : P := by cases h
theorem lineB_ok {n : Nat} (h : lineB n = true) : n ≤ sizeLine := by
  rw [sizeLine_eq]
  exact of_decide_eq_true h
theorem bits_log (i : Int) : Builtin.Int.intBits i ≤ i.natAbs.log2 + 1 := by
  unfold Builtin.Int.intBits
  split <;> omega
theorem mulOk_ok {i j : Int} (h : mulOk i j = true) : IntMulOk i j := by
  unfold mulOk at h
  simp only [Bool.or_eq_true, decide_eq_true_eq] at h
  rcases h with (h | h) | h
  · exact CMul.ok (.inl ⟨by omega, by omega⟩)
  · exact CMul.ok (.inr ⟨by omega, by omega⟩)
  · have a := bits_log i
    have b := bits_log j
    intro q
    simp only [Bool.and_eq_true, decide_eq_true_eq] at q
    have q3 := q.2
    unfold Builtin.Int.intTooBig at q3
    have e : bitsLine = 134217728 := by decide
    rw [e] at q3
    have q4 := of_decide_eq_true q3
    omega
theorem divOk_ne {i j : Int} (h : divOk i j = true) : j ≠ 0 := by
  unfold divOk at h
  simp only [Bool.and_eq_true, decide_eq_true_eq] at h
  exact h.1
theorem divOk_py {i j : Int} (h : divOk i j = true) : Builtin.divisionGoesByPylong i j = false := by
  unfold divOk at h
  simp only [Bool.and_eq_true, decide_eq_true_eq] at h
  exact PyProof.noPylong_of_log2 h.2
section
variable {X : Cx}
/-- list + list, wherever they stand -/
theorem op_catS : OpR X (binaryOp .Add) (fun x y H Q => ∃ l b xs zs, x = .ref l ∧ y = .ref b ∧ SqL X.K H l xs ∧ SqL X.K H b zs ∧ xs.length + zs.length ≤ sizeLine ∧ ∀ p, H p = none → Q (.ref p) (upd H p (.lst (xs ++ zs)))) := by
  intro pins s σ H x y v u Q I rx ry ⟨l, b, xs, zs, e1, e2, h1, h2, hz, q⟩
  subst e1 e2
  cases rx
  cases ry
  obtain ⟨its, r1, ⟨o1, n1, g1, c1, d1, t1⟩, _⟩ := I.list h1
  obtain ⟨its2, r2, ⟨o2, n2, g2, c2, d2, t2⟩, _⟩ := I.list h2
  obtain ⟨oc, od, ot, os⟩ := o1
  obtain ⟨oc', od', ot', os'⟩ := o2
  simp only at c1 d1 t1 c2 d2 t2
  subst c1 d1 t1 c2 d2 t2
  have hs : its.toArray.size + its2.toArray.size ≤ sizeLine := by
    rw [List.size_toArray, List.size_toArray, ← r1.length, ← r2.length]
    exact hz
  refine PySem.concat_meets ⟨_, g1, rfl⟩ ⟨_, g2, rfl⟩ PySem.noFill_list_add PySem.seq_list_add PySem.F.slot_list_add PySem.F.entry_list_add (PySem.F.args_list_add_2 _ _) (PyProof.Rows.list_addW l b _ _ n1 n2 _ _ os os' hs) ⟨g1, g2, ?_⟩
  have ea : its.toArray ++ its2.toArray = (its ++ its2).toArray := by simp
  rw [ea]
  exact ⟨.ref _, _, I.lnew (t' := s.toks) (r1.append r2) (by rw [List.length_append]; exact hz), rfl, q _ I.fresh⟩
theorem rmulS (a : Int) (t : Tok) (l : Addr) (items : Array Value) (n : Nat) (sl : Array (Option Value)) :
    Meets (Builtin.«int.__rmul__» ⟨[.int a t, .ref l], []⟩) (fun _ R s => s.heap.get? l = some { cls := .type "list", dict := none, data := .seq items n, slots := sl } ∧ R (.ok (.ret Value.notImplemented)) s) :=
  .of_wp fun prog w A R s h => by obtain ⟨hp, g, d, tk, os⟩ := s; obtain ⟨hl, h⟩ := h; wp_walk; exact ⟨_, rfl, h⟩
theorem mulS (l : Addr) (items : Array Value) (n : Nat) (sl : Array (Option Value)) (x : Int) (u : Tok) (hc0 : ¬(!Builtin.List.listFitsIndex x) = true) (hc1 : ¬items.size * x.toNat > (2 ^ 63 - 1) / 8) (hc2 : ¬Builtin.List.listTooLong (items.size * x.toNat) = true) :
    Meets (Builtin.«list.__mul__» ⟨[.ref l, .int x u], []⟩) (fun _ R s => s.heap.get? l = some { cls := .type "list", dict := none, data := .seq items n, slots := sl } ∧ R (.ok (.ret (Value.ref s.heap.objs.size))) { s with heap := s.heap.push { cls := Value.type "list", data := Data.seq (List.foldl (fun x1 x2 => x1 ++ x2) #[] (List.replicate (if items.isEmpty = true then 0 else x.toNat) items)) }, toks := s.toks }) :=
  .of_wp fun prog w A R s h => by
    obtain ⟨hp, g, d, tk, os⟩ := s; obtain ⟨hl, h⟩ := h
    have hsz := AutoListH.joined_fits hc2
    wp_walk; refine wpAny_ite_false (decide_eq_false (Nat.not_lt.mpr hsz)) ?_; wp_walk; exact ⟨_, rfl, h⟩
/-- a list times an int, wherever it stands -/
theorem op_repS : OpR X (binaryOp .Mult) (fun x y H Q => ∃ l k xs, x = .ref l ∧ y = .int k ∧ SqL X.K H l xs ∧ -(2 ^ 63) ≤ k ∧ k < 2 ^ 63 ∧ xs.length * k.toNat ≤ sizeLine ∧ ∀ p, H p = none → Q (.ref p) (upd H p (.lst (List.replicate k.toNat xs).flatten))) := by
  intro pins s σ H x y v u Q I rx ry h
  obtain ⟨l, k, xs, rfl, rfl, hH, h1, h2, hz, q⟩ := h
  cases rx
  obtain ⟨t, rfl⟩ := ry
  obtain ⟨its, r, ⟨o1, n, e, c1, d1, t1⟩, _⟩ := I.list hH
  obtain ⟨oc, od, ot, os⟩ := o1
  simp only at c1 d1 t1
  subst c1 d1 t1
  have hl : xs.length = its.length := r.length
  have hlen : its.toArray.size * k.toNat ≤ sizeLine := by rw [List.size_toArray, ← hl]; exact hz
  have hcap : ¬ its.toArray.size * k.toNat > (2 ^ 63 - 1) / 8 := by
    have : (sizeLine : Nat) ≤ (2 ^ 63 - 1) / 8 := by decide
    omega
  have hfit : ¬ (!Builtin.List.listFitsIndex k) = true := by
    rw [fitsIndex_both h1 h2]
    exact Bool.false_ne_true
  have hlong : ¬ Builtin.List.listTooLong (its.toArray.size * k.toNat) = true := by
    rw [notLongL hlen]
    exact Bool.false_ne_true
  have hnew : List.foldl (fun x1 x2 => x1 ++ x2) #[] (List.replicate (if its.toArray.isEmpty = true then 0 else k.toNat) its.toArray) = (List.replicate k.toNat its).flatten.toArray := by
    have f0 : ∀ m : Nat, List.foldl (fun x1 x2 => x1 ++ x2) #[] (List.replicate m its.toArray) = (List.replicate m its).flatten.toArray := fun m => by
      have := foldl_rep its m []
      rw [List.nil_append] at this
      exact this
    rw [f0]
    cases its with
    | nil => simp
    | cons a r' => rw [if_neg (by simp)]
  refine wpAny_binaryOp_repeat_ref (T := "list") (U := "int") (by decide) ⟨_, e, rfl⟩ (fun s' => typeIs_int s' k t) noFill_list_mul F.fills_int_mul F.slot_int_rmul repeat_list F.slot_int_index.lookup
    (call_meets F.slot_int_rmul (typeIs_int s k t) F.entry_int_rmul (F.args_int_rmul_2 _ _) (rmulS k t l its.toArray n os)
      ⟨e, rfl, ⟨_, e, rfl⟩, call_meets F.slot_list_mul ⟨_, e, rfl⟩ F.entry_list_mul (F.args_list_mul_2 _ _) (mulS l its.toArray n os k t hfit hcap hlong) ⟨e, ?_⟩⟩)
  rw [hnew]
  exact ⟨.ref _, _, I.lnew (t' := s.toks) (r.rep k.toNat) (by rw [PyProof.Rows.lm_len_rep_flat, Nat.mul_comm]; exact hz), rfl, q _ I.fresh⟩
theorem rmulL (a : Int) (t : Tok) (l : Addr) (items : Array Value) (n : Nat) (sl : Array (Option Value)) :
    Meets (Builtin.«int.__mul__» ⟨[.int a t, .ref l], []⟩) (fun _ R s => s.heap.get? l = some { cls := .type "list", dict := none, data := .seq items n, slots := sl } ∧ R (.ok (.ret Value.notImplemented)) s) :=
  .of_wp fun prog w A R s h => by obtain ⟨hp, g, d, tk, os⟩ := s; obtain ⟨hl, h⟩ := h; wp_walk; exact ⟨_, rfl, h⟩
/-- an int times a list, wherever it stands -/
theorem op_repL : OpR X (binaryOp .Mult) (fun x y H Q => ∃ l k xs, x = .int k ∧ y = .ref l ∧ SqL X.K H l xs ∧ -(2 ^ 63) ≤ k ∧ k < 2 ^ 63 ∧ xs.length * k.toNat ≤ sizeLine ∧ ∀ p, H p = none → Q (.ref p) (upd H p (.lst (List.replicate k.toNat xs).flatten))) := by
  intro pins s σ H x y v u Q I rx ry h
  obtain ⟨l, k, xs, rfl, rfl, hH, h1, h2, hz, q⟩ := h
  cases ry
  obtain ⟨t, rfl⟩ := rx
  obtain ⟨its, r, ⟨o1, n, e, c1, d1, t1⟩, _⟩ := I.list hH
  obtain ⟨oc, od, ot, os⟩ := o1
  simp only at c1 d1 t1
  subst c1 d1 t1
  have hl : xs.length = its.length := r.length
  have hlen : its.toArray.size * k.toNat ≤ sizeLine := by rw [List.size_toArray, ← hl]; exact hz
  have hcap : ¬ its.toArray.size * k.toNat > (2 ^ 63 - 1) / 8 := by
    have : (sizeLine : Nat) ≤ (2 ^ 63 - 1) / 8 := by decide
    omega
  have hfit : ¬ (!Builtin.List.listFitsIndex k) = true := by
    rw [fitsIndex_both h1 h2]
    exact Bool.false_ne_true
  have hlong : ¬ Builtin.List.listTooLong (its.toArray.size * k.toNat) = true := by
    rw [notLongL hlen]
    exact Bool.false_ne_true
  have hnew : List.foldl (fun x1 x2 => x1 ++ x2) #[] (List.replicate (if its.toArray.isEmpty = true then 0 else k.toNat) its.toArray) = (List.replicate k.toNat its).flatten.toArray := by
    have f0 : ∀ m : Nat, List.foldl (fun x1 x2 => x1 ++ x2) #[] (List.replicate m its.toArray) = (List.replicate m its).flatten.toArray := fun m => by
      have := foldl_rep its m []
      rw [List.nil_append] at this
      exact this
    rw [f0]
    cases its with
    | nil => simp
    | cons a r' => rw [if_neg (by simp)]
  refine lm_binaryOp_repeat_right (T := "list") (U := "int") (by decide) (fun s' => typeIs_int s' k t) ⟨_, e, rfl⟩ F.fills_int_mul noFill_list_mul F.slot_int_mul lm_noRepeat_int repeat_list F.slot_int_index.lookup
    (call_meets F.slot_int_mul (typeIs_int s k t) F.entry_int_mul (F.args_int_mul_2 _ _) (rmulL k t l its.toArray n os)
      ⟨e, rfl, ⟨_, e, rfl⟩, call_meets F.slot_list_mul ⟨_, e, rfl⟩ F.entry_list_mul (F.args_list_mul_2 _ _) (mulS l its.toArray n os k t hfit hcap hlong) ⟨e, ?_⟩⟩)
  rw [hnew]
  exact ⟨.ref _, _, I.lnew (t' := s.toks) (r.rep k.toNat) (by rw [PyProof.Rows.lm_len_rep_flat, Nat.mul_comm]; exact hz), rfl, q _ I.fresh⟩
theorem op_mulA : OpR X (binaryOp .Mult) (rI (fun i j => IntMulOk i j) fun i j => .int (i * j)) := opI fun _ _ _ _ _ _ _ hc q => mul_int q hc
theorem op_divA : OpR X (binaryOp .FloorDiv) (rI (fun i j => divOk i j = true) fun i j => .int (i.fdiv j)) := opI fun _ _ _ _ _ _ _ hc q => floordiv_int (divOk_ne hc) q (.inl (divOk_py hc))
theorem iop_mulA : OpR X (inplaceOp .Mult) (rI (fun i j => IntMulOk i j) fun i j => .int (i * j)) := opI fun _ _ _ _ _ _ _ hc q => imul_int q hc
theorem iop_divA : OpR X (inplaceOp .FloorDiv) (rI (fun i j => divOk i j = true) fun i j => .int (i.fdiv j)) := opI fun _ _ _ _ _ _ _ hc q => ifloordiv_int (divOk_ne hc) q (.inl (divOk_py hc))
theorem iop_modA : OpR X (inplaceOp .Mod) (rI (fun _ j => j ≠ 0) fun i j => .int (i.fmod j)) := opI fun _ _ _ _ _ _ _ hc q => imod_int hc q
theorem op_bop (o : Bop) : OpR X (binaryOp o.op) (r2D X.K (bop o)) := by
  intro pins s σ H x y v u Q I rx ry ⟨F, d, e, hs, rd, re, h⟩
  cases o
  case add =>
    cases rd <;> cases re <;> try exact False.elim h
    · exact op_add pins s σ H _ _ v u Q I rx ry ⟨_, _, rfl, rfl, PV.now h hs (.int _)⟩
    · rename_i z1 z2
      by_cases hz : lineB (z1.length + z2.length) = true
      · rw [show bop .add (.str z1) (.str z2) = rv (.str (z1 ++ z2)) from if_pos hz] at h
        exact op_add_str pins s σ H _ _ v u Q I rx ry ⟨_, _, rfl, rfl, lineB_ok hz, PV.now h hs (.str _)⟩
      · rw [show bop .add (.str z1) (.str z2) = none from if_neg hz] at h
        exact False.elim h
    · rename_i a xs ds s1 r1 b ys es s2 r2
      by_cases hz : lineB (ds.length + es.length) = true
      · rw [show bop .add (.list ds) (.list es) = some (.own (ds ++ es)) from if_pos hz] at h
        exact op_catS pins s σ H _ _ v u Q I rx ry ⟨a, b, xs, ys, rfl, rfl, sqL_mono hs s1, sqL_mono hs s2, by rw [← r1.len, ← r2.len]; exact lineB_ok hz, fun p hp => PV.newL h hs (r1.app r2) hp⟩
      · rw [show bop .add (.list ds) (.list es) = none from if_neg hz] at h
        exact False.elim h
    · rename_i a xs ds s1 r1 b ys es s2 r2
      by_cases hz : lineB (ds.length + es.length) = true
      · rw [show bop .add (.tuple ds) (.tuple es) = rv (.tuple (ds ++ es)) from if_pos hz] at h
        refine op_catA pins s σ H _ _ v u Q I rx ry ⟨a, b, xs, ys, rfl, rfl, sqT_mono hs s1, sqT_mono hs s2, by rw [← r1.len, ← r2.len]; exact lineB_ok hz, fun e1 => ?_, fun _ e2 => ?_, fun _ _ p hp => PV.newT h hs (r1.app r2) hp⟩
        · subst e1
          cases r1
          exact PV.now h hs (.tup s2 r2)
        · subst e2
          cases r2
          rw [List.append_nil] at h
          exact PV.now h hs (.tup s1 r1)
      · rw [show bop .add (.tuple ds) (.tuple es) = none from if_neg hz] at h
        exact False.elim h
  case sub =>
    cases rd <;> cases re <;> try exact False.elim h
    exact op_sub pins s σ H _ _ v u Q I rx ry ⟨_, _, rfl, rfl, PV.now h hs (.int _)⟩
  case mul =>
    cases rd <;> cases re <;> try exact False.elim h
    · rename_i i j
      by_cases hz : mulOk i j = true
      · rw [show bop .mul (.int i) (.int j) = rint (i * j) from if_pos hz] at h
        exact op_mulA pins s σ H _ _ v u Q I rx ry ⟨_, _, rfl, rfl, mulOk_ok hz, PV.now h hs (.int _)⟩
      · rw [show bop .mul (.int i) (.int j) = none from if_neg hz] at h
        exact False.elim h
    · rename_i k a xs ds s1 r1
      by_cases hz : (lineB (ds.length * k.toNat) && decide (-9223372036854775808 ≤ k) && decide (k < 9223372036854775808)) = true
      · rw [show bop .mul (.int k) (.list ds) = some (.own (List.replicate k.toNat ds).flatten) from if_pos hz] at h
        simp only [Bool.and_eq_true, decide_eq_true_eq] at hz
        exact op_repL pins s σ H _ _ v u Q I rx ry ⟨a, k, xs, rfl, rfl, sqL_mono hs s1, by omega, by omega, by rw [← r1.len]; exact lineB_ok hz.1.1, fun p hp => PV.newL h hs (r1.rep _) hp⟩
      · rw [show bop .mul (.int k) (.list ds) = none from if_neg hz] at h
        exact False.elim h
    · rename_i a xs ds s1 r1 k
      by_cases hz : (lineB (ds.length * k.toNat) && decide (-9223372036854775808 ≤ k) && decide (k < 9223372036854775808)) = true
      · rw [show bop .mul (.list ds) (.int k) = some (.own (List.replicate k.toNat ds).flatten) from if_pos hz] at h
        simp only [Bool.and_eq_true, decide_eq_true_eq] at hz
        exact op_repS pins s σ H _ _ v u Q I rx ry ⟨a, k, xs, rfl, rfl, sqL_mono hs s1, by omega, by omega, by rw [← r1.len]; exact lineB_ok hz.1.1, fun p hp => PV.newL h hs (r1.rep _) hp⟩
      · rw [show bop .mul (.list ds) (.int k) = none from if_neg hz] at h
        exact False.elim h
  case fdiv =>
    cases rd <;> cases re <;> try exact False.elim h
    rename_i i j
    by_cases hz : divOk i j = true
    · rw [show bop .fdiv (.int i) (.int j) = rint (i.fdiv j) from if_pos hz] at h
      exact op_divA pins s σ H _ _ v u Q I rx ry ⟨_, _, rfl, rfl, hz, PV.now h hs (.int _)⟩
    · rw [show bop .fdiv (.int i) (.int j) = none from if_neg hz] at h
      exact False.elim h
  case mod =>
    cases rd <;> cases re <;> try exact False.elim h
    rename_i i j
    by_cases hz : j = 0
    · rw [show bop .mod (.int i) (.int j) = none from if_pos hz] at h
      exact False.elim h
    · rw [show bop .mod (.int i) (.int j) = rint (i.fmod j) from if_neg hz] at h
      exact op_modN pins s σ H _ _ v u Q I rx ry ⟨_, _, rfl, rfl, hz, PV.now h hs (.int _)⟩
  case pow =>
    cases rd <;> cases re <;> try exact False.elim h
    rename_i i j
    by_cases hz : powOk i j = true
    · rw [show bop .pow (.int i) (.int j) = rint (i ^ j.toNat) from if_pos hz] at h
      have hz' := hz
      unfold powOk at hz'
      simp only [Bool.and_eq_true, decide_eq_true_eq] at hz'
      exact op_pow pins s σ H _ _ v u Q I rx ry ⟨_, _, rfl, rfl, ⟨hz'.1.1, hz'.1.2, hz'.2⟩, PV.now h hs (.int _)⟩
    · rw [show bop .pow (.int i) (.int j) = none from if_neg hz] at h
      exact False.elim h
  case shl =>
    cases rd <;> cases re <;> try exact False.elim h
    rename_i i j
    by_cases hz : shlOk i j = true
    · rw [show bop .shl (.int i) (.int j) = rint (i * 2 ^ j.toNat) from if_pos hz] at h
      have hz' := hz
      unfold shlOk at hz'
      simp only [Bool.and_eq_true, decide_eq_true_eq] at hz'
      exact op_shlW pins s σ H _ _ v u Q I rx ry ⟨_, _, rfl, rfl, ⟨hz'.1, hz'.2⟩, PV.now h hs (.int _)⟩
    · rw [show bop .shl (.int i) (.int j) = none from if_neg hz] at h
      exact False.elim h
  case shr =>
    cases rd <;> cases re <;> try exact False.elim h
    rename_i i j
    by_cases hz : 0 ≤ j
    · rw [show bop .shr (.int i) (.int j) = rint (i / 2 ^ j.toNat) from if_pos hz] at h
      exact op_shr pins s σ H _ _ v u Q I rx ry ⟨_, _, rfl, rfl, hz, PV.now h hs (.int _)⟩
    · rw [show bop .shr (.int i) (.int j) = none from if_neg hz] at h
      exact False.elim h
  case band =>
    cases rd <;> cases re <;> try exact False.elim h
    exact op_and pins s σ H _ _ v u Q I rx ry ⟨_, _, rfl, rfl, PV.now h hs (.int _)⟩
  case bor =>
    cases rd <;> cases re <;> try exact False.elim h
    exact op_or pins s σ H _ _ v u Q I rx ry ⟨_, _, rfl, rfl, PV.now h hs (.int _)⟩
  case bxor =>
    cases rd <;> cases re <;> try exact False.elim h
    exact op_xor pins s σ H _ _ v u Q I rx ry ⟨_, _, rfl, rfl, PV.now h hs (.int _)⟩
/-! ### in place -/
theorem iop_bop (o : Bop) : OpR X (inplaceOp o.op) (fun x y H Q => ∃ F d e, Same F H ∧ Rp X.K F d x ∧ Rp X.K F e y ∧ ∃ z, bop o d e = some (.val z) ∧ (∀ xs, z ≠ .tuple xs) ∧ PV X.K Q (.val z) F H ∧ o ≠ .pow) := by
  intro pins s σ H x y v u Q I rx ry ⟨F, d, e, hs, rd, re, z, ez, nt, h, np⟩
  cases o
  case add =>
    cases rd <;> cases re <;> try exact no_of (show (none : Ro) = some _ from ez)
    · cases (Option.some.inj ez)
      exact iop_add pins s σ H _ _ v u Q I rx ry ⟨_, _, rfl, rfl, PV.now h hs (.int _)⟩
    · rename_i z1 z2
      by_cases hz : lineB (z1.length + z2.length) = true
      · rw [show bop .add (.str z1) (.str z2) = rv (.str (z1 ++ z2)) from if_pos hz] at ez
        cases (Option.some.inj ez)
        exact iop_add_str pins s σ H _ _ v u Q I rx ry ⟨_, _, rfl, rfl, lineB_ok hz, PV.now h hs (.str _)⟩
      · rw [show bop .add (.str z1) (.str z2) = none from if_neg hz] at ez
        cases ez
    · rename_i a xs ds s1 r1 b ys es s2 r2
      by_cases hz : lineB (ds.length + es.length) = true
      · rw [show bop .add (.list ds) (.list es) = some (.own (ds ++ es)) from if_pos hz] at ez
        cases ez
      · rw [show bop .add (.list ds) (.list es) = none from if_neg hz] at ez
        cases ez
    · rename_i a xs ds s1 r1 b ys es s2 r2
      by_cases hz : lineB (ds.length + es.length) = true
      · rw [show bop .add (.tuple ds) (.tuple es) = rv (.tuple (ds ++ es)) from if_pos hz] at ez
        cases (Option.some.inj ez)
        exact absurd rfl (nt _)
      · rw [show bop .add (.tuple ds) (.tuple es) = none from if_neg hz] at ez
        cases ez
  case sub =>
    cases rd <;> cases re <;> try exact no_of (show (none : Ro) = some _ from ez)
    cases (Option.some.inj ez)
    exact iop_sub pins s σ H _ _ v u Q I rx ry ⟨_, _, rfl, rfl, PV.now h hs (.int _)⟩
  case mul =>
    cases rd <;> cases re <;> try exact no_of (show (none : Ro) = some _ from ez)
    · rename_i i j
      by_cases hz : mulOk i j = true
      · rw [show bop .mul (.int i) (.int j) = rint (i * j) from if_pos hz] at ez
        cases (Option.some.inj ez)
        exact iop_mulA pins s σ H _ _ v u Q I rx ry ⟨_, _, rfl, rfl, mulOk_ok hz, PV.now h hs (.int _)⟩
      · rw [show bop .mul (.int i) (.int j) = none from if_neg hz] at ez
        cases ez
    · rename_i k a xs ds s1 r1
      by_cases hz : (lineB (ds.length * k.toNat) && decide (-9223372036854775808 ≤ k) && decide (k < 9223372036854775808)) = true
      · rw [show bop .mul (.int k) (.list ds) = some (.own (List.replicate k.toNat ds).flatten) from if_pos hz] at ez
        cases ez
      · rw [show bop .mul (.int k) (.list ds) = none from if_neg hz] at ez
        cases ez
    · rename_i a xs ds s1 r1 k
      by_cases hz : (lineB (ds.length * k.toNat) && decide (-9223372036854775808 ≤ k) && decide (k < 9223372036854775808)) = true
      · rw [show bop .mul (.list ds) (.int k) = some (.own (List.replicate k.toNat ds).flatten) from if_pos hz] at ez
        cases ez
      · rw [show bop .mul (.list ds) (.int k) = none from if_neg hz] at ez
        cases ez
  case fdiv =>
    cases rd <;> cases re <;> try exact no_of (show (none : Ro) = some _ from ez)
    rename_i i j
    by_cases hz : divOk i j = true
    · rw [show bop .fdiv (.int i) (.int j) = rint (i.fdiv j) from if_pos hz] at ez
      cases (Option.some.inj ez)
      exact iop_divA pins s σ H _ _ v u Q I rx ry ⟨_, _, rfl, rfl, hz, PV.now h hs (.int _)⟩
    · rw [show bop .fdiv (.int i) (.int j) = none from if_neg hz] at ez
      cases ez
  case mod =>
    cases rd <;> cases re <;> try exact no_of (show (none : Ro) = some _ from ez)
    rename_i i j
    by_cases hz : j = 0
    · rw [show bop .mod (.int i) (.int j) = none from if_pos hz] at ez
      cases ez
    · rw [show bop .mod (.int i) (.int j) = rint (i.fmod j) from if_neg hz] at ez
      cases (Option.some.inj ez)
      by_cases h0 : 0 < j
      · rw [Int.fmod_eq_emod_of_nonneg i (by omega)] at h
        exact iop_mod pins s σ H _ _ v u Q I rx ry ⟨_, _, rfl, rfl, h0, PV.now h hs (.int _)⟩
      · exact iop_modA pins s σ H _ _ v u Q I rx ry ⟨_, _, rfl, rfl, hz, PV.now h hs (.int _)⟩
  case pow => exact absurd rfl np
  case shl =>
    cases rd <;> cases re <;> try exact no_of (show (none : Ro) = some _ from ez)
    rename_i i j
    by_cases hz : shlOk i j = true
    · rw [show bop .shl (.int i) (.int j) = rint (i * 2 ^ j.toNat) from if_pos hz] at ez
      cases (Option.some.inj ez)
      have hz' := hz
      unfold shlOk at hz'
      simp only [Bool.and_eq_true, decide_eq_true_eq] at hz'
      exact iop_shlW pins s σ H _ _ v u Q I rx ry ⟨_, _, rfl, rfl, ⟨hz'.1, hz'.2⟩, PV.now h hs (.int _)⟩
    · rw [show bop .shl (.int i) (.int j) = none from if_neg hz] at ez
      cases ez
  case shr =>
    cases rd <;> cases re <;> try exact no_of (show (none : Ro) = some _ from ez)
    rename_i i j
    by_cases hz : 0 ≤ j
    · rw [show bop .shr (.int i) (.int j) = rint (i / 2 ^ j.toNat) from if_pos hz] at ez
      cases (Option.some.inj ez)
      exact iop_shr pins s σ H _ _ v u Q I rx ry ⟨_, _, rfl, rfl, hz, PV.now h hs (.int _)⟩
    · rw [show bop .shr (.int i) (.int j) = none from if_neg hz] at ez
      cases ez
  case band =>
    cases rd <;> cases re <;> try exact no_of (show (none : Ro) = some _ from ez)
    cases (Option.some.inj ez)
    exact iop_and pins s σ H _ _ v u Q I rx ry ⟨_, _, rfl, rfl, PV.now h hs (.int _)⟩
  case bor =>
    cases rd <;> cases re <;> try exact no_of (show (none : Ro) = some _ from ez)
    cases (Option.some.inj ez)
    exact iop_or pins s σ H _ _ v u Q I rx ry ⟨_, _, rfl, rfl, PV.now h hs (.int _)⟩
  case bxor =>
    cases rd <;> cases re <;> try exact no_of (show (none : Ro) = some _ from ez)
    cases (Option.some.inj ez)
    exact iop_xor pins s σ H _ _ v u Q I rx ry ⟨_, _, rfl, rfl, PV.now h hs (.int _)⟩

/-! ### comparisons -/
theorem is_non {K : PySem.W.Frag} {F : Hp} {d : PyData} {x : V} (r : Rp K F d x) : decide (x = V.non) = isNone d := by
  cases r <;> rfl
theorem rp_scal {K : PySem.W.Frag} {F : Hp} {d : PyData} {x : V} (r : Rp K F d x) (h : scalD d = true) : flatV x = true := by
  cases r <;> first | rfl | exact absurd h (by decide) | cases h
theorem eqv_scal {K : PySem.W.Frag} {F : Hp} {d e : PyData} {x y : V} (r : Rp K F d x) (q : Rp K F e y) (h : scalD d = true) (h2 : scalD e = true) : eqV y x = PyData.eqv e d := by
  cases r <;> cases q <;> first | cases h | cases h2 | skip
  all_goals first
    | rfl
    | (simp only [eqV, PyData.eqv]; done)
    | (simp only [eqV, PyData.eqv]; first | rfl | (rename_i a b; cases a <;> cases b <;> rfl) | (rename_i a b; cases a <;> rfl) | (rename_i a b; cases b <;> rfl))
theorem all_scal {K : PySem.W.Frag} {F : Hp} : ∀ {ds : List PyData} {vs : List V}, Rps K F ds vs → ds.all scalD = true → vs.all flatV = true
  | _, _, .nil, _ => rfl
  | _, _, .cons r t, h => by
    rw [List.all_cons, Bool.and_eq_true] at h ⊢
    exact ⟨rp_scal r h.1, all_scal t h.2⟩
theorem any_scal {K : PySem.W.Frag} {F : Hp} {d : PyData} {x : V} (r : Rp K F d x) (hd : scalD d = true) : ∀ {ds : List PyData} {vs : List V}, Rps K F ds vs → ds.all scalD = true → inV x vs = ds.any fun y => PyData.eqv y d
  | _, _, .nil, _ => rfl
  | _, _, .cons q t, h => by
    rw [List.all_cons, Bool.and_eq_true] at h
    have h1 := eqv_scal r q hd h.1
    have h2 := any_scal r hd t h.2
    unfold inV at h2 ⊢
    rw [List.any_cons, List.any_cons, h1, h2]
/-! #### dicts with tuple keys -/
theorem keyD1_kD : ∀ k : L2.Key, keyD1 (kD k) = some k
  | .inl _ => rfl
  | .inr _ => rfl
theorem keysD_map : ∀ k : List L2.Key, keysD (k.map kD) = some k
  | [] => rfl
  | a :: k => by rw [List.map_cons, keysD, keyD1_kD, keysD_map k]
theorem decD_enc : ∀ kvs : Dic, decD (encD kvs) = some kvs
  | [] => rfl
  | p :: kvs => by
    have e : encD (p :: kvs) = (ksD p.1, p.2) :: encD kvs := rfl
    have q : keyD (ksD p.1) = some p.1 := keysD_map p.1
    rw [e, decD, q, decD_enc kvs]
theorem dict_rep {K : PySem.W.Frag} {F : Hp} {es : List (PyData × PyData)} {y : V} {kvs : Dic} (r : Rp K F (.dict es) y) (h : decD es = some kvs) (ne : kvs ≠ []) : ∃ a, y = .ref a ∧ F a = some (.dT (kvs.map fun p => (p.1, dVS p.2))) ∧ ∀ p ∈ kvs, scalD p.2 = true := by
  cases r with
  | dct e => cases h; exact absurd rfl ne
  | dtk k2 h1 h2 h3 h4 =>
    rw [h1, decD_enc] at h
    cases h
    exact ⟨_, rfl, h4, h3⟩
  | exn => cases h
  | exp _ => cases h
theorem keys_rep {K : PySem.W.Frag} {F : Hp} : ∀ {ds : List PyData} {xs : List V} {k : List L2.Key}, Rps K F ds xs → keysD ds = some k → xs = k.map kV
  | [], _, k, r, h => by cases r; cases h; rfl
  | d :: ds, _, k, r, h => by
    cases r with
    | cons a b =>
      rw [keysD] at h
      cases e1 : keyD1 d with
      | none => rw [e1] at h; cases h
      | some k1 =>
        rw [e1] at h
        cases e2 : keysD ds with
        | none => rw [e2] at h; cases h
        | some ks =>
          rw [e2] at h
          cases h
          rw [List.map_cons, ← keys_rep b e2]
          congr 1
          cases a <;> cases e1 <;> rfl
theorem key_rep {K : PySem.W.Frag} {F : Hp} {d : PyData} {x : V} {k : List L2.Key} (r : Rp K F d x) (h : keyD d = some k) : ∃ b, x = .ref b ∧ SqT K F b (k.map kV) := by
  cases r <;> try cases h
  rename_i b xs ds s rs
  exact ⟨b, rfl, by rw [← keys_rep rs h]; exact s⟩
theorem sqT_key {pins : List (Addr × Obj)} {σ : L2.St} {H : Hp} {s : Shared} {b : Addr} {k : List L2.Key} (I : Inv X pins σ H s) (h : SqT X.K H b (k.map kV)) : (tupleKind (mixKind X.prog X.w)).is s.heap k b := by
  obtain ⟨its, r, ⟨o, h1, h2, n, h3⟩, _⟩ := I.tuple h
  exact ⟨o, its.toArray, n, h1, h2, h3, by simpa using items_are r⟩
theorem dHas_val (kvs : Dic) (k : List L2.Key) : dHas kvs k = (valV (kvs.map fun p => (p.1, dVS p.2)) k).isSome := by
  rw [← valV_any, List.any_map]
  rfl
section
variable {pins : List (Addr × Obj)} {σ : L2.St} {H F : Hp} {s : Shared} {x y : V} {v u : Value} {d : PyData} {es : List (PyData × PyData)} {b : Bool} {P : Value → Shared → Prop}
theorem inD_rep (hs : Same F H) (I : Inv X pins σ H s) (rd : Rp X.K F d x) (re : Rp X.K F (.dict es) y) (hb : inD d es = some b) : ∃ (k : List L2.Key) (c a : Addr) (ws : List (List L2.Key × V)), x = .ref c ∧ y = .ref a ∧ (tupleKind (mixKind X.prog X.w)).is s.heap k c ∧ H a = some (.dT ws) ∧ b = (valV ws k).isSome := by
  unfold inD at hb
  cases e1 : keyD d with
  | none => rw [e1] at hb; cases hb
  | some k =>
    cases e2 : decD es with
    | none => rw [e1, e2] at hb; cases hb
    | some kvs =>
      rw [e1, e2] at hb
      have hb : (if kvs.isEmpty = true then none else some (dHas kvs k)) = some b := hb
      by_cases ne : kvs = []
      · rw [ne] at hb; cases hb
      · rw [if_neg (by simpa using ne)] at hb
        cases hb
        obtain ⟨c, rfl, sq⟩ := key_rep rd e1
        obtain ⟨a, rfl, ea, _⟩ := dict_rep re e2 ne
        exact ⟨k, c, a, _, rfl, rfl, sqT_key I (sqT_mono hs sq), hs _ _ ea, dHas_val kvs k⟩
theorem op_inD (hu : X.A.units + 64 < cLine) (I : Inv X pins σ H s) (rx : RelV x v) (ry : RelV y u) (hs : Same F H) (rd : Rp X.K F d x) (re : Rp X.K F (.dict es) y) (hb : inD d es = some b) (q : ∀ s', Inv X pins σ H s' → P (.bool b) s') : wpAny (model X.prog X.w) X.A (compareOp .In v u) P X.xe s := by
  obtain ⟨k, c, a, ws, rfl, rfl, ki, ea, rfl⟩ := inD_rep hs I rd re hb
  cases rx
  cases ry
  obtain ⟨z, hd, xs, rel, dd⟩ := dt_of I.hok ea
  refine wpAny_in_heap (tupleKind_room_in1 (by omega)) ki hd dd ?_
  have e := (rel.val k).isSome_eq
  rw [Option.isSome_map] at e
  rw [← e]
  exact q _ (I.tok _)
theorem op_ninD (hu : X.A.units + 64 < cLine) (I : Inv X pins σ H s) (rx : RelV x v) (ry : RelV y u) (hs : Same F H) (rd : Rp X.K F d x) (re : Rp X.K F (.dict es) y) (hb : inD d es = some b) (q : ∀ s', Inv X pins σ H s' → P (.bool (!b)) s') : wpAny (model X.prog X.w) X.A (compareOp .NotIn v u) P X.xe s := by
  obtain ⟨k, c, a, ws, rfl, rfl, ki, ea, rfl⟩ := inD_rep hs I rd re hb
  cases rx
  cases ry
  obtain ⟨z, hd, xs, rel, dd⟩ := dt_of I.hok ea
  refine wpAny_notIn_heap (tupleKind_room_in1 (by omega)) ki hd dd ?_
  have e := (rel.val k).isSome_eq
  rw [Option.isSome_map] at e
  rw [← e]
  exact q _ (I.tok _)
end
theorem op_eqP (hu : X.A.units + 64 < cLine) : OpR X (compareOp .Eq) (r2D X.K (cop .eq)) := by
  intro pins s σ H x y v u Q I rx ry ⟨F, d, e, hs, rd, re, h⟩
  by_cases hz : eqOk d e = true
  · rw [show cop .eq d e = rbool (PyData.eqv d e) from if_pos hz] at h
    unfold eqOk at hz
    simp only [Bool.and_eq_true, Bool.or_eq_true, decide_eq_true_eq] at hz
    obtain ⟨as, q1⟩ := Dp.reads I d x v (Rp.dp d x hz.1.1 (Rp.mono hs d x rd)) rx
    obtain ⟨bs, q2⟩ := Dp.reads I e y u (Rp.dp e y hz.1.2 (Rp.mono hs e y re)) ry
    have hm : X.A.units + min d.depth e.depth < cLine := by
      have m1 := Nat.min_le_left d.depth e.depth
      have m2 := Nat.min_le_right d.depth e.depth
      rcases hz.2 with z | z <;> omega
    exact SeqAt.eq_plain q1 q2 hz.1.1 hz.1.2 hm ⟨.bl _, H, I, rfl, PV.now h hs (.bl _)⟩
  · rw [show cop .eq d e = none from if_neg hz] at h
    exact False.elim h
theorem op_neP (hu : X.A.units + 64 < cLine) : OpR X (compareOp .NotEq) (r2D X.K (cop .ne)) := by
  intro pins s σ H x y v u Q I rx ry ⟨F, d, e, hs, rd, re, h⟩
  by_cases hz : eqOk d e = true
  · rw [show cop .ne d e = rbool (!PyData.eqv d e) from if_pos hz] at h
    unfold eqOk at hz
    simp only [Bool.and_eq_true, Bool.or_eq_true, decide_eq_true_eq] at hz
    obtain ⟨as, q1⟩ := Dp.reads I d x v (Rp.dp d x hz.1.1 (Rp.mono hs d x rd)) rx
    obtain ⟨bs, q2⟩ := Dp.reads I e y u (Rp.dp e y hz.1.2 (Rp.mono hs e y re)) ry
    have hm : X.A.units + min d.depth e.depth < cLine := by
      have m1 := Nat.min_le_left d.depth e.depth
      have m2 := Nat.min_le_right d.depth e.depth
      rcases hz.2 with z | z <;> omega
    exact SeqAt.ne_plain q1 q2 hz.1.1 hz.1.2 hm ⟨.bl _, H, I, rfl, PV.now h hs (.bl _)⟩
  · rw [show cop .ne d e = none from if_neg hz] at h
    exact False.elim h
theorem cop_in_lst {d : PyData} {xs : List PyData} : cop .inn d (.list xs) = if (scalD d && xs.all scalD) = true then rbool (xs.any fun y => PyData.eqv y d) else none := by cases d <;> rfl
theorem cop_in_tup {d : PyData} {xs : List PyData} : cop .inn d (.tuple xs) = if (scalD d && xs.all scalD) = true then rbool (xs.any fun y => PyData.eqv y d) else none := by cases d <;> rfl
theorem cop_nin_lst {d : PyData} {xs : List PyData} : cop .nin d (.list xs) = if (scalD d && xs.all scalD) = true then rbool (!xs.any fun y => PyData.eqv y d) else none := by cases d <;> rfl
theorem cop_nin_tup {d : PyData} {xs : List PyData} : cop .nin d (.tuple xs) = if (scalD d && xs.all scalD) = true then rbool (!xs.any fun y => PyData.eqv y d) else none := by cases d <;> rfl
theorem one_sign {y : Str} {c : Nat} (h : y.cps.toList = [c]) : y = ⟨#[c]⟩ := by
  cases y with
  | mk a =>
    cases a with
    | mk l =>
      have h : l = [c] := h
      rw [h]
theorem op_cop (hu : X.A.units + 64 < cLine) (o : Cop) : OpR X (compareOp o.op) (r2D X.K (cop o)) := by
  cases o
  case eq => exact op_eqP hu
  case ne => exact op_neP hu
  case lt =>
    intro pins s σ H x y v u Q I rx ry ⟨F, d, e, hs, rd, re, h⟩
    cases rd <;> cases re <;> try exact False.elim h
    exact op_lt pins s σ H _ _ v u Q I rx ry ⟨_, _, rfl, rfl, PV.now h hs (.bl _)⟩
  case le =>
    intro pins s σ H x y v u Q I rx ry ⟨F, d, e, hs, rd, re, h⟩
    cases rd <;> cases re <;> try exact False.elim h
    exact op_le pins s σ H _ _ v u Q I rx ry ⟨_, _, rfl, rfl, PV.now h hs (.bl _)⟩
  case gt =>
    intro pins s σ H x y v u Q I rx ry ⟨F, d, e, hs, rd, re, h⟩
    cases rd <;> cases re <;> try exact False.elim h
    exact op_gt pins s σ H _ _ v u Q I rx ry ⟨_, _, rfl, rfl, PV.now h hs (.bl _)⟩
  case ge =>
    intro pins s σ H x y v u Q I rx ry ⟨F, d, e, hs, rd, re, h⟩
    cases rd <;> cases re <;> try exact False.elim h
    exact op_ge pins s σ H _ _ v u Q I rx ry ⟨_, _, rfl, rfl, PV.now h hs (.bl _)⟩
  case is =>
    intro pins s σ H x y v u Q I rx ry ⟨F, d, e, hs, rd, re, h⟩
    cases re
    case non =>
      have h' : PV X.K Q (.val (.bool (isNone d))) F H := by cases rd <;> exact h
      refine op_isN pins s σ H _ _ v u Q I rx ry ⟨rfl, ?_⟩
      rw [is_non rd]
      exact PV.now h' hs (.bl _)
    all_goals cases rd <;> try exact False.elim h
    rename_i b a
    have h' : PV X.K Q (.val (.bool (a == b))) F H := h
    refine op_isBl pins s σ H _ _ v u Q I rx ry ⟨_, _, rfl, rfl, ?_⟩
    have := PV.now h' hs (.bl _)
    cases a <;> cases b <;> exact this
  case isn =>
    intro pins s σ H x y v u Q I rx ry ⟨F, d, e, hs, rd, re, h⟩
    cases re
    case non =>
      have h' : PV X.K Q (.val (.bool (!isNone d))) F H := by cases rd <;> exact h
      refine op_notN pins s σ H _ _ v u Q I rx ry ⟨rfl, ?_⟩
      rw [is_non rd]
      exact PV.now h' hs (.bl _)
    all_goals cases rd <;> try exact False.elim h
    rename_i b a
    have h' : PV X.K Q (.val (.bool (!(a == b)))) F H := h
    refine op_notBl pins s σ H _ _ v u Q I rx ry ⟨_, _, rfl, rfl, ?_⟩
    have := PV.now h' hs (.bl _)
    cases a <;> cases b <;> exact this
  case inn =>
    intro pins s σ H x y v u Q I rx ry ⟨F, d, e, hs, rd, re, h⟩
    by_cases hdd : ∃ es, e = .dict es
    · obtain ⟨es, rfl⟩ := hdd
      have h : PN ((inD d es).bind fun b => rbool (b)) (PV X.K Q) F H := by
        cases d <;> exact h
      cases e3 : inD d es with
      | none => rw [e3] at h; exact False.elim h
      | some b =>
        rw [e3] at h
        exact op_inD hu I rx ry hs rd re e3 fun s' I' => ⟨.bl _, H, I', rfl, PV.now h hs (.bl _)⟩
    cases re
    case lst p xs ds s1 r1 =>
      rw [cop_in_lst] at h
      by_cases hz : (scalD d && ds.all scalD) = true
      · rw [if_pos hz] at h
        rw [Bool.and_eq_true] at hz
        refine op_in_seq pins s σ H _ _ v u Q I rx ry ⟨p, xs, rfl, .inl (sqL_mono hs s1), rp_scal rd hz.1, all_scal r1 hz.2, ?_⟩
        have := PV.now h hs (.bl _)
        rw [← any_scal rd hz.1 r1 hz.2] at this
        exact this
      · rw [if_neg hz] at h
        exact False.elim h
    case tup p xs ds s1 r1 =>
      rw [cop_in_tup] at h
      by_cases hz : (scalD d && ds.all scalD) = true
      · rw [if_pos hz] at h
        rw [Bool.and_eq_true] at hz
        refine op_in_seq pins s σ H _ _ v u Q I rx ry ⟨p, xs, rfl, .inr (sqT_mono hs s1), rp_scal rd hz.1, all_scal r1 hz.2, ?_⟩
        have := PV.now h hs (.bl _)
        rw [← any_scal rd hz.1 r1 hz.2] at this
        exact this
      · rw [if_neg hz] at h
        exact False.elim h
    case str z =>
      cases rd <;> try exact False.elim h
      rename_i y
      cases hy : y.cps.toList with
      | nil =>
        have h : PN (match y.cps.toList with
          | [c] => rbool (decide (c ∈ z.cps.toList))
          | _ => none) (PV X.K Q) F H := h
        rw [hy] at h
        exact False.elim h
      | cons c l =>
        cases l with
        | nil =>
          have h : PN (match y.cps.toList with
            | [c] => rbool (decide (c ∈ z.cps.toList))
            | _ => none) (PV X.K Q) F H := h
          rw [hy] at h
          have e := one_sign hy
          subst e
          exact op_in_sign pins s σ H _ _ v u Q I rx ry ⟨c, z, rfl, rfl, PV.now h hs (.bl _)⟩
        | cons c2 l =>
          have h : PN (match y.cps.toList with
            | [c] => rbool (decide (c ∈ z.cps.toList))
            | _ => none) (PV X.K Q) F H := h
          rw [hy] at h
          exact False.elim h
    all_goals first | exact absurd ⟨_, rfl⟩ hdd | (cases rd <;> exact False.elim h)
  case nin =>
    intro pins s σ H x y v u Q I rx ry ⟨F, d, e, hs, rd, re, h⟩
    by_cases hdd : ∃ es, e = .dict es
    · obtain ⟨es, rfl⟩ := hdd
      have h : PN ((inD d es).bind fun b => rbool (!b)) (PV X.K Q) F H := by
        cases d <;> exact h
      cases e3 : inD d es with
      | none => rw [e3] at h; exact False.elim h
      | some b =>
        rw [e3] at h
        exact op_ninD hu I rx ry hs rd re e3 fun s' I' => ⟨.bl _, H, I', rfl, PV.now h hs (.bl _)⟩
    cases re
    case lst p xs ds s1 r1 =>
      rw [cop_nin_lst] at h
      by_cases hz : (scalD d && ds.all scalD) = true
      · rw [if_pos hz] at h
        rw [Bool.and_eq_true] at hz
        refine op_notIn_seq pins s σ H _ _ v u Q I rx ry ⟨p, xs, rfl, .inl (sqL_mono hs s1), rp_scal rd hz.1, all_scal r1 hz.2, ?_⟩
        have := PV.now h hs (.bl _)
        rw [← any_scal rd hz.1 r1 hz.2] at this
        exact this
      · rw [if_neg hz] at h
        exact False.elim h
    case tup p xs ds s1 r1 =>
      rw [cop_nin_tup] at h
      by_cases hz : (scalD d && ds.all scalD) = true
      · rw [if_pos hz] at h
        rw [Bool.and_eq_true] at hz
        refine op_notIn_seq pins s σ H _ _ v u Q I rx ry ⟨p, xs, rfl, .inr (sqT_mono hs s1), rp_scal rd hz.1, all_scal r1 hz.2, ?_⟩
        have := PV.now h hs (.bl _)
        rw [← any_scal rd hz.1 r1 hz.2] at this
        exact this
      · rw [if_neg hz] at h
        exact False.elim h
    case str z =>
      cases rd <;> try exact False.elim h
      rename_i y
      cases hy : y.cps.toList with
      | nil =>
        have h : PN (match y.cps.toList with
          | [c] => rbool (!decide (c ∈ z.cps.toList))
          | _ => none) (PV X.K Q) F H := h
        rw [hy] at h
        exact False.elim h
      | cons c l =>
        cases l with
        | nil =>
          have h : PN (match y.cps.toList with
            | [c] => rbool (!decide (c ∈ z.cps.toList))
            | _ => none) (PV X.K Q) F H := h
          rw [hy] at h
          have e := one_sign hy
          subst e
          exact op_notIn_sign pins s σ H _ _ v u Q I rx ry ⟨c, z, rfl, rfl, PV.now h hs (.bl _)⟩
        | cons c2 l =>
          have h : PN (match y.cps.toList with
            | [c] => rbool (!decide (c ∈ z.cps.toList))
            | _ => none) (PV X.K Q) F H := h
          rw [hy] at h
          exact False.elim h
    all_goals first | exact absurd ⟨_, rfl⟩ hdd | (cases rd <;> exact False.elim h)
end
end PX

/-! PX4: built-ins, items, slices, isinstance; the canonical readings. -/
namespace PX
open PySem PySem.Spec PyProof.Rows L2

def rLD (K : PySem.W.Frag) (g : List PyData → Ro) : List V → Hp → VK → Prop := fun vs H Q => ∃ F ds, Same F H ∧ Rps K F ds vs ∧ PN (g ds) (PV K Q) F H
theorem maxI_mem : ∀ (i : Int) (r : List Int), maxI (i :: r) ∈ i :: r
  | i, [] => by simp [maxI]
  | i, j :: r => by
    have ih := maxI_mem j r
    show (if maxI (j :: r) > i then maxI (j :: r) else i) ∈ i :: j :: r
    by_cases h : maxI (j :: r) > i
    · rw [if_pos h]; exact List.mem_cons_of_mem _ ih
    · rw [if_neg h]; exact List.mem_cons_self
theorem maxI_ge : ∀ (i : Int) (r : List Int) (y : Int), y ∈ i :: r → y ≤ maxI (i :: r)
  | i, [], y, h => by
    have e : y = i := by simpa using h
    rw [e]
    exact Int.le_refl _
  | i, j :: r, y, h => by
    show y ≤ if maxI (j :: r) > i then maxI (j :: r) else i
    have ih := maxI_ge j r
    rcases List.mem_cons.mp h with e | e
    · subst e
      split <;> omega
    · have := ih y e
      split <;> omega
theorem minI_mem : ∀ (i : Int) (r : List Int), minI (i :: r) ∈ i :: r
  | i, [] => by simp [minI]
  | i, j :: r => by
    have ih := minI_mem j r
    show (if minI (j :: r) < i then minI (j :: r) else i) ∈ i :: j :: r
    by_cases h : minI (j :: r) < i
    · rw [if_pos h]; exact List.mem_cons_of_mem _ ih
    · rw [if_neg h]; exact List.mem_cons_self
theorem minI_le : ∀ (i : Int) (r : List Int) (y : Int), y ∈ i :: r → minI (i :: r) ≤ y
  | i, [], y, h => by
    have e : y = i := by simpa using h
    rw [e]
    exact Int.le_refl _
  | i, j :: r, y, h => by
    show (if minI (j :: r) < i then minI (j :: r) else i) ≤ y
    have ih := minI_le j r
    rcases List.mem_cons.mp h with e | e
    · subst e
      split <;> omega
    · have := ih y e
      split <;> omega
theorem rps1 {K : PySem.W.Frag} {F : Hp} {d : PyData} {vs : List V} (h : Rps K F [d] vs) : ∃ v, vs = [v] ∧ Rp K F d v := by
  cases h with
  | cons a b => cases b; exact ⟨_, rfl, a⟩
theorem rps2 {K : PySem.W.Frag} {F : Hp} {d e : PyData} {vs : List V} (h : Rps K F [d, e] vs) : ∃ v u, vs = [v, u] ∧ Rp K F d v ∧ Rp K F e u := by
  cases h with
  | cons a b =>
    cases b with
    | cons c b => cases b; exact ⟨_, _, rfl, a, c⟩

/-! ### the greatest and the least of a tuple -/
section
variable {prog : Program} {w : World} {A : Around} {E : Value → Shared → Prop} {s : Shared} {l : Addr} {xs : Array (Int × Tok)} {its : List Value} {ns : List Int}
theorem iter_intTup {Q : Value → Shared → Prop} (hl : s.heap.IsTuple l (intItems xs))
    (h : ∀ s₂ : Shared, s₂ = { s with heap := s.heap.push { cls := .type "tuple_iterator", data := .fields #[.ref l, .int 0 0] } } →
      (s₂.heap.IsTupleIter s.heap.objs.size l 0 ∧ s₂.heap.IsTuple l (intItems xs)) → (∀ b ∈ [s.heap.objs.size, l], b < s₂.heap.objs.size) → l ≠ s.heap.objs.size → Q (.ref s.heap.objs.size) s₂) :
    wpAny (model prog w) A (pyIter (.ref l)) Q E s := by
  have hlt : l < s.heap.objs.size := by obtain ⟨_, e, _⟩ := hl; exact Heap.lt_size e
  refine wpAny_pyIter_tuple hl (h _ rfl ⟨⟨_, Heap.get?_push_size _ rfl, rfl, rfl⟩, hl.at fun o e => Heap.get?_push_of_some _ e⟩ (fun b hb => ?_) (Nat.ne_of_lt hlt))
  show b < (s.heap.push _).objs.size
  rw [Heap.size_push]
  rcases List.mem_cons.mp hb with rfl | hb
  · exact Nat.lt_succ_self _
  · rcases List.mem_cons.mp hb with rfl | hb
    · exact Nat.lt_succ_of_lt hlt
    · cases hb
theorem old_keptT {h' : Heap} (hk : ∀ b o, b ∉ [s.heap.objs.size] → (s.heap.push { cls := .type "tuple_iterator", data := .fields #[.ref l, .int 0 0] }).get? b = some o → h'.get? b = some o) :
    ∀ b o, s.heap.get? b = some o → h'.get? b = some o := fun b o e => by
  refine hk b o (fun hm => ?_) (Heap.get?_push_of_some _ e)
  rcases List.mem_cons.mp hm with e1 | hm
  · exact absurd (e1 ▸ Heap.lt_size e) (Nat.lt_irrefl _)
  · cases hm
theorem max_rawT {Q : Value → Shared → Prop} (hh : A.handled = none) (hl : s.heap.IsTuple l its.toArray) (hi : IntsAre its ns) (hne : 0 < ns.length)
    (h : ∀ h' tk M t', (∀ b o, s.heap.get? b = some o → h'.get? b = some o) → M ∈ ns → (∀ a, a ∈ ns → a ≤ M) → Q (.int M t') { s with heap := h', toks := tk }) : wpAny (model prog w) A (call (.builtin "max") [.ref l]) Q E s := by
  obtain ⟨xs, e⟩ := hi.allInts.items
  have hn : numsOf (intItems xs).toList = ns := by rw [← e]; exact hi.numsOf
  rw [nums_intItems] at hn
  subst hn
  rw [e] at hl
  have hsz : 0 < xs.size := by simpa using hne
  refine call_max_walk (iter_intTup hl fun s₂ e st hfp hlI => ?_)
  subst e
  refine ⟨_, _, _, _, _, _, _, rfl, Walks.tuple (A := A.in1) hh _ l hlI (intItems xs), st, hfp, by simpa [intItems] using hsz, CmpOf.ints_gt (numAt xs) (fun _ _ => intItems_at), fun v h' tk hP hk => ?_⟩
  have es : (intItems xs).size = xs.size := by simp [intItems]
  have hP2 : (intItems xs)[argBest (fun i j => decide (numAt xs i > numAt xs j)) (xs.size - 1)]? = some v := by
    have hP3 : (intItems xs)[argBest (fun i j => decide (numAt xs i > numAt xs j)) ((intItems xs).size - 1)]? = some v := hP
    rwa [es] at hP3
  obtain ⟨t, rfl⟩ := intItems_at hP2
  obtain ⟨h1, h2⟩ := argBest_gt (numAt xs) (xs.size - 1)
  refine h h' tk _ t (old_keptT hk) ?_ fun a ha => ?_
  · rw [numAt_eq]; exact PySem.getD_mem (by rw [List.length_map, Array.length_toList]; omega)
  · obtain ⟨j, hj, rfl⟩ := mem_getD ha
    rw [List.length_map, Array.length_toList] at hj
    rw [← numAt_eq]; exact h2 j (by omega)
theorem min_rawT {Q : Value → Shared → Prop} (hh : A.handled = none) (hl : s.heap.IsTuple l its.toArray) (hi : IntsAre its ns) (hne : 0 < ns.length)
    (h : ∀ h' tk M t', (∀ b o, s.heap.get? b = some o → h'.get? b = some o) → M ∈ ns → (∀ a, a ∈ ns → M ≤ a) → Q (.int M t') { s with heap := h', toks := tk }) : wpAny (model prog w) A (call (.builtin "min") [.ref l]) Q E s := by
  obtain ⟨xs, e⟩ := hi.allInts.items
  have hn : numsOf (intItems xs).toList = ns := by rw [← e]; exact hi.numsOf
  rw [nums_intItems] at hn
  subst hn
  rw [e] at hl
  have hsz : 0 < xs.size := by simpa using hne
  refine call_min_walk (iter_intTup hl fun s₂ e st hfp hlI => ?_)
  subst e
  refine ⟨_, _, _, _, _, _, _, rfl, Walks.tuple (A := A.in1) hh _ l hlI (intItems xs), st, hfp, by simpa [intItems] using hsz, CmpOf.ints_lt (numAt xs) (fun _ _ => intItems_at), fun v h' tk hP hk => ?_⟩
  have es : (intItems xs).size = xs.size := by simp [intItems]
  have hP2 : (intItems xs)[argBest (fun i j => decide (numAt xs i < numAt xs j)) (xs.size - 1)]? = some v := by
    have hP3 : (intItems xs)[argBest (fun i j => decide (numAt xs i < numAt xs j)) ((intItems xs).size - 1)]? = some v := hP
    rwa [es] at hP3
  obtain ⟨t, rfl⟩ := intItems_at hP2
  obtain ⟨h1, h2⟩ := argBest_lt (numAt xs) (xs.size - 1)
  refine h h' tk _ t (old_keptT hk) ?_ fun a ha => ?_
  · rw [numAt_eq]; exact PySem.getD_mem (by rw [List.length_map, Array.length_toList]; omega)
  · obtain ⟨j, hj, rfl⟩ := mem_getD ha
    rw [List.length_map, Array.length_toList] at hj
    rw [← numAt_eq]; exact h2 j (by omega)
theorem cr_maxT {X : Cx} (hc : X.calm = true) : CallR X (.builtin "max") (fun vs H Q => ∃ (a : Addr) (ns : List Int), vs = [V.ref a] ∧ SqT X.K H a (ns.map V.int) ∧ 0 < ns.length ∧ ∀ m, m ∈ ns → (∀ y, y ∈ ns → y ≤ m) → Q (.int m) H) := by
  intro pins s σ H vs us Q I r h
  obtain ⟨a, ns, rfl, hs, hne, q⟩ := h
  obtain ⟨its, rv, hl, _⟩ := I.tuple hs
  rw [Vals.ref1 r]
  exact max_rawT (I.ok.hd hc) hl rv.ints hne fun h' tk m t' hk h1 h2 => ⟨.int _, H, I.kept hk, ⟨_, rfl⟩, q m h1 h2⟩
theorem cr_minT {X : Cx} (hc : X.calm = true) : CallR X (.builtin "min") (fun vs H Q => ∃ (a : Addr) (ns : List Int), vs = [V.ref a] ∧ SqT X.K H a (ns.map V.int) ∧ 0 < ns.length ∧ ∀ m, m ∈ ns → (∀ y, y ∈ ns → m ≤ y) → Q (.int m) H) := by
  intro pins s σ H vs us Q I r h
  obtain ⟨a, ns, rfl, hs, hne, q⟩ := h
  obtain ⟨its, rv, hl, _⟩ := I.tuple hs
  rw [Vals.ref1 r]
  exact min_rawT (I.ok.hd hc) hl rv.ints hne fun h' tk m t' hk h1 h2 => ⟨.int _, H, I.kept hk, ⟨_, rfl⟩, q m h1 h2⟩
end
def Bf.fn : Bf → Value
  | .len => .builtin "len"
  | .list => .type "list"
  | .tuple => .type "tuple"
  | .abs => .builtin "abs"
  | .max2 => .builtin "max"
  | .min2 => .builtin "min"
  | .max1 => .builtin "max"
  | .min1 => .builtin "min"
  | .sum => .builtin "sum"
  | .all => .builtin "all"
  | .any => .builtin "any"
  | .int1 => .type "int"
  | .divmod => .builtin "divmod"
  | .str1 => .type "str"
  | .sort1 => .builtin "sorted"
section
variable {X : Cx}
theorem bf_len1 : ∀ {f : Bf} {ds : List PyData}, bf f ds ≠ none → (∃ d, ds = [d]) ∨ ∃ d e, ds = [d, e]
  | f, [], h => by cases f <;> exact absurd rfl h
  | f, [d], h => .inl ⟨d, rfl⟩
  | f, [d, e], h => .inr ⟨d, e, rfl⟩
  | f, d :: e :: g :: r, h => by cases f <;> cases d <;> first | exact absurd rfl h | (cases e <;> exact absurd rfl h)
theorem kD_rps {K : PySem.W.Frag} {F : Hp} : ∀ k : List L2.Key, Rps K F (k.map kD) (k.map kV)
  | [] => .nil
  | .inl i :: k => .cons (.int i) (kD_rps k)
  | .inr x :: k => .cons (.str x) (kD_rps k)
/-- the keys of a dict, frozen -/
theorem keys_grow {K : PySem.W.Frag} {H : Hp} : ∀ {ws : List (List L2.Key × V)} {bs : List Addr} {F : Hp}, IsKeys H ws bs → Same F H → ∃ F', Grow F H F' H ∧ Rps K F' (ws.map fun p => ksD p.1) (bs.map V.ref)
  | [], bs, F, h, hs => by
    cases h
    exact ⟨F, Grow.refl hs, .nil⟩
  | p :: ws, bs, F, h, hs => by
    cases h with
    | cons hb t =>
      have g1 := Grow.tup hs hb
      obtain ⟨F', g2, r⟩ := keys_grow (K := K) t g1.fh
      exact ⟨F', g1.trans g2, .cons (.tup (.inl (.inl (g2.ff _ _ upd_same))) (kD_rps p.1)) r⟩
theorem sortedI_eq {ns ns' : List Int} (pm : ns'.Perm ns) (pw : ns'.Pairwise (· ≤ ·)) : ns' = ns.mergeSort fun a b => decide (a ≤ b) := by
  refine (pm.trans (List.mergeSort_perm ns _).symm).eq_of_pairwise ?_ pw ?_
  · intro a b _ _ h1 h2
    exact Int.le_antisymm h1 h2
  · refine (List.pairwise_mergeSort (le := fun a b : Int => decide (a ≤ b)) ?_ ?_ ns).imp ?_
    · intro a b c h1 h2
      simp only [decide_eq_true_eq] at *
      omega
    · intro a b
      simp only [Bool.or_eq_true, decide_eq_true_eq]
      omega
    · intro a b h
      exact of_decide_eq_true h
theorem intsV_rps {K : PySem.W.Frag} {F : Hp} : ∀ ns : List Int, Rps K F (ns.map PyData.int) (ns.map V.int)
  | [] => .nil
  | n :: ns => .cons (.int n) (intsV_rps ns)
theorem op_bf (hc : X.calm = true) (f : Bf) : CallR X f.fn (rLD X.K (bf f)) := by
  intro pins s σ H xs us Q I r ⟨F, ds, hs, rd, h⟩
  have hn : bf f ds ≠ none := fun z => by rw [z] at h; exact h
  rcases bf_len1 hn with ⟨d, e⟩ | ⟨d, e', e⟩
  · subst e
    obtain ⟨v, e1, r1⟩ := rps1 rd
    subst e1
    cases f
    case len =>
      cases r1 <;> try exact False.elim h
      · rename_i z
        by_cases hz : lineB z.length = true
        · rw [show bf .len [.str z] = rint z.length from if_pos hz] at h
          exact call_len_str pins s σ H _ us Q I r ⟨_, rfl, lineB_ok hz, PV.now h hs (.int _)⟩
        · rw [show bf .len [.str z] = none from if_neg hz] at h
          exact False.elim h
      · rename_i a xs ds s1 q1
        have q := PV.now h hs (.int _)
        rw [q1.len] at q
        exact call_len_seq pins s σ H _ us Q I r ⟨_, _, rfl, .inl (sqL_mono hs s1), q⟩
      · rename_i a xs ds s1 q1
        have q := PV.now h hs (.int _)
        rw [q1.len] at q
        exact call_len_seq pins s σ H _ us Q I r ⟨_, _, rfl, .inr (sqT_mono hs s1), q⟩
    case list =>
      cases r1 <;> try exact False.elim h
      · rename_i a xs ds s1 q1
        exact call_list_of pins s σ H _ us Q I r ⟨_, _, rfl, .inl (sqL_mono hs s1), fun l hl => PV.newL h hs q1 hl⟩
      · rename_i a xs ds s1 q1
        exact call_list_of pins s σ H _ us Q I r ⟨_, _, rfl, .inr (sqT_mono hs s1), fun l hl => PV.newL h hs q1 hl⟩
      · rename_i a es kvs h1 h2 h3 h4
        subst h1
        have h : PN (match decD (encD kvs) with
          | some (p :: r) => some (RV.own ((p :: r).map fun q => ksD q.1))
          | _ => none) (PV X.K Q) F H := h
        rw [decD_enc] at h
        have h : PN (some (RV.own (kvs.map fun q => ksD q.1))) (PV X.K Q) F H := by
          cases kvs with
          | nil => exact absurd rfl h2
          | cons p r => exact h
        refine call_list_dT hc pins s σ H _ us Q I r ⟨a, _, rfl, .inl (hs _ _ h4), fun p bs hp ik => ?_⟩
        obtain ⟨F', g, rk⟩ := keys_grow (K := X.K) ik hs
        rw [List.map_map] at rk
        exact h p _ F' _ (g.trans (Grow.aside g.fh hp)) hp (Same.free g.fh hp) upd_same rk
    case tuple =>
      cases r1 <;> try exact False.elim h
      · rename_i a xs ds s1 q1
        exact call_tuple_of pins s σ H _ us Q I r ⟨_, _, rfl, .inl ⟨sqL_mono hs s1, fun l hl => PV.newT h hs q1 hl⟩⟩
      · rename_i a xs ds s1 q1
        exact call_tuple_of pins s σ H _ us Q I r ⟨_, _, rfl, .inr ⟨sqT_mono hs s1, PV.now h hs (.tup s1 q1)⟩⟩
    case abs =>
      cases r1 <;> try exact False.elim h
      exact call_abs pins s σ H _ us Q I r ⟨_, rfl, PV.now h hs (.int _)⟩
    case int1 =>
      cases r1 <;> try exact False.elim h
      · exact call_int1 pins s σ H _ us Q I r (.inr ⟨_, rfl, PV.now h hs (.int _)⟩)
      · exact call_int1 pins s σ H _ us Q I r (.inl ⟨_, rfl, PV.now h hs (.int _)⟩)
    case max2 => cases r1 <;> exact False.elim h
    case min2 => cases r1 <;> exact False.elim h
    case divmod => cases r1 <;> exact False.elim h
    case str1 =>
      cases r1 <;> try exact False.elim h
      · rename_i i
        by_cases hz : decide (i.natAbs.log2 < 1920) = true
        · rw [show bf .str1 [.int i] = rv (.str (toString i)) from if_pos hz] at h
          exact call_str_int pins s σ H _ us Q I r ⟨_, rfl, of_decide_eq_true hz, PV.now h hs (.str _)⟩
        · rw [show bf .str1 [.int i] = none from if_neg hz] at h
          exact False.elim h
      · exact SkE.call_str_str pins s σ H _ us Q I r ⟨_, rfl, PV.now h hs (.str _)⟩
    case max1 =>
      cases r1 <;> try exact False.elim h
      · rename_i a xs ds s1 q1
        have h' : PN (match ints? ds with
          | some (i :: r) => rint (maxI (i :: r))
          | _ => none) (PV X.K Q) F H := h
        cases e : ints? ds with
        | none => rw [e] at h'; exact False.elim h'
        | some ns =>
          rw [e] at h'
          cases ns with
          | nil => exact False.elim h'
          | cons i ns =>
            have ev := ints_of e q1
            subst ev
            refine cr_max hc pins s σ H _ us Q I r ⟨a, i :: ns, rfl, sqL_mono hs s1, by simp, fun m h1 h2 => ?_⟩
            have em : m = maxI (i :: ns) := Int.le_antisymm (maxI_ge i ns m h1) (h2 _ (maxI_mem i ns))
            rw [em]
            exact PV.now h' hs (.int _)
      · rename_i a xs ds s1 q1
        have h' : PN (match ints? ds with
          | some (i :: r) => rint (maxI (i :: r))
          | _ => none) (PV X.K Q) F H := h
        cases e : ints? ds with
        | none => rw [e] at h'; exact False.elim h'
        | some ns =>
          rw [e] at h'
          cases ns with
          | nil => exact False.elim h'
          | cons i ns =>
            have ev := ints_of e q1
            subst ev
            refine cr_maxT hc pins s σ H _ us Q I r ⟨a, i :: ns, rfl, sqT_mono hs s1, by simp, fun m h1 h2 => ?_⟩
            have em : m = maxI (i :: ns) := Int.le_antisymm (maxI_ge i ns m h1) (h2 _ (maxI_mem i ns))
            rw [em]
            exact PV.now h' hs (.int _)
    case min1 =>
      cases r1 <;> try exact False.elim h
      · rename_i a xs ds s1 q1
        have h' : PN (match ints? ds with
          | some (i :: r) => rint (minI (i :: r))
          | _ => none) (PV X.K Q) F H := h
        cases e : ints? ds with
        | none => rw [e] at h'; exact False.elim h'
        | some ns =>
          rw [e] at h'
          cases ns with
          | nil => exact False.elim h'
          | cons i ns =>
            have ev := ints_of e q1
            subst ev
            refine cr_min hc pins s σ H _ us Q I r ⟨a, i :: ns, rfl, sqL_mono hs s1, by simp, fun m h1 h2 => ?_⟩
            have em : m = minI (i :: ns) := Int.le_antisymm (h2 _ (minI_mem i ns)) (minI_le i ns m h1)
            rw [em]
            exact PV.now h' hs (.int _)
      · rename_i a xs ds s1 q1
        have h' : PN (match ints? ds with
          | some (i :: r) => rint (minI (i :: r))
          | _ => none) (PV X.K Q) F H := h
        cases e : ints? ds with
        | none => rw [e] at h'; exact False.elim h'
        | some ns =>
          rw [e] at h'
          cases ns with
          | nil => exact False.elim h'
          | cons i ns =>
            have ev := ints_of e q1
            subst ev
            refine cr_minT hc pins s σ H _ us Q I r ⟨a, i :: ns, rfl, sqT_mono hs s1, by simp, fun m h1 h2 => ?_⟩
            have em : m = minI (i :: ns) := Int.le_antisymm (h2 _ (minI_mem i ns)) (minI_le i ns m h1)
            rw [em]
            exact PV.now h' hs (.int _)
    case sort1 =>
      cases r1 <;> try exact False.elim h
      rename_i a xs ds s1 q1
      have h' : PN (match ints? ds with
        | some ns => some (.own ((ns.mergeSort fun a b => decide (a ≤ b)).map PyData.int))
        | none => none) (PV X.K Q) F H := h
      cases e : ints? ds with
      | none => rw [e] at h'; exact False.elim h'
      | some ns =>
        rw [e] at h'
        have ev := ints_of e q1
        subst ev
        refine cr_sortedI pins s σ H _ us Q I r ⟨a, ns, rfl, sqL_mono hs s1, fun ns' p pm pw hp => ?_⟩
        rw [sortedI_eq pm pw]
        exact PV.newL h' hs (intsV_rps _) hp
    case sum =>
      cases r1 <;> try exact False.elim h
      rename_i a xs ds s1 q1
      have h' : PN (match ints? ds with
        | some ns => rint ns.sum
        | none => none) (PV X.K Q) F H := h
      cases e : ints? ds with
      | none => rw [e] at h'; exact False.elim h'
      | some ns =>
        rw [e] at h'
        have ev := ints_of e q1
        subst ev
        exact cr_sum hc pins s σ H _ us Q I r ⟨a, ns, rfl, sqL_mono hs s1, PV.now h' hs (.int _)⟩
    case all =>
      cases r1 <;> try exact False.elim h
      rename_i a xs ds s1 q1
      have h' : PN (match bools? ds with
        | some bs => rbool (bs.all id)
        | none => none) (PV X.K Q) F H := h
      cases e : bools? ds with
      | none => rw [e] at h'; exact False.elim h'
      | some ns =>
        rw [e] at h'
        have ev := bools_of e q1
        subst ev
        exact cr_all hc pins s σ H _ us Q I r ⟨a, ns, rfl, sqL_mono hs s1, PV.now h' hs (.bl _)⟩
    case any =>
      cases r1 <;> try exact False.elim h
      rename_i a xs ds s1 q1
      have h' : PN (match bools? ds with
        | some bs => rbool (bs.any id)
        | none => none) (PV X.K Q) F H := h
      cases e : bools? ds with
      | none => rw [e] at h'; exact False.elim h'
      | some ns =>
        rw [e] at h'
        have ev := bools_of e q1
        subst ev
        exact cr_any hc pins s σ H _ us Q I r ⟨a, ns, rfl, sqL_mono hs s1, PV.now h' hs (.bl _)⟩
  · subst e
    obtain ⟨v, u, e1, r1, r2⟩ := rps2 rd
    subst e1
    cases f
    case max2 =>
      cases r1 <;> cases r2 <;> try exact False.elim h
      exact call_max2 hc pins s σ H _ us Q I r ⟨_, _, rfl, PV.now h hs (.int _)⟩
    case min2 =>
      cases r1 <;> cases r2 <;> try exact False.elim h
      exact call_min2 hc pins s σ H _ us Q I r ⟨_, _, rfl, PV.now h hs (.int _)⟩
    case divmod =>
      cases r1 <;> cases r2 <;> try exact False.elim h
      rename_i i j
      by_cases hz : (decide (0 < j) && !(Builtin.divisionGoesByPylong i j)) = true
      · rw [show bf .divmod [.int i, .int j] = rv (.tuple [.int (i / j), .int (i % j)]) from if_pos hz] at h
        simp only [Bool.and_eq_true, decide_eq_true_eq, Bool.not_eq_true'] at hz
        exact call_divmodW pins s σ H _ us Q I r ⟨i, j, rfl, hz, fun p hp => PV.newT (vs := [.int (i / j), .int (i % j)]) h hs (.cons (.int _) (.cons (.int _) .nil)) hp⟩
      · rw [show bf .divmod [.int i, .int j] = none from if_neg hz] at h
        exact False.elim h
    all_goals cases r1 <;> exact False.elim h

/-! ### items, slices -/
theorem atI_map {K : PySem.W.Frag} {F : Hp} {ds : List PyData} {vs : List V} (r : Rps K F ds vs) {i : Int} {d : PyData} (h : atI ds i = some d) : ∃ v, atI vs i = some v ∧ Rp K F d v := by
  unfold atI at h ⊢
  rw [r.len] at h
  obtain ⟨j, h1, h2⟩ := Option.bind_eq_some_iff.mp h
  obtain ⟨v, h3, h4⟩ := r.get h2
  exact ⟨v, Option.bind_eq_some_iff.mpr ⟨j, h1, h3⟩, h4⟩
theorem op_ixD : IxR X (r2D X.K ixD) := by
  intro value slice pins s σ H x y v u Q I rx ry ⟨F, d, e, hs, rd, re, h⟩ hsub
  cases rd <;> cases re <;> try exact False.elim h
  · rename_i z i
    by_cases hz : lineB z.length = true
    · rw [show ixD (.str z) (.int i) = _ from if_pos hz] at h
      cases e : atI z.cps.toList i with
      | none => rw [e] at h; exact False.elim h
      | some c =>
        rw [e] at h
        exact ix_str value slice pins s σ H _ _ v u Q I rx ry ⟨_, _, _, rfl, rfl, lineB_ok hz, e, PV.now h hs (.str _)⟩ hsub
    · rw [show ixD (.str z) (.int i) = none from if_neg hz] at h
      exact False.elim h
  · rename_i a xs ds s1 r1 i
    have h' : PN (match atI ds i with
      | some d => rv d
      | none => none) (PV X.K Q) F H := h
    cases e : atI ds i with
    | none => rw [e] at h'; exact False.elim h'
    | some d =>
      rw [e] at h'
      obtain ⟨v1, e1, q1⟩ := atI_map r1 e
      exact ix_list value slice pins s σ H _ _ v u Q I rx ry ⟨_, _, _, _, rfl, rfl, sqL_mono hs s1, e1, PV.now h' hs q1⟩ hsub
  · rename_i a xs ds s1 r1 i
    have h' : PN (match atI ds i with
      | some d => rv d
      | none => none) (PV X.K Q) F H := h
    cases e : atI ds i with
    | none => rw [e] at h'; exact False.elim h'
    | some d =>
      rw [e] at h'
      obtain ⟨v1, e1, q1⟩ := atI_map r1 e
      exact ix_tup value slice pins s σ H _ _ v u Q I rx ry ⟨_, _, _, _, rfl, rfl, sqT_mono hs s1, e1, PV.now h' hs q1⟩ hsub
theorem cut_map {K : PySem.W.Frag} {F : Hp} {ds : List PyData} {vs : List V} (r : Rps K F ds vs) (lo hi : Option Int) : Rps K F (cutD ds lo hi) (cutV vs lo hi) := by
  unfold cutD cutV
  rw [r.len]
  exact (r.drop _).take _
theorem cut_all {A : Type} {xs : List A} {lo hi : Option Int} (h : HT.sIx xs.length 0 lo = 0 ∧ HT.sIx xs.length xs.length hi = xs.length) : (xs.drop (HT.sIx xs.length 0 lo)).take (HT.sIx xs.length xs.length hi - HT.sIx xs.length 0 lo) = xs := by
  rw [h.1, h.2]
  simp
theorem op_slD : SlR X (fun x lo hi H Q => ∃ F d, Same F H ∧ Rp X.K F d x ∧ PN (slD d lo hi) (PV X.K Q) F H) := by
  intro pins s σ H x v vl vu lo hi sl Q I rx hsl pl pu ⟨F, d, hs, rd, h⟩
  cases rd <;> try exact False.elim h
  · rename_i z
    by_cases hz : lineB z.length = true
    · rw [show slD (.str z) lo hi = _ from if_pos hz] at h
      exact sl_str pins s σ H _ v vl vu lo hi sl Q I rx hsl pl pu ⟨z, rfl, lineB_ok hz, PV.now h hs (.str _)⟩
    · rw [show slD (.str z) lo hi = none from if_neg hz] at h
      exact False.elim h
  · rename_i a xs ds s1 r1
    exact sl_list pins s σ H _ v vl vu lo hi sl Q I rx hsl pl pu ⟨a, xs, rfl, sqL_mono hs s1, fun p hp => PV.newL h hs (cut_map r1 lo hi) hp⟩
  · rename_i a xs ds s1 r1
    refine sl_tupA pins s σ H _ v vl vu lo hi sl Q I rx hsl pl pu ⟨a, xs, rfl, sqT_mono hs s1, fun hw => ?_, fun _ p hp => PV.newT h hs (cut_map r1 lo hi) hp⟩
    have e1 : cutD ds lo hi = ds := cut_all (by rw [r1.len]; exact hw)
    have h' : PV X.K Q (.val (.tuple (cutD ds lo hi))) F H := h
    rw [e1] at h'
    exact PV.now h' hs (.tup s1 r1)

/-! ### isinstance of the built-in types -/
def Ty.nm : Ty → String
  | .int => "int"
  | .bool => "bool"
  | .tuple => "tuple"
  | .list => "list"
  | .str => "str"
def tyNm : PyData → String
  | .none => "NoneType"
  | .bool _ => "bool"
  | .int _ => "int"
  | .str _ => "str"
  | .list _ => "list"
  | .tuple _ => "tuple"
  | .dict _ => "dict"
theorem tyx_of {K : PySem.W.Frag} {F H : Hp} {d : PyData} {x : V} (hs : Same F H) (r : Rp K F d x) (ht : tokD d = false) : TyX K H x (.type (tyNm d)) := by
  cases r with
  | non => exact .base .non
  | bl b => exact .base (.bl b)
  | int i => exact .base (.int i)
  | str z => exact .base (.str z)
  | lst s _ =>
    rcases s with (s | ⟨o, s⟩) | ⟨o, its, n, k, c, _⟩
    · exact .base (.lst (hs _ _ s))
    · exact .base (.frz (hs _ _ s))
    · exact .kList k c
  | tup s _ =>
    rcases s with (s | ⟨o, s⟩) | ⟨o, its, n, k, c, _⟩
    · exact .base (.tup (hs _ _ s))
    · exact .fTuple (hs _ _ s)
    · exact .kTuple k c
  | dct s => exact .base (.dK (hs _ _ s))
  | dtk _ _ _ _ s => exact .base (.dT (hs _ _ s))
  | exn => cases ht
  | exp _ => cases ht
theorem kit_isTy (d : PyData) (t : Ty) : kitB (tyNm d) t.nm = some (isTy d t) := by
  cases d <;> cases t <;> first | rfl | decide +kernel | (show kitB _ _ = some _; decide +kernel)
end
end PX

/-! zip of three lists. -/
namespace PySem
open Sem (wp)
namespace PXF
theorem typeCall_zip_3 (a b c : Value) : checkTypeCall "zip" ⟨[a, b, c], []⟩ = pure () := by kernel_rfl
theorem newCall_zip_3 (a b c : Value) : checkBuiltinCall "zip.__new__" ⟨[.type "zip", a, b, c], []⟩ = pure () := by kernel_rfl
theorem args_object_init_4 (a b c d : Value) : argsOk "object.__init__" ⟨[a, b, c, d], []⟩ := by
  unfold argsOk; rw [signature?_of (id := "object.__init__") (n := ['_', '_', 't', 'i', 'n', 'i', '_', '_']) (o := ['t', 'c', 'e', 'j', 'b', 'o']) (by kernel_rfl) F.owner_object]; kernel_rfl
end PXF
abbrev IsTrip (h : Heap) (T : Addr) (a b c : Value) : Prop := h.get? T = some { cls := .type "tuple", data := .seq #[a, b, c] }
section
variable {prog : Program} {w : World} {A : Around} {E : Value → Shared → Prop} {s : Shared}
theorem wpAny_updateSeq_trip {T : Addr} {a b c x : Value} {k : Nat} {Q : Unit → Shared → Prop} (hT : IsTrip s.heap T a b c)
    (h : ∀ h', h'.get? T = some { cls := .type "tuple", data := .seq ((#[a, b, c] : Array Value).setIfInBounds k x) } → Heap.SameBut T s.heap h' → Q () { s with heap := h' }) :
    wpAny (model prog w) A (updateSeq T (·.setIfInBounds k x)) Q E s := by
  refine wpAny_updateSeq hT rfl (h _ ?_ (Heap.SameBut.update ..))
  rw [Heap.get?_update_self _ hT rfl]
  simp [Obj.mapSeq]
structure ZipApart3 (z TI TO i1 i2 i3 l1 l2 l3 : Addr) : Prop where
  TIz : TI ≠ z
  TOz : TO ≠ z
  i1z : i1 ≠ z
  i2z : i2 ≠ z
  i3z : i3 ≠ z
  TITO : TI ≠ TO
  TIi1 : TI ≠ i1
  TIi2 : TI ≠ i2
  TIi3 : TI ≠ i3
  TOi1 : TO ≠ i1
  TOi2 : TO ≠ i2
  TOi3 : TO ≠ i3
  i12 : i1 ≠ i2
  i13 : i1 ≠ i3
  i23 : i2 ≠ i3
  l1z : l1 ≠ z
  l1TO : l1 ≠ TO
  l1i1 : l1 ≠ i1
  l1i2 : l1 ≠ i2
  l1i3 : l1 ≠ i3
  l2z : l2 ≠ z
  l2TO : l2 ≠ TO
  l2i1 : l2 ≠ i1
  l2i2 : l2 ≠ i2
  l2i3 : l2 ≠ i3
  l3z : l3 ≠ z
  l3TO : l3 ≠ TO
  l3i1 : l3 ≠ i1
  l3i2 : l3 ≠ i2
  l3i3 : l3 ≠ i3
theorem zip_next_item3 {z TI TO i1 i2 i3 l1 l2 l3 : Addr} {k1 k2 k3 : Nat} {xs ys zs : Array Value} {x y u a b c : Value} {Q : Value → Shared → Prop} (D : ZipApart3 z TI TO i1 i2 i3 l1 l2 l3)
    (hz : IsZip s.heap z TI TO .none) (hTI : IsTrip s.heap TI (.ref i1) (.ref i2) (.ref i3)) (hTO : IsTrip s.heap TO a b c)
    (h1 : s.heap.IsListIter i1 l1 k1) (h2 : s.heap.IsListIter i2 l2 k2) (h3 : s.heap.IsListIter i3 l3 k3) (hl1 : s.heap.IsList l1 xs) (hl2 : s.heap.IsList l2 ys) (hl3 : s.heap.IsList l3 zs)
    (hx : xs[k1]? = some x) (hy : ys[k2]? = some y) (hu : zs[k3]? = some u)
    (hQ : ∀ h', IsZip h' z TI TO (rawInt s.heap.objs.size) → IsTrip h' TO x y u → h'.IsListIter i1 l1 (k1 + 1) → h'.IsListIter i2 l2 (k2 + 1) → h'.IsListIter i3 l3 (k3 + 1) → IsTrip h' s.heap.objs.size x y u → h'.objs.size = s.heap.objs.size + 1 →
      (∀ c o, c ≠ z → c ≠ TO → c ≠ i1 → c ≠ i2 → c ≠ i3 → s.heap.get? c = some o → h'.get? c = some o) → Q (.ref s.heap.objs.size) { s with heap := h' }) :
    wpAny (model prog w) A (Builtin.«zip.__next__» ⟨[.ref z], []⟩) (fun fin s' => ∃ v, fin = .done (.ret v) ∧ Q v s') E s := by
  show wpAny _ _ (field (.ref z) 2 >>= _) _ _ _
  refine wpAny_bind (wpAny_field hz rfl (x := .bool false) rfl ?_)
  show wpAny _ _ (field (.ref z) 3 >>= _) _ _ _
  refine wpAny_bind (wpAny_field hz rfl (x := .ref TI) rfl ?_)
  refine wpAny_bind (wpAny_seqItems hTI rfl ?_)
  show wpAny _ _ (Builtin.SmallTypes.ownedTupleIsFree (.ref z) >>= _) _ _ _
  refine wpAny_bind ?_
  unfold Builtin.SmallTypes.ownedTupleIsFree
  refine wpAny_bind (wpAny_field hz rfl (x := .none) rfl (wpAny_pure ?_))
  simp only [if_true]
  refine wpAny_bind (wpAny_rule ?_)
  refine wpAny_bind (wpAny_field hz rfl (x := .ref TO) rfl ?_)
  refine wpAny_bind (wpAny_setField_rec hz (by simp) fun h₁ hz₁ hs₁ => ?_)
  replace hz₁ : IsZip h₁ z TI TO .ellipsis := hz₁
  refine wpAny_bind ?_
  simp only [List.zipIdx_cons, List.zipIdx_nil, List.forIn_cons, List.forIn_nil]
  refine wpAny_bind (wpAny_bind (wpAny_onRaise ?_))
  show wpAny _ _ (Builtin.SmallTypes.nextOf (.ref i1) >>= _) _ _ _
  refine wpAny_bind (wpAny_nextOf_list_item (h1.extBut hs₁.extBut D.i1z) (hl1.extBut hs₁.extBut D.l1z) hx fun h₂ h1₂ hs₂ => wpAny_pure ?_)
  have hTO₂ : IsTrip h₂ TO a b c := hs₂.extBut _ _ D.TOi1 (hs₁.extBut _ _ D.TOz hTO)
  refine wpAny_bind (wpAny_seqItems hTO₂ rfl ?_)
  refine wpAny_bind (wpAny_updateSeq_trip hTO₂ fun h₃ hTO₃ hs₃ => ?_)
  replace hTO₃ : IsTrip h₃ TO x b c := hTO₃
  refine wpAny_bind (wpAny_letGo (wpAny_pure ?_))
  refine wpAny_bind (wpAny_bind (wpAny_onRaise ?_))
  show wpAny _ _ (Builtin.SmallTypes.nextOf (.ref i2) >>= _) _ _ _
  refine wpAny_bind (wpAny_nextOf_list_item (((h2.extBut hs₁.extBut D.i2z).extBut hs₂.extBut D.i12.symm).extBut hs₃.extBut D.TOi2.symm)
    (((hl2.extBut hs₁.extBut D.l2z).extBut hs₂.extBut D.l2i1).extBut hs₃.extBut D.l2TO) hy fun h₄ h2₄ hs₄ => wpAny_pure ?_)
  have hTO₄ : IsTrip h₄ TO x b c := hs₄.extBut _ _ D.TOi2 hTO₃
  refine wpAny_bind (wpAny_seqItems hTO₄ rfl ?_)
  refine wpAny_bind (wpAny_updateSeq_trip hTO₄ fun h₅ hTO₅ hs₅ => ?_)
  replace hTO₅ : IsTrip h₅ TO x y c := hTO₅
  refine wpAny_bind (wpAny_letGo (wpAny_pure ?_))
  refine wpAny_bind (wpAny_bind (wpAny_onRaise ?_))
  show wpAny _ _ (Builtin.SmallTypes.nextOf (.ref i3) >>= _) _ _ _
  refine wpAny_bind (wpAny_nextOf_list_item (((((h3.extBut hs₁.extBut D.i3z).extBut hs₂.extBut D.i13.symm).extBut hs₃.extBut D.TOi3.symm).extBut hs₄.extBut D.i23.symm).extBut hs₅.extBut D.TOi3.symm)
    (((((hl3.extBut hs₁.extBut D.l3z).extBut hs₂.extBut D.l3i1).extBut hs₃.extBut D.l3TO).extBut hs₄.extBut D.l3i2).extBut hs₅.extBut D.l3TO) hu fun h₆ h3₆ hs₆ => wpAny_pure ?_)
  have hTO₆ : IsTrip h₆ TO x y c := hs₆.extBut _ _ D.TOi3 hTO₅
  refine wpAny_bind (wpAny_seqItems hTO₆ rfl ?_)
  refine wpAny_bind (wpAny_updateSeq_trip hTO₆ fun h₇ hTO₇ hs₇ => ?_)
  replace hTO₇ : IsTrip h₇ TO x y u := hTO₇
  refine wpAny_bind (wpAny_letGo (wpAny_pure (wpAny_pure ?_)))
  refine wpAny_bind (wpAny_seqItems hTO₇ rfl ?_)
  refine wpAny_bind (wpAny_newTuple ?_)
  have hsz : h₇.objs.size = s.heap.objs.size := by rw [hs₇.1, hs₆.1, hs₅.1, hs₄.1, hs₃.1, hs₂.1, hs₁.1]
  have hz₇ : IsZip h₇ z TI TO .ellipsis := hs₇.extBut _ _ D.TOz.symm (hs₆.extBut _ _ D.i3z.symm (hs₅.extBut _ _ D.TOz.symm (hs₄.extBut _ _ D.i2z.symm (hs₃.extBut _ _ D.TOz.symm (hs₂.extBut _ _ D.i1z.symm hz₁)))))
  have hk₇ : ∀ c o, c ≠ z → c ≠ TO → c ≠ i1 → c ≠ i2 → c ≠ i3 → s.heap.get? c = some o → h₇.get? c = some o := fun c o c1 c2 c3 c4 c5 e =>
    hs₇.extBut _ _ c2 (hs₆.extBut _ _ c5 (hs₅.extBut _ _ c2 (hs₄.extBut _ _ c4 (hs₃.extBut _ _ c2 (hs₂.extBut _ _ c3 (hs₁.extBut _ _ c1 e))))))
  have h1₇ : h₇.IsListIter i1 l1 (k1 + 1) := ((((h1₂.extBut hs₃.extBut D.TOi1.symm).extBut hs₄.extBut D.i12).extBut hs₅.extBut D.TOi1.symm).extBut hs₆.extBut D.i13).extBut hs₇.extBut D.TOi1.symm
  have h2₇ : h₇.IsListIter i2 l2 (k2 + 1) := ((h2₄.extBut hs₅.extBut D.TOi2.symm).extBut hs₆.extBut D.i23).extBut hs₇.extBut D.TOi2.symm
  have h3₇ : h₇.IsListIter i3 l3 (k3 + 1) := h3₆.extBut hs₇.extBut D.TOi3.symm
  have hzlt : z < h₇.objs.size := Heap.lt_size hz₇
  show wpAny _ _ (Builtin.SmallTypes.ownedTupleHandOut (.ref z) (.ref h₇.objs.size) >>= _) _ _ _
  refine wpAny_bind ?_
  unfold Builtin.SmallTypes.ownedTupleHandOut
  have hz₈ : IsZip (h₇.push { cls := .type "tuple", data := .seq #[x, y, u] }) z TI TO .ellipsis := Heap.get?_push_of_some _ hz₇
  refine wpAny_bind (wpAny_setField_rec hz₈ (by simp) fun h₉ hz₉ hs₉ => ?_)
  replace hz₉ : IsZip h₉ z TI TO (rawInt h₇.objs.size) := hz₉
  refine wpAny_setField_rec hz₉ (by simp) fun h₀ hz₀ hs₀ => ?_
  replace hz₀ : IsZip h₀ z TI TO (rawInt h₇.objs.size) := hz₀
  have up : ∀ c o, c ≠ z → h₇.get? c = some o → h₀.get? c = some o := fun c o c1 e => hs₀.extBut _ _ c1 (hs₉.extBut _ _ c1 (Heap.get?_push_of_some _ e))
  have hT₀ : IsTrip h₀ h₇.objs.size x y u := hs₀.extBut _ _ (Nat.ne_of_gt hzlt) (hs₉.extBut _ _ (Nat.ne_of_gt hzlt) (Heap.get?_push_size _ rfl))
  have hz8 : h₀.objs.size = h₇.objs.size + 1 := by rw [hs₀.1, hs₉.1, Heap.size_push]
  rw [hsz] at hz₀ hT₀ hz8
  refine wpAny_pure ⟨_, rfl, ?_⟩
  show Q (.ref h₇.objs.size) _
  rw [hsz]
  exact hQ h₀ hz₀ (up _ _ D.TOz hTO₇) (h1₇.at fun o e => up _ o D.i1z e) (h2₇.at fun o e => up _ o D.i2z e) (h3₇.at fun o e => up _ o D.i3z e) hT₀ hz8 fun c o c1 c2 c3 c4 c5 e => up c o c1 (hk₇ c o c1 c2 c3 c4 c5 e)
theorem zip_next_end3 {z TI TO i1 i2 i3 l1 l2 l3 : Addr} {k1 k2 k3 : Nat} {xs ys zs : Array Value} {a b c : Value} {Q : Fin → Shared → Prop} (hh : A.handled = none) (D : ZipApart3 z TI TO i1 i2 i3 l1 l2 l3)
    (hz : IsZip s.heap z TI TO .none) (hTI : IsTrip s.heap TI (.ref i1) (.ref i2) (.ref i3)) (hTO : IsTrip s.heap TO a b c)
    (h1 : s.heap.IsListIter i1 l1 k1) (h2 : s.heap.IsListIter i2 l2 k2) (h3 : s.heap.IsListIter i3 l3 k3) (hl1 : s.heap.IsList l1 xs) (hl2 : s.heap.IsList l2 ys) (hl3 : s.heap.IsList l3 zs) (hend : xs[k1]? = none ∨ ys[k2]? = none ∨ zs[k3]? = none)
    (hE : ∀ h' e, (∀ c o, c ≠ z → c ≠ TO → c ≠ i1 → c ≠ i2 → c ≠ i3 → s.heap.get? c = some o → h'.get? c = some o) → (∃ o, h'.get? e = some o ∧ o.cls = .type "StopIteration") → E (.ref e) { s with heap := h' }) :
    wpAny (model prog w) A (Builtin.«zip.__next__» ⟨[.ref z], []⟩) Q E s := by
  show wpAny _ _ (field (.ref z) 2 >>= _) _ _ _
  refine wpAny_bind (wpAny_field hz rfl (x := .bool false) rfl ?_)
  show wpAny _ _ (field (.ref z) 3 >>= _) _ _ _
  refine wpAny_bind (wpAny_field hz rfl (x := .ref TI) rfl ?_)
  refine wpAny_bind (wpAny_seqItems hTI rfl ?_)
  show wpAny _ _ (Builtin.SmallTypes.ownedTupleIsFree (.ref z) >>= _) _ _ _
  refine wpAny_bind ?_
  unfold Builtin.SmallTypes.ownedTupleIsFree
  refine wpAny_bind (wpAny_field hz rfl (x := .none) rfl (wpAny_pure ?_))
  simp only [if_true]
  refine wpAny_bind (wpAny_rule ?_)
  refine wpAny_bind (wpAny_field hz rfl (x := .ref TO) rfl ?_)
  refine wpAny_bind (wpAny_setField_rec hz (by simp) fun h₁ hz₁ hs₁ => ?_)
  replace hz₁ : IsZip h₁ z TI TO .ellipsis := hz₁
  refine wpAny_bind ?_
  simp only [List.zipIdx_cons, List.zipIdx_nil, List.forIn_cons, List.forIn_nil]
  refine wpAny_bind (wpAny_bind (wpAny_onRaise ?_))
  show wpAny _ _ (Builtin.SmallTypes.nextOf (.ref i1) >>= _) _ _ _
  cases hx : xs[k1]? with
  | none =>
    refine wpAny_bind (wpAny_nextOf_list_end hh (h1.extBut hs₁.extBut D.i1z) (hl1.extBut hs₁.extBut D.l1z) hx fun h₂ e hs₂ he => ?_)
    obtain ⟨oe, hoe, hce⟩ := he
    have hz₂ : IsZip h₂ z TI TO .ellipsis := hs₂ _ _ D.i1z.symm hz₁
    have hez : e ≠ z := fun x => by subst x; rw [hz₂] at hoe; cases hoe; simp at hce
    refine wpAny_setField_rec hz₂ (by simp) fun h₃ _ hs₃ => hE h₃ e (fun c o c1 _ c3 _ _ x => hs₃.extBut _ _ c1 (hs₂ _ _ c3 (hs₁.extBut _ _ c1 x))) ⟨oe, hs₃.extBut _ _ hez hoe, hce⟩
  | some x =>
    refine wpAny_bind (wpAny_nextOf_list_item (h1.extBut hs₁.extBut D.i1z) (hl1.extBut hs₁.extBut D.l1z) hx fun h₂ h1₂ hs₂ => wpAny_pure ?_)
    have hTO₂ : IsTrip h₂ TO a b c := hs₂.extBut _ _ D.TOi1 (hs₁.extBut _ _ D.TOz hTO)
    refine wpAny_bind (wpAny_seqItems hTO₂ rfl ?_)
    refine wpAny_bind (wpAny_updateSeq_trip hTO₂ fun h₃ hTO₃ hs₃ => ?_)
    replace hTO₃ : IsTrip h₃ TO x b c := hTO₃
    refine wpAny_bind (wpAny_letGo (wpAny_pure ?_))
    refine wpAny_bind (wpAny_bind (wpAny_onRaise ?_))
    show wpAny _ _ (Builtin.SmallTypes.nextOf (.ref i2) >>= _) _ _ _
    have g2 := ((h2.extBut hs₁.extBut D.i2z).extBut hs₂.extBut D.i12.symm).extBut hs₃.extBut D.TOi2.symm
    have gl2 := ((hl2.extBut hs₁.extBut D.l2z).extBut hs₂.extBut D.l2i1).extBut hs₃.extBut D.l2TO
    have hz₃ : IsZip h₃ z TI TO .ellipsis := hs₃.extBut _ _ D.TOz.symm (hs₂.extBut _ _ D.i1z.symm hz₁)
    cases hy : ys[k2]? with
    | none =>
      refine wpAny_bind (wpAny_nextOf_list_end hh g2 gl2 hy fun h₄ e hs₄ he => ?_)
      obtain ⟨oe, hoe, hce⟩ := he
      have hz₄ : IsZip h₄ z TI TO .ellipsis := hs₄ _ _ D.i2z.symm hz₃
      have hez : e ≠ z := fun x => by subst x; rw [hz₄] at hoe; cases hoe; simp at hce
      refine wpAny_setField_rec hz₄ (by simp) fun h₅ _ hs₅ => hE h₅ e (fun c o c1 c2 c3 c4 _ x => hs₅.extBut _ _ c1 (hs₄ _ _ c4 (hs₃.extBut _ _ c2 (hs₂.extBut _ _ c3 (hs₁.extBut _ _ c1 x))))) ⟨oe, hs₅.extBut _ _ hez hoe, hce⟩
    | some y =>
      have hu : zs[k3]? = none := by
        rcases hend with h | h | h
        · rw [hx] at h; cases h
        · rw [hy] at h; cases h
        · exact h
      refine wpAny_bind (wpAny_nextOf_list_item g2 gl2 hy fun h₄ h2₄ hs₄ => wpAny_pure ?_)
      have hTO₄ : IsTrip h₄ TO x b c := hs₄.extBut _ _ D.TOi2 hTO₃
      refine wpAny_bind (wpAny_seqItems hTO₄ rfl ?_)
      refine wpAny_bind (wpAny_updateSeq_trip hTO₄ fun h₅ hTO₅ hs₅ => ?_)
      refine wpAny_bind (wpAny_letGo (wpAny_pure ?_))
      refine wpAny_bind (wpAny_bind (wpAny_onRaise ?_))
      show wpAny _ _ (Builtin.SmallTypes.nextOf (.ref i3) >>= _) _ _ _
      refine wpAny_bind (wpAny_nextOf_list_end hh (((((h3.extBut hs₁.extBut D.i3z).extBut hs₂.extBut D.i13.symm).extBut hs₃.extBut D.TOi3.symm).extBut hs₄.extBut D.i23.symm).extBut hs₅.extBut D.TOi3.symm)
        (((((hl3.extBut hs₁.extBut D.l3z).extBut hs₂.extBut D.l3i1).extBut hs₃.extBut D.l3TO).extBut hs₄.extBut D.l3i2).extBut hs₅.extBut D.l3TO) hu fun h₆ e hs₆ he => ?_)
      obtain ⟨oe, hoe, hce⟩ := he
      have hz₆ : IsZip h₆ z TI TO .ellipsis := hs₆ _ _ D.i3z.symm (hs₅.extBut _ _ D.TOz.symm (hs₄.extBut _ _ D.i2z.symm hz₃))
      have hez : e ≠ z := fun x => by subst x; rw [hz₆] at hoe; cases hoe; simp at hce
      refine wpAny_setField_rec hz₆ (by simp) fun h₇ _ hs₇ => hE h₇ e (fun c o c1 c2 c3 c4 c5 x => hs₇.extBut _ _ c1 (hs₆ _ _ c5 (hs₅.extBut _ _ c2 (hs₄.extBut _ _ c4 (hs₃.extBut _ _ c2 (hs₂.extBut _ _ c3 (hs₁.extBut _ _ c1 x))))))) ⟨oe, hs₇.extBut _ _ hez hoe, hce⟩
theorem wpAny_pyNext_zip_item3 {z TI TO i1 i2 i3 l1 l2 l3 : Addr} {k1 k2 k3 : Nat} {xs ys zs : Array Value} {x y u a b c : Value} {Q : Option Value → Shared → Prop} (D : ZipApart3 z TI TO i1 i2 i3 l1 l2 l3)
    (hz : IsZip s.heap z TI TO .none) (hTI : IsTrip s.heap TI (.ref i1) (.ref i2) (.ref i3)) (hTO : IsTrip s.heap TO a b c)
    (h1 : s.heap.IsListIter i1 l1 k1) (h2 : s.heap.IsListIter i2 l2 k2) (h3 : s.heap.IsListIter i3 l3 k3) (hl1 : s.heap.IsList l1 xs) (hl2 : s.heap.IsList l2 ys) (hl3 : s.heap.IsList l3 zs)
    (hx : xs[k1]? = some x) (hy : ys[k2]? = some y) (hu : zs[k3]? = some u)
    (hQ : ∀ h', IsZip h' z TI TO (rawInt s.heap.objs.size) → IsTrip h' TO x y u → h'.IsListIter i1 l1 (k1 + 1) → h'.IsListIter i2 l2 (k2 + 1) → h'.IsListIter i3 l3 (k3 + 1) → IsTrip h' s.heap.objs.size x y u → h'.objs.size = s.heap.objs.size + 1 →
      (∀ c o, c ≠ z → c ≠ TO → c ≠ i1 → c ≠ i2 → c ≠ i3 → s.heap.get? c = some o → h'.get? c = some o) → Q (some (.ref s.heap.objs.size)) { s with heap := h' }) :
    wpAny (model prog w) A (pyNext (.ref z)) Q E s := by
  have hT : s.TypeIs (.ref z) "zip" := ⟨_, hz, rfl⟩
  unfold pyNext
  exact wpAny_bind (wpAny_attempt (wpAny_callSpecial?_slot (name := Str.ofString "__next__") hT F.slot_zip_next
    (wpAny_call_entry F.slot_zip_next hT F.entry_zip_next
      (zip_next_item3 D hz hTI hTO h1 h2 h3 hl1 hl2 hl3 hx hy hu fun h' a1 a2 a3 a4 a5 a6 a7 a8 => wpAny_pure (hQ h' a1 a2 a3 a4 a5 a6 a7 a8)) (F.args_zip_next_1 _))))
theorem wpAny_pyNext_zip_end3 {z TI TO i1 i2 i3 l1 l2 l3 : Addr} {k1 k2 k3 : Nat} {xs ys zs : Array Value} {a b c : Value} {Q : Option Value → Shared → Prop} (hh : A.handled = none) (D : ZipApart3 z TI TO i1 i2 i3 l1 l2 l3)
    (hz : IsZip s.heap z TI TO .none) (hTI : IsTrip s.heap TI (.ref i1) (.ref i2) (.ref i3)) (hTO : IsTrip s.heap TO a b c)
    (h1 : s.heap.IsListIter i1 l1 k1) (h2 : s.heap.IsListIter i2 l2 k2) (h3 : s.heap.IsListIter i3 l3 k3) (hl1 : s.heap.IsList l1 xs) (hl2 : s.heap.IsList l2 ys) (hl3 : s.heap.IsList l3 zs) (hend : xs[k1]? = none ∨ ys[k2]? = none ∨ zs[k3]? = none)
    (hQ : ∀ h', (∀ c o, c ≠ z → c ≠ TO → c ≠ i1 → c ≠ i2 → c ≠ i3 → s.heap.get? c = some o → h'.get? c = some o) → Q none { s with heap := h' }) : wpAny (model prog w) A (pyNext (.ref z)) Q E s := by
  have hT : s.TypeIs (.ref z) "zip" := ⟨_, hz, rfl⟩
  unfold pyNext
  refine wpAny_bind (wpAny_attempt (wpAny_callSpecial?_slot (name := Str.ofString "__next__") hT F.slot_zip_next
    (wpAny_call_entry F.slot_zip_next hT F.entry_zip_next (zip_next_end3 hh D hz hTI hTO h1 h2 h3 hl1 hl2 hl3 hend fun h' e hk he => ?_) (F.args_zip_next_1 _))))
  obtain ⟨o, ho, hc⟩ := he
  refine wpAny_bind (wpAny_isInstance (T := "StopIteration") (b := true) ⟨o, ho, hc⟩ isSubtype_stop ?_)
  exact wpAny_pure (hQ _ hk)
end
abbrev zip3I3 (h : Heap) (l1 l2 l3 : Addr) : Heap := (zipH2 h l1 l2).push { cls := .type "list_iterator", data := .fields #[.ref l3, .int 0 0] }
abbrev zip3T (h : Heap) (l1 l2 l3 : Addr) : Heap := (zip3I3 h l1 l2 l3).push { cls := .type "tuple", data := .seq #[.ref h.objs.size, .ref (zipH1 h l1).objs.size, .ref (zipH2 h l1 l2).objs.size] }
abbrev zip3O (h : Heap) (l1 l2 l3 : Addr) : Heap := (zip3T h l1 l2 l3).push { cls := .type "tuple", data := .seq #[.none, .none, .none] }
abbrev zip3Z (h : Heap) (l1 l2 l3 : Addr) : Heap := (zip3O h l1 l2 l3).push { cls := .type "zip", data := .fields #[.none, .bool false, .bool false, .ref (zip3I3 h l1 l2 l3).objs.size, .ref (zip3T h l1 l2 l3).objs.size] }
theorem meets_zip_new3 (l1 l2 l3 : Addr) (xs ys zs : Array Value) :
    Meets (Builtin.«zip.__new__» ⟨[.type "zip", .ref l1, .ref l2, .ref l3], []⟩) (fun _ R s => s.heap.IsList l1 xs ∧ s.heap.IsList l2 ys ∧ s.heap.IsList l3 zs ∧
      R (.ok (.ret (.ref (zip3O s.heap l1 l2 l3).objs.size))) { s with heap := zip3Z s.heap l1 l2 l3 }) :=
  .of_wp fun prog w A R s h => by
    obtain ⟨hp, g, d, tk, os⟩ := s; obtain ⟨hl1, hl2, hl3, h⟩ := h
    have hsub := sub_zip
    have hL1 : Heap.IsList (Shared.heap ⟨hp, g, d, tk, os⟩) l1 xs := hl1
    have hL2 : Heap.IsList (Shared.heap ⟨hp.push { cls := .type "list_iterator", data := .fields #[.ref l1, .int 0 0] }, g, d, tk, os⟩) l2 ys := Heap.IsList.push hl2 _
    have hL3 : Heap.IsList (Shared.heap ⟨(hp.push { cls := .type "list_iterator", data := .fields #[.ref l1, .int 0 0] }).push { cls := .type "list_iterator", data := .fields #[.ref l2, .int 0 0] }, g, d, tk, os⟩) l3 zs := Heap.IsList.push (Heap.IsList.push hl3 _) _
    wp_walk using wpAny_pyIter_list hL1, wpAny_pyIter_list hL2, wpAny_pyIter_list hL3
    exact ⟨_, rfl, h⟩
section
variable {prog : Program} {w : World} {A : Around} {E : Value → Shared → Prop} {s : Shared}
theorem call_zip_3 {l1 l2 l3 : Addr} {xs ys zs : Array Value} {Q : Value → Shared → Prop} (hl1 : s.heap.IsList l1 xs) (hl2 : s.heap.IsList l2 ys) (hl3 : s.heap.IsList l3 zs)
    (h : ∀ h', IsZip h' (s.heap.objs.size + 5) (s.heap.objs.size + 3) (s.heap.objs.size + 4) .none → IsTrip h' (s.heap.objs.size + 3) (.ref s.heap.objs.size) (.ref (s.heap.objs.size + 1)) (.ref (s.heap.objs.size + 2)) →
      IsTrip h' (s.heap.objs.size + 4) .none .none .none → h'.IsListIter s.heap.objs.size l1 0 → h'.IsListIter (s.heap.objs.size + 1) l2 0 → h'.IsListIter (s.heap.objs.size + 2) l3 0 →
      (∀ c o, s.heap.get? c = some o → h'.get? c = some o) → Q (.ref (s.heap.objs.size + 5)) { s with heap := h' }) :
    wpAny (model prog w) A (call (.type "zip") [.ref l1, .ref l2, .ref l3]) Q E s := by
  refine callType_new F.called_zip (by decide) (PXF.typeCall_zip_3 _ _ _) (PXF.newCall_zip_3 _ _ _) (fun obj => PXF.args_object_init_4 obj _ _ _) F.entry_zip_new
    (meets_zip_new3 l1 l2 l3 xs ys zs) ⟨hl1, hl2, hl3, ?_⟩
  have z1 : (zipH1 s.heap l1).objs.size = s.heap.objs.size + 1 := Heap.size_push ..
  have z2 : (zipH2 s.heap l1 l2).objs.size = s.heap.objs.size + 2 := by rw [Heap.size_push, z1]
  have z3 : (zip3I3 s.heap l1 l2 l3).objs.size = s.heap.objs.size + 3 := by rw [Heap.size_push, z2]
  have z4 : (zip3T s.heap l1 l2 l3).objs.size = s.heap.objs.size + 4 := by rw [Heap.size_push, z3]
  have z5 : (zip3O s.heap l1 l2 l3).objs.size = s.heap.objs.size + 5 := by rw [Heap.size_push, z4]
  have g5 : (zip3Z s.heap l1 l2 l3).get? (zip3O s.heap l1 l2 l3).objs.size = some _ := Heap.get?_push_size _ rfl
  have g4 : (zip3Z s.heap l1 l2 l3).get? (zip3T s.heap l1 l2 l3).objs.size = some _ := Heap.get?_push_of_some _ (Heap.get?_push_size _ rfl)
  have g3 : (zip3Z s.heap l1 l2 l3).get? (zip3I3 s.heap l1 l2 l3).objs.size = some _ := Heap.get?_push_of_some _ (Heap.get?_push_of_some _ (Heap.get?_push_size _ rfl))
  have g2 : (zip3Z s.heap l1 l2 l3).get? (zipH2 s.heap l1 l2).objs.size = some _ := Heap.get?_push_of_some _ (Heap.get?_push_of_some _ (Heap.get?_push_of_some _ (Heap.get?_push_size _ rfl)))
  have g1 : (zip3Z s.heap l1 l2 l3).get? (zipH1 s.heap l1).objs.size = some _ := Heap.get?_push_of_some _ (Heap.get?_push_of_some _ (Heap.get?_push_of_some _ (Heap.get?_push_of_some _ (Heap.get?_push_size _ rfl))))
  have g0 : (zip3Z s.heap l1 l2 l3).get? s.heap.objs.size = some _ := Heap.get?_push_of_some _ (Heap.get?_push_of_some _ (Heap.get?_push_of_some _ (Heap.get?_push_of_some _ (Heap.get?_push_of_some _ (Heap.get?_push_size _ rfl)))))
  show _ ∧ _
  rw [z3, z4, z5] at g5
  rw [z1, z2, z3] at g3
  rw [z4] at g4
  rw [z2] at g2
  rw [z1] at g1
  rw [z5]
  exact ⟨⟨_, g5, rfl⟩, h _ g5 g3 g4 ⟨_, g0, rfl, rfl⟩ ⟨_, g1, rfl, rfl⟩ ⟨_, g2, rfl, rfl⟩ fun c o x =>
    Heap.get?_push_of_some _ (Heap.get?_push_of_some _ (Heap.get?_push_of_some _ (Heap.get?_push_of_some _ (Heap.get?_push_of_some _ (Heap.get?_push_of_some _ x)))))⟩
end
end PySem
namespace PXI
open PySem PySem.Spec PyProof.Rows L2
def Itz3 (K : PySem.W.Frag) (a b c : Addr) : It :=
  ⟨fun i H => ∃ (xs ys zs : List V) (x y u : V), SqL K H a xs ∧ SqL K H b ys ∧ SqL K H c zs ∧ xs[i]? = some x ∧ ys[i]? = some y ∧ zs[i]? = some u,
    fun i H v H' => ∃ T x y u, v = .ref T ∧ H T = none ∧ H' = upd H T (.tup [x, y, u]) ∧ (∀ xs, SqL K H a xs → xs[i]? = some x) ∧ (∀ ys, SqL K H b ys → ys[i]? = some y) ∧ ∀ zs, SqL K H c zs → zs[i]? = some u,
    fun i H => ∃ xs ys zs : List V, SqL K H a xs ∧ SqL K H b ys ∧ SqL K H c zs ∧ (xs.length ≤ i ∨ ys.length ≤ i ∨ zs.length ≤ i)⟩
theorem turn_zip3 {P : Program} {w : World} {K : PySem.W.Frag} {elts : List Expr} {kk : Nat} {tpos : Pos} {a b c z TI TO i1 i2 i3 : Addr} (D : ZipApart3 z TI TO i1 i2 i3 a b c) :
    Turn P w K (.Tuple elts kk tpos) (Itz3 K a b c) [z, TI, TO, i1, i2, i3] z (fun i h => IsZip h z TI TO .none ∧ IsTrip h TI (.ref i1) (.ref i2) (.ref i3) ∧ (∃ x y u, IsTrip h TO x y u) ∧ h.IsListIter i1 a i ∧ h.IsListIter i2 b i ∧ h.IsListIter i3 c i) where
  mem := by simp
  obj := fun i h st c hc => by
    obtain ⟨hz, hTI, ⟨x, y, u, hTO⟩, ⟨o1, e1, _, d1⟩, ⟨o2, e2, _, d2⟩, ⟨o3, e3, _, d3⟩⟩ := st
    have e' : c = z ∨ c = TI ∨ c = TO ∨ c = i1 ∨ c = i2 ∨ c = i3 := by simpa using hc
    rcases e' with q | q | q | q | q | q
    · rw [q]; exact ⟨_, hz, fun v q => nomatch q⟩
    · rw [q]; exact ⟨_, hTI, fun v q => nomatch q⟩
    · rw [q]; exact ⟨_, hTO, fun v q => nomatch q⟩
    · rw [q]; exact ⟨o1, e1, fun v q => by rw [d1] at q; cases q⟩
    · rw [q]; exact ⟨o2, e2, fun v q => by rw [d2] at q; cases q⟩
    · rw [q]; exact ⟨o3, e3, fun v q => by rw [d3] at q; cases q⟩
  keep := fun i h h' st k => by
    obtain ⟨hz, hTI, ⟨x, y, u, hTO⟩, h1, h2, h3⟩ := st
    exact ⟨k z (by simp) _ hz, k TI (by simp) _ hTI, ⟨x, y, u, k TO (by simp) _ hTO⟩, h1.at fun o q => k i1 (by simp) o q, h2.at fun o q => k i2 (by simp) o q, h3.at fun o q => k i3 (by simp) o q⟩
  item := by
    intro X hP hw hK hc i pins s σ H E I hf st hg
    subst hP hw hK
    obtain ⟨hz, hTI, ⟨x0, y0, u0, hTO⟩, h1, h2, h3⟩ := st
    obtain ⟨xs, ys, zs, x, y, q, hqx, hqy, hqu, hx, hy, hq⟩ := hg
    obtain ⟨its, rv, p, _⟩ := I.list hqx
    obtain ⟨its2, rv2, p2, _⟩ := I.list hqy
    obtain ⟨its3, rv3, p3, _⟩ := I.list hqu
    obtain ⟨u, hu, ru⟩ := rv.get hx
    obtain ⟨u2, hu2, ru2⟩ := rv2.get hy
    obtain ⟨u3, hu3, ru3⟩ := rv3.get hq
    have hzl : z < s.heap.objs.size := Heap.lt_size hz
    refine wpAny_pyNext_zip_item3 D hz hTI hTO h1 h2 h3 p.isList p2.isList p3.isList (x := u) (y := u2) (u := u3) (by simpa using hu) (by simpa using hu2) (by simpa using hu3) fun h' z' TO' h1' h2' h3' hT hsz hk => ?_
    refine ⟨_, rfl, wpAny_letOwnedTupleGo_zip (s := { s with heap := h' }) z' fun h'' z'' sb => ?_⟩
    have hT2 : h''.get? s.heap.objs.size = some { cls := .type "tuple", data := .seq #[u, u2, u3] } := (sb.2 _ (Nat.ne_of_gt hzl)).trans hT
    have new : ObjOk X.prog X.w (upd H s.heap.objs.size (.tup [x, y, q])) h'' s.heap.objs.size (.tup [x, y, q]) :=
      ⟨by show 3 ≤ sizeLine; decide, [u, u2, u3], .cons ru (.cons ru2 (.cons ru3 .nil)), ⟨_, hT2, rfl, _, rfl⟩⟩
    have I1 : Inv X pins σ (upd H s.heap.objs.size (.tup [x, y, q])) { s with heap := h'' } :=
      I.turnedNew (t' := s.toks) (ch := [z, TI, TO, i1, i2, i3]) (fun c o hb q => (sb.2 c (fun q' => hb (by simp [q']))).trans (hk c o (fun q' => hb (by simp [q'])) (fun q' => hb (by simp [q'])) (fun q' => hb (by simp [q'])) (fun q' => hb (by simp [q'])) (fun q' => hb (by simp [q'])) q)) hf (Nat.le_refl _) new
    refine ⟨.ref s.heap.objs.size, _, I1, rfl, ⟨_, x, y, q, rfl, I.hok.fresh (Nat.le_refl _), rfl, fun l hl => by rw [I.list_inj hl hqx]; exact hx, fun l hl => by rw [I.list_inj hl hqy]; exact hy, fun l hl => by rw [I.list_inj hl hqu]; exact hq⟩, ⟨z'', ?_, ⟨u, u2, u3, ?_⟩, ?_, ?_, ?_⟩, fun c hcm => ?_⟩
    · exact (sb.2 _ D.TIz).trans (hk _ _ D.TIz D.TITO D.TIi1 D.TIi2 D.TIi3 hTI)
    · exact (sb.2 _ D.TOz).trans TO'
    · exact h1'.at fun o q => (sb.2 _ D.i1z).trans q
    · exact h2'.at fun o q => (sb.2 _ D.i2z).trans q
    · exact h3'.at fun o q => (sb.2 _ D.i3z).trans q
    · have hlt : c < s.heap.objs.size := by
        have e' : c = z ∨ c = TI ∨ c = TO ∨ c = i1 ∨ c = i2 ∨ c = i3 := by simpa using hcm
        rcases e' with q | q | q | q | q | q
        · rw [q]; exact hzl
        · rw [q]; exact Heap.lt_size hTI
        · rw [q]; exact Heap.lt_size hTO
        · rw [q]; obtain ⟨_, e1, _⟩ := h1; exact Heap.lt_size e1
        · rw [q]; obtain ⟨_, e2, _⟩ := h2; exact Heap.lt_size e2
        · rw [q]; obtain ⟨_, e3, _⟩ := h3; exact Heap.lt_size e3
      rw [upd_ne (Nat.ne_of_lt hlt)]
      exact (hf c hcm).1
  done := by
    intro X hP hw hK hc i pins s σ H E I hf st hg
    subst hP hw hK
    obtain ⟨hz, hTI, ⟨x0, y0, u0, hTO⟩, h1, h2, h3⟩ := st
    obtain ⟨xs, ys, zs, hqx, hqy, hqu, hend⟩ := hg
    obtain ⟨its, rv, p, _⟩ := I.list hqx
    obtain ⟨its2, rv2, p2, _⟩ := I.list hqy
    obtain ⟨its3, rv3, p3, _⟩ := I.list hqu
    have l1 := rv.length
    have l2 := rv2.length
    have l3 := rv3.length
    have he : its.toArray[i]? = none ∨ its2.toArray[i]? = none ∨ its3.toArray[i]? = none := by
      rcases hend with q | q | q
      · exact .inl (by simp; omega)
      · exact .inr (.inl (by simp; omega))
      · exact .inr (.inr (by simp; omega))
    exact wpAny_pyNext_zip_end3 (I.ok.hd hc) D hz hTI hTO h1 h2 h3 p.isList p2.isList p3.isList he fun h' hk => ⟨rfl, I.turnedL (t' := s.toks) (ch := [z, TI, TO, i1, i2, i3]) (fun c o hb q =>
      hk c o (fun q' => hb (by simp [q'])) (fun q' => hb (by simp [q'])) (fun q' => hb (by simp [q'])) (fun q' => hb (by simp [q'])) (fun q' => hb (by simp [q'])) q) hf⟩
  self := fun A i s Q E st h => wpAny_pyIter_zip st.1 h
def iZip3 (K : PySem.W.Frag) (ta : TA) : TI := fun σ H R => ta σ H fun vs H1 => ∃ a b c xs ys zs, vs = [.ref a, .ref b, .ref c] ∧ SqL K H1 a xs ∧ SqL K H1 b ys ∧ SqL K H1 c zs ∧ R (Itz3 K a b c) H1
theorem apart3 {n a b c : Nat} (ha : a < n) (hb : b < n) (hc : c < n) : ZipApart3 (n + 5) (n + 3) (n + 4) n (n + 1) (n + 2) a b c := by
  constructor <;> (first | exact Nat.ne_of_lt (by omega) | exact Nat.ne_of_gt (by omega))
theorem pi_zip3 {X : Cx} {e e2 e3 : Expr} {ta : TA} {p pos tpos : Pos} {elts : List Expr} {kk : Nat} (hg : Gl X "zip") (hm : X.mg "zip" = none) (ha : PA X [e, e2, e3] ta)
    (hs : starEach [e, e2, e3] X.env = (false, eval e X.env) :: starEach [e2, e3] X.env := by rfl) (hpl : (backTo pos (starEach [e2, e3] X.env)).any (·.1) = false := by rfl) :
    PI X (.Tuple elts kk tpos) (.Call (.Name "zip" p) [e, e2, e3] [] pos) (iZip3 X.K ta) := by
  refine ⟨fun pins s σ H R I h => ?_⟩
  refine Call_ (ld_blt I hg hm PyProof.Rows.boot_zip (PyProof.Rows.callWith_type1 (thn (ha.run pos pins s σ H _ I h) fun us s1 ⟨vs, H1, I1, r1, q1⟩ => ?_) hs hpl))
  obtain ⟨a, b, c, xs, ys, zs, ex, hqx, hqy, hqu, q⟩ := q1
  subst ex
  cases r1 with
  | cons r rr =>
    cases rr with
    | cons r' rr =>
      cases rr with
      | cons r'' rr =>
        cases rr
        cases r
        cases r'
        cases r''
        obtain ⟨its, rv, p1, _⟩ := I1.list hqx
        obtain ⟨its2, rv2, p2, _⟩ := I1.list hqy
        obtain ⟨its3, rv3, p3, _⟩ := I1.list hqu
        have la : a < s1.heap.objs.size := p1.lt
        have lb : b < s1.heap.objs.size := p2.lt
        have lc : c < s1.heap.objs.size := p3.lt
        refine call_zip_3 p1.isList p2.isList p3.isList fun h' hz hTI hTO h1 h2 h3 hk => wpAny_pyIter_zip hz ?_
        have I2 : Inv X pins σ H1 { s1 with heap := h' } := I1.kept (t' := s1.toks) hk
        refine ⟨s1.heap.objs.size + 5, [s1.heap.objs.size + 5, s1.heap.objs.size + 3, s1.heap.objs.size + 4, s1.heap.objs.size, s1.heap.objs.size + 1, s1.heap.objs.size + 2], _, _, H1, rfl, I2, turn_zip3 (apart3 la lb lc), ⟨hz, hTI, ⟨_, _, _, hTO⟩, h1, h2, h3⟩, fun c hcm => ?_, q⟩
        have e' : c = s1.heap.objs.size + 5 ∨ c = s1.heap.objs.size + 3 ∨ c = s1.heap.objs.size + 4 ∨ c = s1.heap.objs.size ∨ c = s1.heap.objs.size + 1 ∨ c = s1.heap.objs.size + 2 := by simpa using hcm
        have hle : s1.heap.objs.size ≤ c := by
          rcases e' with z | z | z | z | z | z
          · rw [z]; exact Nat.le_add_right _ _
          · rw [z]; exact Nat.le_add_right _ _
          · rw [z]; exact Nat.le_add_right _ _
          · rw [z]; exact Nat.le_refl _
          · rw [z]; exact Nat.le_add_right _ _
          · rw [z]; exact Nat.le_add_right _ _
        exact I1.fpOk hle (I1.hok.fresh hle)
/-! ### enumerate over a text -/
def Ites (x : Str) : It := ⟨fun i _ => i < x.cps.size, fun i H v H' => ∃ T c, v = .ref T ∧ H T = none ∧ H' = upd H T (.tup [.int (i : Nat), .str ⟨#[c]⟩]) ∧ x.cps[i]? = some c, fun i _ => x.cps.size ≤ i⟩
theorem strDraws {prog : Program} {w : World} {A : Around} (hh : A.handled = none) (it : Addr) (x : Str) (t : Tok) :
    Draws prog w A it [it] x.cps.size (fun i v => ∃ c u, x.cps[i]? = some c ∧ v = .str ⟨#[c]⟩ u) (fun i h => h.IsStrIter it (strIterType x) x t i) := by
  cases ha : x.cps.all (· < 128)
  · have e : strIterType x = "str_iterator" := by simp [strIterType, ha]
    rw [e]
    exact Draws.strWide hh it x t
  · have e : strIterType x = "str_ascii_iterator" := by simp [strIterType, ha]
    rw [e]
    exact Draws.strAscii hh it x t
theorem nextOf_strEnd {prog : Program} {w : World} {A : Around} {E : Value → Shared → Prop} {s : Shared} {it : Addr} {x : Str} {t : Tok} {i : Nat} {Q : Value → Shared → Prop} (hh : A.handled = none)
    (hit : s.heap.IsStrIter it (strIterType x) x t i) (hx : x.cps[i]? = none)
    (hE : ∀ h' e, Heap.ExtBut it s.heap h' → (∃ o, h'.get? e = some o ∧ o.cls = .type "StopIteration") → E (.ref e) { s with heap := h' }) :
    wpAny (model prog w) A (Builtin.SmallTypes.nextOf (.ref it)) Q E s := by
  cases ha : x.cps.all (· < 128)
  · have e : strIterType x = "str_iterator" := by simp [strIterType, ha]
    rw [e] at hit
    exact wpAny_nextOf_wide_end hh hit hx hE
  · have e : strIterType x = "str_ascii_iterator" := by simp [strIterType, ha]
    rw [e] at hit
    exact wpAny_nextOf_ascii_end hh hit hx hE
theorem enum_endS {prog : Program} {w : World} {A : Around} {E : Value → Shared → Prop} {s : Shared} {e it : Addr} {x : Str} {t : Tok} {k : Nat} {i : Int} {old : Value} {Q : Option Value → Shared → Prop} (hh : A.handled = none)
    (he : IsEnum s.heap e it i old) (hit : s.heap.IsStrIter it (strIterType x) x t k) (hx : x.cps[k]? = none)
    (hQ : ∀ h', Heap.ExtBut it s.heap h' → Q none { s with heap := h' }) : wpAny (model prog w) A (pyNext (.ref e)) Q E s := by
  have hT : s.TypeIs (.ref e) "enumerate" := ⟨_, he, rfl⟩
  unfold pyNext
  refine wpAny_bind (wpAny_attempt (wpAny_callSpecial?_slot (name := Str.ofString "__next__") hT F.slot_enumerate_next
    (wpAny_call_entry F.slot_enumerate_next hT F.entry_enumerate_next ?_ (F.args_enumerate_next_1 _))))
  show wpAny _ _ (field (.ref e) 2 >>= _) _ _ _
  refine wpAny_bind (wpAny_field he rfl (x := .ref it) rfl ?_)
  refine wpAny_bind (nextOf_strEnd hh hit hx fun h' x he' hx' => ?_)
  obtain ⟨o, ho, hc⟩ := hx'
  refine wpAny_bind (wpAny_isInstance (T := "StopIteration") (b := true) ⟨o, ho, hc⟩ isSubtype_stop ?_)
  exact wpAny_pure (hQ _ he')
theorem turn_enumS {P : Program} {w : World} {K : PySem.W.Frag} {elts : List Expr} {kk : Nat} {tpos : Pos} (x : Str) (t : Tok) (e it : Addr) :
    Turn P w K (.Tuple elts kk tpos) (Ites x) [e, it] e (fun i h => (∃ old, IsEnum h e it ((i : Nat) : Int) old) ∧ h.IsStrIter it (strIterType x) x t i ∧ e ≠ it) where
  mem := by simp
  obj := fun i h st b hb => by
    obtain ⟨⟨old, he⟩, ⟨o, ho, hc, hd⟩, _⟩ := st
    have e' : b = e ∨ b = it := by simpa using hb
    rcases e' with z | z
    · rw [z]; exact ⟨_, he, fun v q => nomatch q⟩
    · rw [z]; exact ⟨o, ho, fun v q => by rw [hd] at q; cases q⟩
  keep := fun i h h' st k => let ⟨⟨old, he⟩, ⟨o, ho, r⟩, hne⟩ := st; ⟨⟨old, k e (by simp) _ he⟩, ⟨o, k it (by simp) o ho, r⟩, hne⟩
  item := by
    intro X hP hw hK hc i pins s σ H E I hf st hg
    subst hP hw hK
    obtain ⟨⟨old, he⟩, hit, hne⟩ := st
    have hel : e < s.heap.objs.size := Heap.lt_size he
    have hil : it < s.heap.objs.size := by obtain ⟨_, q, _⟩ := hit; exact Heap.lt_size q
    refine wpAny_pyNext_enum_itemD (strDraws (A := X.A.in1) (I.ok.hd hc) it x t) he hit hg hne (by simpa using hne) fun v h' tk hv ho hit' hT hsz hk => ?_
    obtain ⟨c, u, hcx, rfl⟩ := hv
    refine ⟨_, rfl, wpAny_letOwnedTupleGo_enum (s := { s with heap := h', toks := tk + 1 }) ho fun h'' he' sb => ?_⟩
    have hT2 : h''.get? s.heap.objs.size = some { cls := .type "tuple", data := .seq #[.int i tk, .str ⟨#[c]⟩ u] } := (sb.2 _ (Nat.ne_of_gt hel)).trans hT
    have new : ObjOk X.prog X.w (upd H s.heap.objs.size (.tup [.int (i : Nat), .str ⟨#[c]⟩])) h'' s.heap.objs.size (.tup [.int (i : Nat), .str ⟨#[c]⟩]) :=
      ⟨by show 2 ≤ sizeLine; decide, [.int i tk, .str ⟨#[c]⟩ u], .cons ⟨_, rfl⟩ (.cons ⟨_, rfl⟩ .nil), ⟨_, hT2, rfl, _, rfl⟩⟩
    have I1 : Inv X pins σ (upd H s.heap.objs.size (.tup [.int (i : Nat), .str ⟨#[c]⟩])) { s with heap := h'', toks := tk + 1 } :=
      I.turnedNew (ch := [e, it]) (fun b ob hb q => (sb.2 b (fun z => hb (by simp [z]))).trans (hk b ob (fun z => hb (by simp [z])) (fun z => hb (by simp [z])) q)) hf (Nat.le_refl _) new
    refine ⟨.ref s.heap.objs.size, _, I1, rfl, ⟨_, c, rfl, I.hok.fresh (Nat.le_refl _), rfl, hcx⟩, ⟨⟨.str ⟨#[c]⟩ u, ?_⟩, ?_, hne⟩, fun b hb => ?_⟩
    · have e1 : ((i + 1 : Nat) : Int) = (i : Int) + 1 := by omega
      rw [e1]; exact he'
    · obtain ⟨o, q1, q2⟩ := hit'
      exact ⟨o, (sb.2 it (Ne.symm hne)).trans q1, q2⟩
    · have hb' : b < s.heap.objs.size := by
        have e' : b = e ∨ b = it := by simpa using hb
        rcases e' with z | z
        · rw [z]; exact hel
        · rw [z]; exact hil
      rw [upd_ne (Nat.ne_of_lt hb')]
      exact (hf b hb).1
  done := by
    intro X hP hw hK hc i pins s σ H E I hf st hg
    subst hP hw hK
    obtain ⟨⟨old, he⟩, hit, hne⟩ := st
    obtain ⟨f0, f1, f2, f3, f4, f5⟩ := hf it (by simp)
    exact enum_endS (I.ok.hd hc) he hit (Array.getElem?_eq_none hg) fun h' eb => ⟨rfl, I.turned (t' := s.toks) (fun b o hb q => eb b o hb q) f0 f1 f3 f4 f5⟩
  self := fun A i s Q E st h => let ⟨⟨_, he⟩, _⟩ := st; wpAny_pyIter_enum he h
/-- enumerate over a list or over a text -/
def iEnumA (K : PySem.W.Frag) (ta : TA) : TI := fun σ H R => ta σ H fun vs H1 => (∃ a xs, vs = [.ref a] ∧ SqL K H1 a xs ∧ R (Ite K a) H1) ∨ ∃ x, vs = [.str x] ∧ R (Ites x) H1
theorem pi_enumA {X : Cx} {e : Expr} {ta : TA} {p pos tpos : Pos} {elts : List Expr} {kk : Nat} (hg : Gl X "enumerate") (hm : X.mg "enumerate" = none) (ha : PA X [e] ta) (hs : starEach [e] X.env = [(false, eval e X.env)] := by rfl) :
    PI X (.Tuple elts kk tpos) (.Call (.Name "enumerate" p) [e] [] pos) (iEnumA X.K ta) := by
  refine ⟨fun pins s σ H R I h => ?_⟩
  refine Call_ (ld_blt I hg hm boot_enumerate (PyProof.Rows.callWith_type1 (thn (ha.run pos pins s σ H _ I h) fun us s1 ⟨vs, H1, I1, r1, q1⟩ => ?_) hs rfl))
  have fresh : ∀ {b : Addr}, b = s1.heap.objs.size + 1 ∨ b = s1.heap.objs.size → s1.heap.objs.size ≤ b := fun {b} e' => by
    rcases e' with z | z
    · rw [z]; exact Nat.le_add_right _ _
    · rw [z]; exact Nat.le_refl _
  rcases q1 with ⟨a, xs, ex, hq, q⟩ | ⟨x, ex, q⟩
  · subst ex
    cases r1 with
    | cons r rr =>
      cases rr
      cases r
      obtain ⟨its, rv, p', hz⟩ := I1.list hq
      refine call_enumerate_list p'.isList fun h' he hit hsz hk => wpAny_pyIter_enum he ?_
      have I2 : Inv X pins σ H1 { s1 with heap := h' } := I1.kept (t' := s1.toks) hk
      refine ⟨s1.heap.objs.size + 1, [s1.heap.objs.size + 1, s1.heap.objs.size], _, _, H1, rfl, I2, turn_enum a (s1.heap.objs.size + 1) s1.heap.objs.size, ⟨⟨.none, he⟩, hit, Nat.succ_ne_self _⟩, fun b hb => ?_, q⟩
      have hle := fresh (b := b) (by simpa using hb)
      exact I1.fpOk hle (I1.hok.fresh hle)
  · subst ex
    cases r1 with
    | cons r rr =>
      cases rr
      obtain ⟨t, rfl⟩ := r
      refine call_enumerate_str fun h' he hit hsz hk => wpAny_pyIter_enum he ?_
      have I2 : Inv X pins σ H1 { s1 with heap := h' } := I1.kept (t' := s1.toks) hk
      refine ⟨s1.heap.objs.size + 1, [s1.heap.objs.size + 1, s1.heap.objs.size], _, _, H1, rfl, I2, turn_enumS x t (s1.heap.objs.size + 1) s1.heap.objs.size, ⟨⟨.none, he⟩, hit, Nat.succ_ne_self _⟩, fun b hb => ?_, q⟩
      have hle := fresh (b := b) (by simpa using hb)
      exact I1.fpOk hle (I1.hok.fresh hle)
end PXI

/-! PX5: what is walked; the canonical readings of expressions. -/
namespace PX
open PySem PySem.Spec PyProof.Rows L2

/-! ### what is walked -/
def Walks (K : PySem.W.Frag) (F : Hp) (J : It) (ds : List PyData) : Prop := ∀ F' H' i, Same F F' → Same F' H' →
  (∀ d, ds[i]? = some d → J.go i H' ∧ ∀ x H2, J.yld i H' x H2 → ∃ F2, Grow F' H' F2 H2 ∧ Rp K F2 d x) ∧ (ds.length ≤ i → J.stop i H')
section
variable {K : PySem.W.Frag} {F : Hp} {ds : List PyData} {xs : List V}
theorem Walks.mono {F1 : Hp} {J : It} (w : Walks K F J ds) (e : Same F F1) : Walks K F1 J ds := fun F' H' i h1 h2 => w F' H' i (e.trans h1) h2
theorem walks_list {a : Addr} (s : SqL K F a xs) (r : Rps K F ds xs) : Walks K F (Itl K a) ds := fun F' H' i h1 h2 => by
  have sH : SqL K H' a xs := sqL_mono (h1.trans h2) s
  refine ⟨fun d e => ?_, fun hl => ⟨xs, sH, by rw [← r.len]; exact hl⟩⟩
  obtain ⟨v, e1, q⟩ := r.get e
  refine ⟨⟨xs, v, sH, e1⟩, fun x H2 y => ?_⟩
  obtain ⟨rfl, y2⟩ := y
  have e2 := y2 xs sH
  rw [e1] at e2
  cases e2
  exact ⟨F', Grow.refl h2, Rp.mono h1 _ _ q⟩
theorem walks_tup {a : Addr} (s : SqT K F a xs) (r : Rps K F ds xs) : Walks K F (Itt K a) ds := fun F' H' i h1 h2 => by
  have sH : SqT K H' a xs := sqT_mono (h1.trans h2) s
  refine ⟨fun d e => ?_, fun hl => ⟨xs, sH, by rw [← r.len]; exact hl⟩⟩
  obtain ⟨v, e1, q⟩ := r.get e
  refine ⟨⟨xs, v, sH, e1⟩, fun x H2 y => ?_⟩
  obtain ⟨rfl, y2⟩ := y
  have e2 := y2 xs sH
  rw [e1] at e2
  cases e2
  exact ⟨F', Grow.refl h2, Rp.mono h1 _ _ q⟩
theorem rngs_get {lo c : Int} {n i : Nat} {d : PyData} (h : (rngs lo c n)[i]? = some d) : i < n ∧ d = .int (lo + i * c) := by
  unfold rngs at h
  by_cases hi : i < n
  · rw [List.getElem?_map, List.getElem?_range hi] at h
    exact ⟨hi, (Option.some.inj h).symm⟩
  · rw [List.getElem?_eq_none (by rw [List.length_map, List.length_range]; omega)] at h
    cases h
theorem rngs_len {lo c : Int} {n : Nat} : (rngs lo c n).length = n := by
  unfold rngs
  rw [List.length_map, List.length_range]
theorem walks_rng {lo : Int} {n : Nat} : Walks K F (Itr lo n) (rngs lo 1 n) := fun F' H' i h1 h2 => by
  refine ⟨fun d e => ?_, fun hl => by rw [rngs_len] at hl; exact hl⟩
  obtain ⟨hi, rfl⟩ := rngs_get e
  refine ⟨hi, fun x H2 y => ?_⟩
  obtain ⟨rfl, rfl⟩ := y
  rw [Int.mul_one]
  exact ⟨F', Grow.refl h2, .int _⟩
theorem walks_rngC {lo c : Int} {n : Nat} : Walks K F (Itc lo c n) (rngs lo c n) := fun F' H' i h1 h2 => by
  refine ⟨fun d e => ?_, fun hl => by rw [rngs_len] at hl; exact hl⟩
  obtain ⟨hi, rfl⟩ := rngs_get e
  refine ⟨hi, fun x H2 y => ?_⟩
  obtain ⟨rfl, rfl⟩ := y
  exact ⟨F', Grow.refl h2, .int _⟩
theorem enum_get : ∀ {n : Nat} {ds : List PyData} {i : Nat} {d : PyData}, (enumFrom n ds)[i]? = some d → ∃ x, ds[i]? = some x ∧ d = .tuple [.int ((n + i : Nat) : Int), x]
  | n, [], i, d, h => by simp [enumFrom] at h
  | n, x :: ds, 0, d, h => by
    simp [enumFrom] at h
    exact ⟨x, rfl, by rw [← h]; rfl⟩
  | n, x :: ds, i + 1, d, h => by
    have h' : (enumFrom (n + 1) ds)[i]? = some d := by simpa [enumFrom] using h
    obtain ⟨y, h1, h2⟩ := enum_get h'
    exact ⟨y, by simpa using h1, by rw [h2]; congr 4; omega⟩
theorem enum_len : ∀ {n : Nat} {ds : List PyData}, (enumFrom n ds).length = ds.length
  | n, [] => rfl
  | n, x :: ds => by simp [enumFrom, enum_len]
theorem walks_enum {a : Addr} (s : SqL K F a xs) (r : Rps K F ds xs) : Walks K F (Ite K a) (enumFrom 0 ds) := fun F' H' i h1 h2 => by
  have sH : SqL K H' a xs := sqL_mono (h1.trans h2) s
  refine ⟨fun d e => ?_, fun hl => ⟨xs, sH, by rw [← r.len]; rw [enum_len] at hl; exact hl⟩⟩
  obtain ⟨y, e0, rfl⟩ := enum_get e
  obtain ⟨v, e1, q⟩ := r.get e0
  refine ⟨⟨xs, v, sH, e1⟩, fun x H2 z => ?_⟩
  obtain ⟨T, x', rfl, nT, rfl, z2⟩ := z
  have e2 := z2 xs sH
  rw [e1] at e2
  cases e2
  refine ⟨_, Grow.new h2 nT, .tup (.inl (.inl upd_same)) (.cons ?_ (.cons (Rp.mono (h1.trans (same_upd (Same.free h2 nT))) _ _ q) .nil))⟩
  rw [Nat.zero_add]
  exact .int _
theorem walks_enumS {x : Str} : Walks K F (PXI.Ites x) (enumFrom 0 (signsD x)) := fun F' H' i h1 h2 => by
  have ln : (signsD x).length = x.cps.size := by unfold signsD; rw [List.length_map, Array.length_toList]
  refine ⟨fun d e => ?_, fun hl => by rw [enum_len, ln] at hl; exact hl⟩
  obtain ⟨y, e0, rfl⟩ := enum_get e
  unfold signsD at e0
  rw [List.getElem?_map, Array.getElem?_toList] at e0
  cases e1 : x.cps[i]? with
  | none => rw [e1] at e0; cases e0
  | some c =>
    rw [e1] at e0
    cases e0
    refine ⟨(Array.getElem?_eq_some_iff.mp e1).1, fun v H2 z => ?_⟩
    obtain ⟨T, c', rfl, nT, rfl, z2⟩ := z
    rw [e1] at z2
    cases z2
    refine ⟨_, Grow.new h2 nT, .tup (.inl (.inl upd_same)) (.cons ?_ (.cons (.str _) .nil))⟩
    rw [Nat.zero_add]
    exact .int _
theorem zip_get : ∀ {ds es : List PyData} {i : Nat} {d : PyData}, (zipD ds es)[i]? = some d → ∃ x y, ds[i]? = some x ∧ es[i]? = some y ∧ d = .tuple [x, y]
  | [], es, i, d, h => by simp [zipD] at h
  | x :: ds, [], i, d, h => by simp [zipD] at h
  | x :: ds, y :: es, 0, d, h => by
    simp [zipD] at h
    exact ⟨x, y, rfl, rfl, h.symm⟩
  | x :: ds, y :: es, i + 1, d, h => by
    have h' : (zipD ds es)[i]? = some d := by simpa [zipD] using h
    obtain ⟨u, v, h1, h2, h3⟩ := zip_get h'
    exact ⟨u, v, by simpa using h1, by simpa using h2, h3⟩
theorem zip_len : ∀ {ds es : List PyData}, (zipD ds es).length = min ds.length es.length
  | [], es => by simp [zipD]
  | x :: ds, [] => by simp [zipD]
  | x :: ds, y :: es => by
    simp only [zipD, List.length_cons, zip_len]
    omega
theorem walks_zip {a b : Addr} {es : List PyData} {ys : List V} (s : SqL K F a xs) (r : Rps K F ds xs) (s2 : SqL K F b ys) (r2 : Rps K F es ys) : Walks K F (Itz K a b) (zipD ds es) := fun F' H' i h1 h2 => by
  have sH : SqL K H' a xs := sqL_mono (h1.trans h2) s
  have sH2 : SqL K H' b ys := sqL_mono (h1.trans h2) s2
  refine ⟨fun d e => ?_, fun hl => ⟨xs, ys, sH, sH2, ?_⟩⟩
  · obtain ⟨x0, y0, e0, e0', rfl⟩ := zip_get e
    obtain ⟨v, e1, q⟩ := r.get e0
    obtain ⟨v', e1', q'⟩ := r2.get e0'
    refine ⟨⟨xs, ys, v, v', sH, sH2, e1, e1'⟩, fun x H2 z => ?_⟩
    obtain ⟨T, x', y', rfl, nT, rfl, z2, z3⟩ := z
    have e2 := z2 xs sH
    rw [e1] at e2
    cases e2
    have e3 := z3 ys sH2
    rw [e1'] at e3
    cases e3
    have st : ∀ o, Same F (upd F' T o) := fun o => h1.trans (same_upd (Same.free h2 nT))
    exact ⟨_, Grow.new h2 nT, .tup (.inl (.inl upd_same)) (.cons (Rp.mono (st _) _ _ q) (.cons (Rp.mono (st _) _ _ q') .nil))⟩
  · rw [zip_len, r.len, r2.len] at hl
    omega
theorem zip_get3 : ∀ {ds es fs : List PyData} {i : Nat} {d : PyData}, (zipD3 ds es fs)[i]? = some d → ∃ x y z, ds[i]? = some x ∧ es[i]? = some y ∧ fs[i]? = some z ∧ d = .tuple [x, y, z]
  | [], es, fs, i, d, h => by simp [zipD3] at h
  | x :: ds, [], fs, i, d, h => by simp [zipD3] at h
  | x :: ds, y :: es, [], i, d, h => by simp [zipD3] at h
  | x :: ds, y :: es, z :: fs, 0, d, h => by
    simp [zipD3] at h
    exact ⟨x, y, z, rfl, rfl, rfl, h.symm⟩
  | x :: ds, y :: es, z :: fs, i + 1, d, h => by
    have h' : (zipD3 ds es fs)[i]? = some d := by simpa [zipD3] using h
    obtain ⟨u, v, w, h1, h2, h3, h4⟩ := zip_get3 h'
    exact ⟨u, v, w, by simpa using h1, by simpa using h2, by simpa using h3, h4⟩
theorem zip_len3 : ∀ {ds es fs : List PyData}, (zipD3 ds es fs).length = min ds.length (min es.length fs.length)
  | [], es, fs => by simp [zipD3]
  | x :: ds, [], fs => by simp [zipD3]
  | x :: ds, y :: es, [] => by simp [zipD3]
  | x :: ds, y :: es, z :: fs => by
    simp only [zipD3, List.length_cons, zip_len3]
    omega
theorem walks_zip3 {a b c : Addr} {es fs : List PyData} {ys zs : List V} (s : SqL K F a xs) (r : Rps K F ds xs) (s2 : SqL K F b ys) (r2 : Rps K F es ys) (s3 : SqL K F c zs) (r3 : Rps K F fs zs) : Walks K F (PXI.Itz3 K a b c) (zipD3 ds es fs) := fun F' H' i h1 h2 => by
  have sH : SqL K H' a xs := sqL_mono (h1.trans h2) s
  have sH2 : SqL K H' b ys := sqL_mono (h1.trans h2) s2
  have sH3 : SqL K H' c zs := sqL_mono (h1.trans h2) s3
  refine ⟨fun d e => ?_, fun hl => ⟨xs, ys, zs, sH, sH2, sH3, ?_⟩⟩
  · obtain ⟨x0, y0, u0, e0, e0', e0'', rfl⟩ := zip_get3 e
    obtain ⟨v, e1, q⟩ := r.get e0
    obtain ⟨v', e1', q'⟩ := r2.get e0'
    obtain ⟨v'', e1'', q''⟩ := r3.get e0''
    refine ⟨⟨xs, ys, zs, v, v', v'', sH, sH2, sH3, e1, e1', e1''⟩, fun x H2 z => ?_⟩
    obtain ⟨T, x', y', u', rfl, nT, rfl, z2, z3, z4⟩ := z
    have e2 := z2 xs sH
    rw [e1] at e2
    cases e2
    have e3 := z3 ys sH2
    rw [e1'] at e3
    cases e3
    have e4 := z4 zs sH3
    rw [e1''] at e4
    cases e4
    have st : ∀ o, Same F (upd F' T o) := fun o => h1.trans (same_upd (Same.free h2 nT))
    exact ⟨_, Grow.new h2 nT, .tup (.inl (.inl upd_same)) (.cons (Rp.mono (st _) _ _ q) (.cons (Rp.mono (st _) _ _ q') (.cons (Rp.mono (st _) _ _ q'') .nil)))⟩
  · rw [zip_len3, r.len, r2.len, r3.len] at hl
    omega
theorem walks_rev {a : Addr} (s : SqL K F a xs) (r : Rps K F ds xs) : Walks K F (Itv K a xs.length) ds.reverse := fun F' H' i h1 h2 => by
  have sH : SqL K H' a xs := sqL_mono (h1.trans h2) s
  refine ⟨fun d e => ?_, fun hl => by rw [List.length_reverse, r.len] at hl; exact hl⟩
  have hi : i < ds.length := by
    have := (List.getElem?_eq_some_iff.mp e).1
    rw [List.length_reverse] at this
    exact this
  rw [List.getElem?_reverse hi] at e
  obtain ⟨v, e1, q⟩ := r.get e
  rw [r.len] at e1 hi
  refine ⟨⟨hi, xs, v, sH, e1⟩, fun x H2 y => ?_⟩
  obtain ⟨rfl, y2⟩ := y
  have e2 := y2 xs sH
  rw [e1] at e2
  cases e2
  exact ⟨F', Grow.refl h2, Rp.mono h1 _ _ q⟩
end

/-! ### readings -/
def RelR (K : PySem.W.Frag) (F : Hp) (r : RE) (σ : L2.St) : Prop := r.length = σ.length ∧ ∀ (i : Nat) (d : PyData), r[i]? = some (some d) → ∃ v, σ[i]? = some (some v) ∧ Rp K F d v
theorem RelR.mono {K : PySem.W.Frag} {F F' : Hp} {r : RE} {σ : L2.St} (h : RelR K F r σ) (e : Same F F') : RelR K F' r σ := ⟨h.1, fun i d q =>
  let ⟨v, a, b⟩ := h.2 i d q
  ⟨v, a, Rp.mono e d v b⟩⟩
def PIt (K : PySem.W.Frag) (R : It → Hp → Prop) (ds : List PyData) (F H : Hp) : Prop := ∀ J F' H', Grow F H F' H' → Walks K F' J ds → R J H'
theorem PIt.monoP {K : PySem.W.Frag} {R : It → Hp → Prop} : MonoP (PIt K R) := fun x F H F' H' g h J F2 H2 g2 w => h J F2 H2 (g.trans g2) w
section
variable (K : PySem.W.Frag) (W : WX) (cl : Nat → Value)
/-- the reading of what f tells at the slots -/
def canX {A : Type} {T : Type} (P : T → A → Hp → Hp → Prop) (f : RE → Res A) : L2.St → Hp → T → Prop := fun σ H Q => ∃ r F, Same F H ∧ RelR K F r σ ∧ PR W cl σ (f r) (P Q) F H
abbrev canE (f : RE → Rr) : TE := canX K W cl (PV K) f
abbrev canT (f : RE → Res Bool) : TT := canX K W cl PB f
abbrev canA (f : RE → Res (List PyData)) : TA := canX K W cl (PL K) f
abbrev canO (f : RE → Res (Option Int)) : TO := canX K W cl PB f
abbrev canI (f : RE → Res (List PyData)) : TI := canX K W cl (PIt K) f
end
section
variable {K : PySem.W.Frag} {W : WX} {cl : Nat → Value} {F H : Hp} {r : RE} {σ : L2.St}
/-- a part's reading, from the whole's -/
theorem useE {B : Type} {f : RE → Rr} {k : RV → Res B} {P : B → Hp → Hp → Prop} (m : MonoP P) (hs : Same F H) (hr : RelR K F r σ) (h : PR W cl σ ((f r).bind k) P F H) {Q : VK}
    (hq : ∀ x v F' H', Same F' H' → RelR K F' r σ → Grow F H F' H' → Rp K F' x.d v → PR W cl σ (k x) P F' H' → Q v H') : canE K W cl f σ H Q := by
  refine ⟨r, F, hs, hr, ?_⟩
  have h2 := PR.bind h
  cases e : f r with
  | ok x =>
    rw [e] at h2
    exact PV.use fun v F' H' g q => hq x v F' H' g.fh (hr.mono g.ff) g q (PR.mono m g h2)
  | exc c => rw [e] at h2; exact h2
  | fail => rw [e] at h2; exact h2
theorem useA {B : Type} {f : RE → Res (List PyData)} {k : List PyData → Res B} {P : B → Hp → Hp → Prop} (m : MonoP P) (hs : Same F H) (hr : RelR K F r σ) (h : PR W cl σ ((f r).bind k) P F H) {Q : List V → Hp → Prop}
    (hq : ∀ ds vs F' H', Same F' H' → RelR K F' r σ → Grow F H F' H' → Rps K F' ds vs → PR W cl σ (k ds) P F' H' → Q vs H') : canA K W cl f σ H Q := by
  refine ⟨r, F, hs, hr, ?_⟩
  have h2 := PR.bind h
  cases e : f r with
  | ok x =>
    rw [e] at h2
    exact fun v F' H' g q => hq x v F' H' g.fh (hr.mono g.ff) g q (PR.mono m g h2)
  | exc c => rw [e] at h2; exact h2
  | fail => rw [e] at h2; exact h2
theorem useB {A B : Type} {f : RE → Res A} {k : A → Res B} {P : B → Hp → Hp → Prop} (m : MonoP P) (hs : Same F H) (hr : RelR K F r σ) (h : PR W cl σ ((f r).bind k) P F H) {Q : A → Hp → Prop}
    (hq : ∀ a F' H', Same F' H' → RelR K F' r σ → Grow F H F' H' → PR W cl σ (k a) P F' H' → Q a H') : canX K W cl PB f σ H Q := by
  refine ⟨r, F, hs, hr, ?_⟩
  have h2 := PR.bind h
  cases e : f r with
  | ok x =>
    rw [e] at h2
    exact fun F' H' g => hq x F' H' g.fh (hr.mono g.ff) g (PR.mono m g h2)
  | exc c => rw [e] at h2; exact h2
  | fail => rw [e] at h2; exact h2
end
section
variable {X : Cx}
theorem PE_weak {e : Expr} {t t' : TE} (h : PE X e t) (w : ∀ σ H Q, t' σ H Q → t σ H Q) : PE X e t' := ⟨fun pins s σ H Q I q => h.run pins s σ H Q I (w σ H Q q)⟩
theorem PT_weak {e : Expr} {t t' : TT} (h : PT X e t) (w : ∀ σ H Q, t' σ H Q → t σ H Q) : PT X e t' := ⟨fun pins s σ H Q I q => h.run pins s σ H Q I (w σ H Q q)⟩
theorem PW_weak {e : Expr} {t t' : TT} (h : PW X e t) (w : ∀ σ H Q, t' σ H Q → t σ H Q) : PW X e t' := ⟨fun wh pins s σ H Q I q => h.run wh pins s σ H Q I (w σ H Q q)⟩
theorem PA_weak {e : List Expr} {t t' : TA} (h : PA X e t) (w : ∀ σ H Q, t' σ H Q → t σ H Q) : PA X e t' := ⟨fun p pins s σ H Q I q => h.run p pins s σ H Q I (w σ H Q q)⟩
theorem PI_weak {tg e : Expr} {t t' : TI} (h : PI X tg e t) (w : ∀ σ H Q, t' σ H Q → t σ H Q) : PI X tg e t' := ⟨fun pins s σ H Q I q => h.run pins s σ H Q I (w σ H Q q)⟩
theorem PO_weak {e : Option Expr} {t t' : TO} (h : PO X e t) (w : ∀ σ H Q, t' σ H Q → t σ H Q) : PO X e t' := ⟨fun pins s σ H Q I q => h.run pins s σ H Q I (w σ H Q q)⟩
theorem PS_weak {e : Stmt} {t t' : TS} (h : PS X e t) (w : ∀ D σ H, t' D σ H → t D σ H) : PS X e t' := ⟨fun pins s σ H D I q => h.run pins s σ H D I (w D σ H q)⟩
theorem PI_or {tg e : Expr} {t t' : TI} (h : PI X tg e t) (h' : PI X tg e t') : PI X tg e (fun σ H R => t σ H R ∨ t' σ H R) := ⟨fun pins s σ H R I q => q.elim (h.run pins s σ H R I) (h'.run pins s σ H R I)⟩
/-- a reading whose answer is a truth, as a test -/
theorem PT_of {e : Expr} {W : WX} {cl : Nat → Value} {f : RE → Rr} (h : PE X e (canE X.K W cl f)) (he : ∀ whole, isTrue e X.env whole = (do let v ← whole; standAt e.pos; holding [v] (truthy v))) : PT X e (canT X.K W cl fun r => asB (f r)) :=
  PT_weak (pt_val h he) fun σ H Q ⟨r, F, hs, hr, q⟩ => by
    have q' : PR W cl σ (asB (f r)) (PB Q) F H := q
    refine ⟨r, F, hs, hr, ?_⟩
    cases e1 : f r with
    | ok x =>
      rw [e1] at q'
      cases x with
      | val d =>
        cases d with
        | bool b =>
          intro v F' H' g rp
          cases rp
          exact ⟨b, rfl, q' F' H' g⟩
        | _ => exact False.elim q'
      | own l => exact False.elim q'
    | exc c => rw [e1] at q'; exact q'
    | fail => rw [e1] at q'; exact q'
end
end PX
namespace PXRV
open PySem PySem.Spec PyProof.Rows RT
section
variable {prog : Program} {w : World} {A : Around} {E : Value → Shared → Prop} {s : Shared}
theorem extend_rev {R : Result → Shared → Prop} {it l : Addr} {items : Array Value} (hh : A.handled = none) (hit : s.heap.IsRevIter it l ((items.size : Int) - 1)) (hl : s.heap.IsList l items) (hne : l ≠ it) (hn : items.size ≤ sizeLine)
    (S : Addr) (res : Value) (c₀ : Nat) (hS : s.heap.get? S = some { cls := .type "list", data := .seq #[] c₀ }) (hSi : S ≠ it) (hSl : S ≠ l)
    (hR : ∀ h' tk acc' c', (∀ b o, b ≠ S → b ≠ it → s.heap.get? b = some o → h'.get? b = some o) → h'.get? S = some { cls := .type "list", dict := none, data := .seq acc' c', slots := #[] } →
      ItemsOf (fun i v => items[items.size - 1 - i]? = some v) acc' items.size → R (.ok (.ret res)) { s with heap := h', toks := tk }) :
    wpAny (model prog w) A.in1 (Builtin.List.listExtendWith (.ref S) (.ref it) res)
      (fun fin s' => match fin with | .done f => R (.ok f) s' | .again c' => c'.quiet = true ∧ codeAny (model prog w) A c' R s') (fun e s' => R (.error e) s') s := by
  have W := (Walks.listRev (prog := prog) (w := w) (A := A.in1) hh it l hne items).toS
  have hSf : S ∉ [it, l] := by simp only [List.mem_cons, List.not_mem_nil, or_false, not_or]; exact ⟨hSi, hSl⟩
  have hT : s.TypeIs (.ref it) "list_reverseiterator" := hit.typeIs
  have h1 : Builtin.List.listSameRef (.ref S) (.ref it) = false := by simp [Builtin.List.listSameRef, hSi]
  unfold Builtin.List.listExtendWith
  refine wpAny_bind (wpAny_typeOf hT ?_)
  rw [if_neg (by rw [h1]; decide)]
  refine wpAny_bind (wpAny_pyIter_revIter hit ?_)
  refine wpAny_bind (wpAny_holding ?_)
  unfold Builtin.List.listLengthHint
  refine wpAny_bind (wpAny_specialOf hT nolen_lri ?_)
  show wpAny _ _ (specialOf (Value.ref it) (Str.ofString "__length_hint__") >>= _) _ _ _
  refine wpAny_bind (wpAny_specialOf hT hint_lri ?_)
  generalize hid : ("list_reverseiterator.__length_hint__" : String) = id0
  wp_delta
  rw [show splitId id0 = some ("list_reverseiterator", "__length_hint__") from by subst hid; decide +kernel]
  subst hid
  refine wpAny_bind (wpAny_isInstance (b := true) hT (by rw [isSubtype_type]; kernel_rfl) ?_)
  refine wpAny_pure ?_
  rw [if_neg (by decide)]
  have e0 : ((items.size : Nat) : Int) - 1 - ((0 : Nat) : Int) = (items.size : Int) - 1 := by omega
  refine wpAny_pure ⟨plainId_quiet F.plain_extend_loop _, codeAny_extend_loopS W hn _ hSf _ items.size 0 _ _ _ rfl (Nat.zero_le _) ⟨Nat.zero_le _, by rw [e0]; exact hit, hl⟩ hS (ItemsOf.nil _) fun s' acc' c' hm hS' hacc => ?_⟩
  rw [Moved.eq_with hm]
  refine hR s'.heap s'.toks acc' c' (fun b o hb hbi e => hm.heap b o (fun hmem => ?_) e) hS' hacc
  rcases List.mem_cons.mp hmem with e' | hmem
  · exact hb e'
  · exact hbi (List.mem_singleton.mp hmem)
theorem list_init_rev {R : Result → Shared → Prop} {it l : Addr} {items : Array Value} (hh : A.handled = none) (hit : s.heap.IsRevIter it l ((items.size : Int) - 1)) (hl : s.heap.IsList l items) (hne : l ≠ it) (hn : items.size ≤ sizeLine)
    (S : Addr) (hS : s.heap.get? S = some { cls := .type "list", data := .seq #[] }) (hSi : S ≠ it) (hSl : S ≠ l)
    (hR : ∀ h' tk acc' c', (∀ b o, b ≠ S → b ≠ it → s.heap.get? b = some o → h'.get? b = some o) → h'.get? S = some { cls := .type "list", dict := none, data := .seq acc' c', slots := #[] } →
      ItemsOf (fun i v => items[items.size - 1 - i]? = some v) acc' items.size → R (.ok (.ret .none)) { s with heap := h', toks := tk }) :
    wpAny (model prog w) A.in1 (Builtin.«list.__init__» ⟨[.ref S, .ref it], []⟩)
      (fun fin s' => match fin with | .done f => R (.ok f) s' | .again c' => c'.quiet = true ∧ codeAny (model prog w) A c' R s') (fun e s' => R (.error e) s') s := by
  show wpAny _ _ (do let old ← Builtin.List.listItems (.ref S); Builtin.List.listUpdate (.ref S) (fun _ => #[]); letGo old.toList.reverse; Builtin.List.listExtendWith (.ref S) (.ref it) .none) _ _ s
  refine wpAny_bind ?_
  unfold Builtin.List.listItems
  refine wpAny_bind (wpAny_seqItems hS rfl (wpAny_pure ?_))
  show wpAny _ _ (updateSeq S (fun _ => #[]) >>= fun _ => letGo (#[] : Array Value).toList.reverse >>= fun _ => Builtin.List.listExtendWith (.ref S) (.ref it) .none) _ _ s
  refine wpAny_bind (wpAny_updateSeq hS rfl ?_)
  have hS₂ := Heap.get?_update_self (Obj.mapSeq (fun _ => (#[] : Array Value))) hS rfl
  have oth : ∀ b o, b ≠ S → s.heap.get? b = some o → (s.heap.update S (Obj.mapSeq (fun _ => (#[] : Array Value)))).get? b = some o :=
    fun b o hb e => (Heap.get?_update_other _ _ (Ne.symm hb)).trans e
  have hit2 : (s.heap.update S (Obj.mapSeq (fun _ => (#[] : Array Value)))).IsRevIter it l ((items.size : Int) - 1) := hit.at fun o e => oth _ _ (Ne.symm hSi) e
  have hl2 : (s.heap.update S (Obj.mapSeq (fun _ => (#[] : Array Value)))).IsList l items := by
    obtain ⟨o, ho, r⟩ := hl
    exact ⟨o, oth _ _ (Ne.symm hSl) ho, r⟩
  refine wpAny_bind (wpAny_letGo ?_)
  refine extend_rev hh hit2 hl2 hne hn S .none _ hS₂ hSi hSl fun h' tk acc' c' hk hS' hacc => ?_
  exact hR h' tk acc' c' (fun b o hb hbi e => hk b o hb hbi (oth b o hb e)) hS' hacc
theorem call_list_rev {Q : Value → Shared → Prop} {it l : Addr} {items : Array Value} (hh : A.handled = none) (hit : s.heap.IsRevIter it l ((items.size : Int) - 1)) (hl : s.heap.IsList l items) (hne : l ≠ it) (hn : items.size ≤ sizeLine)
    (hQ : ∀ h' tk acc' c', (∀ b o, b ≠ it → s.heap.get? b = some o → h'.get? b = some o) →
      h'.get? s.heap.objs.size = some { cls := .type "list", dict := none, data := .seq acc' c', slots := #[] } → ItemsOf (fun i v => items[items.size - 1 - i]? = some v) acc' items.size → Q (.ref s.heap.objs.size) { s with heap := h', toks := tk }) :
    wpAny (model prog w) A (call (.type "list") [.ref it]) Q E s := by
  obtain ⟨oi, hoi, _⟩ := id hit
  obtain ⟨ol, hol, _⟩ := id hl
  have hSi : s.heap.objs.size ≠ it := Nat.ne_of_gt (Heap.lt_size hoi)
  have hSl : s.heap.objs.size ≠ l := Nat.ne_of_gt (Heap.lt_size hol)
  refine callType_codes (Q₁ := fun obj s₁ => obj = .ref s.heap.objs.size ∧ s₁ = { s with heap := s.heap.push { cls := .type "list", data := .seq #[] } }) F.called_list (F.typeCall_list_1 _) F.entry_list_init
    (code_list_new _ ⟨rfl, rfl⟩) fun obj s₁ h₁ => ?_
  obtain ⟨rfl, rfl⟩ := h₁
  have hS : (s.heap.push { cls := .type "list", data := .seq #[] }).get? s.heap.objs.size = some { cls := .type "list", data := .seq #[] } := Heap.get?_push_size _ rfl
  have hit1 : (s.heap.push { cls := .type "list", data := .seq #[] }).IsRevIter it l ((items.size : Int) - 1) := hit.at fun o e => Heap.get?_push_of_some _ e
  refine ⟨⟨_, hS, rfl⟩, F.args_list_init_2 _ _, list_init_rev (A := A.in1) hh hit1 (hl.push _) hne hn _ hS hSi hSl fun h' tk acc' c' hk hS' hacc => ?_⟩
  exact ⟨rfl, hQ h' tk acc' c' (fun b o hb e => hk b o (Nat.ne_of_lt (Heap.lt_size e)) hb (Heap.get?_push_of_some _ e)) hS' hacc⟩
end
end PXRV
namespace L2
open PySem PySem.Spec PyProof.Rows RT
/-- list(reversed(x)), x a list: a new list -/
def tLstRev (K : PySem.W.Frag) (te : TE) : TE := fun σ H Q => te σ H fun v H1 => ∃ (a : Addr) (xs : List V), v = .ref a ∧ SqL K H1 a xs ∧ ∀ q, H1 q = none → Q (.ref q) (upd H1 q (.lst xs.reverse))
theorem vals_revL {xs : List V} {its : List Value} {acc : Array Value} (r : Vals xs its) (h : ItemsOf (fun i v => its.toArray[its.toArray.size - 1 - i]? = some v) acc its.toArray.size) : Vals xs.reverse acc.toList := by
  have hs : its.toArray.size = its.length := List.size_toArray
  have hl : acc.toList.length = its.length := by rw [Array.length_toList, h.1, hs]
  have e : acc.toList = its.reverse := by
    apply List.ext_getElem?
    intro j
    by_cases hj : j < its.length
    · have hja : j < acc.toList.length := by omega
      have e1 : acc.toList[j]? = some acc.toList[j] := List.getElem?_eq_getElem hja
      have e2 : its.toArray[its.toArray.size - 1 - j]? = some acc.toList[j] := h.2 j _ (by rw [← Array.getElem?_toList]; exact e1)
      rw [e1, List.getElem?_reverse hj, ← e2, hs] <;> simp
    · rw [List.getElem?_eq_none (by omega), List.getElem?_eq_none (by rw [List.length_reverse]; omega)]
  rw [e]
  exact r.reverse
theorem pe_listRev {X : Cx} {e : Expr} {te : TE} {p p2 pos pos2 : Pos} (hc : X.calm = true) (hg : Gl X "list") (hm : X.mg "list" = none) (hg2 : Gl X "reversed") (hm2 : X.mg "reversed" = none) (he : PE X e te)
    (hs : starEach [e] X.env = (false, eval e X.env) :: starEach [] X.env := by rfl)
    (hs2 : starEach [.Call (.Name "reversed" p2) [e] [] pos2] X.env = (false, eval (.Call (.Name "reversed" p2) [e] [] pos2) X.env) :: starEach [] X.env := by rfl) :
    PE X (.Call (.Name "list" p) [.Call (.Name "reversed" p2) [e] [] pos2] [] pos) (tLstRev X.K te) := by
  refine ⟨fun pins s σ H Q I h => ?_⟩
  refine Call_ (ld_blt I hg hm boot_list (PyProof.Rows.callWith_type1 (args_cons (Call_ (ld_blt I hg2 hm2 PyProof.Rows.boot_reversed (PyProof.Rows.callWith_type1 (args_cons (thn (he.run pins s σ H _ I h) fun u s1 ⟨v, H1, I1, r1, q1⟩ => args_nil ?_) hs) hs rfl))) hs2) hs2))
  obtain ⟨a, xs, ev, hq, q⟩ := q1
  subst ev
  obtain rfl : u = Value.ref a := r1
  obtain ⟨its, rv, p', hz⟩ := I1.list hq
  refine call_reversed_list p'.isList (args_nil ?_)
  have k0 : ∀ b o, s1.heap.get? b = some o → (s1.heap.push (revObj a ((its.toArray.size : Int) - 1))).get? b = some o := fun b o e => Heap.get?_push_of_some _ e
  have I2 : Inv X pins σ H1 { s1 with heap := s1.heap.push (revObj a ((its.toArray.size : Int) - 1)) } := I1.kept (t' := s1.toks) k0
  have fp : FpOk X pins H1 s1.heap.objs.size := I1.fpOk (H' := H1) (b := s1.heap.objs.size) (Nat.le_refl _) (I1.hok.fresh (Nat.le_refl _))
  have hl := p'.isList
  obtain ⟨ol, hol, _⟩ := id hl
  have hne : a ≠ s1.heap.objs.size := Nat.ne_of_lt (Heap.lt_size hol)
  have hn : its.toArray.size ≤ sizeLine := by rw [List.size_toArray, ← rv.length]; exact hz
  refine PXRV.call_list_rev (s := { s1 with heap := s1.heap.push (revObj a ((its.toArray.size : Int) - 1)) }) (I1.ok.hd hc) ⟨_, Heap.get?_push_size _ rfl, rfl, rfl⟩ (hl.push _) hne hn fun h' tk acc c' hk e' hi => ?_
  refine ⟨.ref (s1.heap.push (revObj a ((its.toArray.size : Int) - 1))).objs.size, upd H1 (s1.heap.push (revObj a ((its.toArray.size : Int) - 1))).objs.size (.lst xs.reverse), I2.turnedNew (t' := tk) (ch := [s1.heap.objs.size]) (fun b o hb e => hk b o (fun z => hb (by rw [z]; exact List.mem_singleton.mpr rfl)) e) (fun b hb => by rw [List.mem_singleton.mp hb]; exact fp) (Nat.le_refl _) (show ObjOk X.prog X.w _ _ _ (.lst xs.reverse) from ⟨by rw [List.length_reverse]; exact hz, acc.toList, c', vals_revL rv hi, ?_⟩), rfl, q _ (I2.hok.fresh (Nat.le_refl _))⟩
  rw [Array.toArray_toList]
  exact e'
end L2

/-! PX6: each form of expression keeps to the evaluator. -/
namespace PX
open PySem PySem.Spec PyProof.Rows L2

def dV : PyData → V
  | .bool b => .bl b
  | .int i => .int i
  | .str x => .str x
  | _ => .non
theorem dV_rp {K : PySem.W.Frag} {F : Hp} {d : PyData} (h : scalD d = true) : Rp K F d (dV d) := by
  cases d <;> first | exact .non | exact .bl _ | exact .int _ | exact .str _ | cases h
/-- what a def promises, by what its text tells of data -/
def PC (K : PySem.W.Frag) (cl : Nat → Value) (r : Rr) (Q : VK) (E : XK) (F H : Hp) : Prop := PR (fun c d _ H => E c d H) cl [] r (PV K Q) F H
def spD (K : PySem.W.Frag) (cl : Nat → Value) (f : List PyData → Rr) (n : Nat) : Sp := fun vs H Q E => vs.length = n ∧ ∃ ds F, Same F H ∧ Rps K F ds vs ∧ PC K cl (f ds) Q E F H

def cutH (H : Hp) (a : Addr) : Hp := fun b => if b = a then none else H b
theorem cutH_ne {H : Hp} {a b : Addr} (h : b ≠ a) : cutH H a b = H b := if_neg h
theorem cutH_same {H : Hp} {a : Addr} : cutH H a a = none := if_pos rfl
/-- .. that writes into the list handed in first -/
def spIO (K : PySem.W.Frag) (f : List PyData → Rr) (n : Nat) : Sp := fun vs H Q E => vs.length = n ∧ ∃ a us ws l ds F l', vs = .ref a :: us ∧ H a = some (.lst ws) ∧ F a = none ∧ Same F H ∧ Rps K F l ws ∧ Rps K F ds us ∧ f (.list l :: ds) = .ok (.val (.list l')) ∧
  ∀ F' H' ws', Grow F (cutH H a) F' H' → F' a = none → H' a = some (.lst ws') → Rps K F' l' ws' → Q .non H'
/-- a number of parameters from 1000 on tells such a def -/
def spF (K : PySem.W.Frag) (cl : Nat → Value) (f : List PyData → Rr) (np : Nat) : Sp := if np < 1000 then spD K cl f np else spIO K f (np - 1000)
theorem spF_d {K : PySem.W.Frag} {cl : Nat → Value} {f : List PyData → Rr} {np : Nat} (h : np < 1000) : spF K cl f np = spD K cl f np := if_pos h
theorem spF_io {K : PySem.W.Frag} {cl : Nat → Value} {f : List PyData → Rr} {n : Nat} : spF K cl f (n + 1000) = spIO K f n := by
  unfold spF
  rw [if_neg (by omega), Nat.add_sub_cancel]

section
variable {X : Cx} {W : WX} {cl : Nat → Value} {a b c : Expr} {es : List Expr} {pos : Pos} {fa fb fc : RE → Rr}

theorem c_var {i : Nat} {x : Str} (hN : X.N[i]? = some x) (hv : Vis X.env.scope x) (hd : (x == ("__debug__" : Str)) = false) (hcd : (x == ("__classdict__" : Str)) = false) :
    PE X (.Name x pos) (canE X.K W cl fun r => rdV r[i]?) := PE_weak (pe_var hN hv hd hcd) fun σ H Q ⟨r, F, hs, hr, q⟩ => by
  dsimp only at q
  cases e : r[i]? with
  | none => rw [e] at q; exact False.elim q
  | some o =>
    rw [e] at q
    cases o with
    | none => exact False.elim q
    | some d =>
      obtain ⟨v, h1, h2⟩ := hr.2 i d e
      exact ⟨v, h1, PV.now q hs h2⟩
theorem c_con {d : PyData} {v : V} (h : PE X a (tC v)) (r : ∀ F, Rp X.K F d v) : PE X a (canE X.K W cl fun _ => .ok (.val d)) := PE_weak h fun σ H Q ⟨r', F, hs, hr, q⟩ => PV.now q hs (r F)
theorem c_bop {o : Bop} (ha : PE X a (canE X.K W cl fa)) (hb : PE X b (canE X.K W cl fb)) : PE X (.BinOp a o.op b pos) (canE X.K W cl fun r => vof (fa r) fun x => vof (fb r) fun y => ofO (bop o x y)) :=
  PE_weak (pe_op (op_bop o) ha hb) fun σ H Q ⟨r, F, hs, hr, q⟩ => useE PV.monoP hs hr q fun x v F1 H1 s1 r1 g1 p1 q1 => useE PV.monoP s1 r1 q1 fun y u F2 H2 s2 r2 g2 p2 q2 =>
    ⟨F2, x.d, y.d, s2, Rp.mono g2.ff _ _ p1, p2, PR.ofO q2⟩
theorem c_cmp {o : Cop} (hu : X.A.units + 64 < cLine) (ha : PE X a (canE X.K W cl fa)) (hb : PE X b (canE X.K W cl fb)) (hm : behindInMarks o.op b = false) : PE X (.Compare a [o.op] [b] pos) (canE X.K W cl fun r => vof (fa r) fun x => vof (fb r) fun y => ofO (cop o x y)) :=
  PE_weak (pe_cmpR (op_cop hu o) ha hb hm) fun σ H Q ⟨r, F, hs, hr, q⟩ => useE PV.monoP hs hr q fun x v F1 H1 s1 r1 g1 p1 q1 => useE PV.monoP s1 r1 q1 fun y u F2 H2 s2 r2 g2 p2 q2 =>
    ⟨F2, x.d, y.d, s2, Rp.mono g2.ff _ _ p1, p2, PR.ofO q2⟩
theorem cop_bool {o : Cop} {d e : PyData} {x : RV} (h : cop o d e = some x) : ∃ b, x = .val (.bool b) := by
  have go : ∀ (p : Prop) [Decidable p] (b : Bool), (if p then rbool b else none) = some x → ∃ b, x = .val (.bool b) := fun p _ b q => by
    by_cases hp : p
    · rw [if_pos hp] at q
      exact ⟨b, (Option.some.inj q).symm⟩
    · rw [if_neg hp] at q
      cases q
  have ok : ∀ b : Bool, rbool b = some x → ∃ b, x = .val (.bool b) := fun b q => ⟨b, (Option.some.inj q).symm⟩
  cases o
  case eq => exact go _ _ h
  case ne => exact go _ _ h
  case inn =>
    cases e
    case str z =>
      cases d <;> try exact no_of (show (none : Ro) = some _ from h)
      rename_i y
      have h : (match y.cps.toList with
        | [c] => rbool (decide (c ∈ z.cps.toList))
        | _ => none) = some x := h
      split at h
      · exact ok _ h
      · cases h
    case list l => rw [cop_in_lst] at h; exact go _ _ h
    case tuple l => rw [cop_in_tup] at h; exact go _ _ h
    case dict es =>
      have h : ((inD d es).bind fun b => rbool (b)) = some x := by
        cases d <;> exact h
      cases e3 : inD d es with
      | none => rw [e3] at h; cases h
      | some b => rw [e3] at h; exact ok _ h
    all_goals cases d <;> exact no_of (show (none : Ro) = some _ from h)
  case nin =>
    cases e
    case str z =>
      cases d <;> try exact no_of (show (none : Ro) = some _ from h)
      rename_i y
      have h : (match y.cps.toList with
        | [c] => rbool (!decide (c ∈ z.cps.toList))
        | _ => none) = some x := h
      split at h
      · exact ok _ h
      · cases h
    case list l => rw [cop_nin_lst] at h; exact go _ _ h
    case tuple l => rw [cop_nin_tup] at h; exact go _ _ h
    case dict es =>
      have h : ((inD d es).bind fun b => rbool (!b)) = some x := by
        cases d <;> exact h
      cases e3 : inD d es with
      | none => rw [e3] at h; cases h
      | some b => rw [e3] at h; exact ok _ h
    all_goals cases d <;> exact no_of (show (none : Ro) = some _ from h)
  all_goals cases d <;> cases e <;> first | exact ok _ h | exact no_of (show (none : Ro) = some _ from h)
theorem c_cmpT {o : Cop} (hu : X.A.units + 64 < cLine) (ha : PE X a (canE X.K W cl fa)) (hb : PE X b (canE X.K W cl fb)) (hm : behindInMarks o.op b = false) : PT X (.Compare a [o.op] [b] pos) (canT X.K W cl fun r => asB (vof (fa r) fun x => vof (fb r) fun y => ofO (cop o x y))) :=
  PT_weak (pt_cmpR (op_cop hu o) ha hb hm) fun σ H Q ⟨r, F, hs, hr, q⟩ => by
    dsimp only at q
    have q' : PR W cl σ ((fa r).bind fun x => (fb r).bind fun y => asB (ofO (cop o x.d y.d))) (PB Q) F H := by
      cases e1 : fa r <;> rw [e1] at q <;> try exact q
      rename_i x
      show PR W cl σ ((fb r).bind fun y => asB (ofO (cop o x.d y.d))) (PB Q) F H
      have q : PR W cl σ (asB ((fb r).bind fun y => ofO (cop o x.d y.d))) (PB Q) F H := q
      cases e2 : fb r <;> rw [e2] at q <;> exact q
    refine useE PB.monoP hs hr q' fun x v F1 H1 s1 r1 g1 p1 q1 => useE PB.monoP s1 r1 q1 fun y u F2 H2 s2 r2 g2 p2 q2 => ⟨F2, x.d, y.d, s2, Rp.mono g2.ff _ _ p1, p2, ?_⟩
    cases e : cop o x.d y.d with
    | none => rw [e] at q2; exact False.elim q2
    | some z =>
      rw [e] at q2
      obtain ⟨b, rfl⟩ := cop_bool e
      intro v' F' H' g rp
      cases rp
      exact ⟨b, rfl, q2 F' H' g⟩
theorem c_neg (ha : PE X a (canE X.K W cl fa)) : PE X (.UnaryOp .USub a pos) (canE X.K W cl fun r => vof (fa r) fun x => ofO (negD x)) :=
  PE_weak (pe_un un_neg ha) fun σ H Q ⟨r, F, hs, hr, q⟩ => useE PV.monoP hs hr q fun x v F1 H1 s1 r1 g1 p1 q1 => by
    have q2 := PR.ofO q1
    cases e : x.d <;> rw [e] at p1 q2 <;> try exact False.elim q2
    cases p1
    exact ⟨_, rfl, PV.now q2 s1 (.int _)⟩
theorem c_not (h : PT X a (canT X.K W cl fun r => asB (fa r))) : PT X (.UnaryOp .Not a pos) (canT X.K W cl fun r => asB (vof (fa r) fun x => ofO (notD x))) :=
  PT_weak (pt_not h) fun σ H Q ⟨r, F, hs, hr, q⟩ => by
    dsimp only at q
    refine ⟨r, F, hs, hr, ?_⟩
    show PR W cl σ (asB (fa r)) _ F H
    cases e : fa r with
    | ok x =>
      rw [e] at q
      have q : PR W cl σ (asB (ofO (notD x.d))) (PB Q) F H := q
      cases x with
      | val d => cases d <;> exact q
      | own l => exact q
    | exc c => rw [e] at q; exact q
    | fail => rw [e] at q; exact q
theorem c_notV (h : PE X a (canE X.K W cl fa)) : PE X (.UnaryOp .Not a pos) (canE X.K W cl fun r => vof (fa r) fun x => ofO (notD x)) :=
  PE_weak (pe_not h) fun σ H Q ⟨r, F, hs, hr, q⟩ => useE PV.monoP hs hr q fun x v F1 H1 s1 r1 g1 p1 q1 => by
    have q2 := PR.ofO q1
    cases e : x.d <;> rw [e] at p1 q2 <;> try exact False.elim q2
    cases p1
    exact ⟨_, rfl, PV.now q2 s1 (.bl _)⟩
theorem c_nil : PA X [] (canA X.K W cl fun _ => .ok []) := PA_weak pa_nil fun σ H Q ⟨r, F, hs, hr, q⟩ => q [] F H (Grow.refl hs) .nil
theorem c_cons {fs : RE → Res (List PyData)} (ha : PE X a (canE X.K W cl fa)) (hr : PA X es (canA X.K W cl fs)) (hs : starEach (a :: es) X.env = (false, eval a X.env) :: starEach es X.env) :
    PA X (a :: es) (canA X.K W cl fun r => (fa r).bind fun x => (fs r).bind fun l => .ok (x.d :: l)) :=
  PA_weak (pa_cons ha hr hs) fun σ H Q ⟨r, F, hs, hr, q⟩ => useE PL.monoP hs hr q fun x v F1 H1 s1 r1 g1 p1 q1 => useA PL.monoP s1 r1 q1 fun ds vs F2 H2 s2 r2 g2 p2 q2 =>
    q2 _ F2 H2 (Grow.refl s2) (.cons (Rp.mono g2.ff _ _ p1) p2)
theorem c_tup {fs : RE → Res (List PyData)} {k : Nat} (h : PA X es (canA X.K W cl fs)) : PE X (.Tuple es k pos) (canE X.K W cl fun r => (fs r).bind fun ds => if lineB ds.length = true then .ok (.val (.tuple ds)) else .fail) :=
  PE_weak (pe_tup h) fun σ H Q ⟨r, F, hs, hr, q⟩ => useA PV.monoP hs hr q fun ds vs F2 H2 s2 r2 g2 p2 q2 => by
    by_cases hz : lineB ds.length = true
    · rw [if_pos hz] at q2
      exact ⟨by rw [← p2.len]; exact lineB_ok hz, fun p hp => PV.newT q2 s2 p2 hp⟩
    · rw [if_neg hz] at q2
      exact False.elim q2
theorem c_lst {fs : RE → Res (List PyData)} (h : PA X es (canA X.K W cl fs)) : PE X (.List es pos) (canE X.K W cl fun r => (fs r).bind fun ds => if lineB ds.length = true then .ok (.own ds) else .fail) :=
  PE_weak (pe_lst h) fun σ H Q ⟨r, F, hs, hr, q⟩ => useA PV.monoP hs hr q fun ds vs F2 H2 s2 r2 g2 p2 q2 => by
    by_cases hz : lineB ds.length = true
    · rw [if_pos hz] at q2
      exact ⟨by rw [← p2.len]; exact lineB_ok hz, fun p hp => PV.newL q2 s2 p2 hp⟩
    · rw [if_neg hz] at q2
      exact False.elim q2
theorem c_rep {fs : RE → Res (List PyData)} {p2 : Pos} (h : PA X es (canA X.K W cl fs)) (hb : PE X b (canE X.K W cl fb)) : PE X (.BinOp (.List es p2) .Mult b pos) (canE X.K W cl fun r => (fs r).bind fun ds => if lineB ds.length = true then vof (fb r) fun x => ofO (repD ds x) else .fail) :=
  PE_weak (pe_op op_rep (pe_lst h) hb) fun σ H Q ⟨r, F, hs, hr, q⟩ => useA PV.monoP hs hr q fun ds vs F1 H1 s1 r1 g1 p1 q1 => by
    by_cases hz : lineB ds.length = true
    · rw [if_pos hz] at q1
      refine ⟨by rw [← p1.len]; exact lineB_ok hz, fun p hp => ?_⟩
      have g2 : Grow F1 H1 F1 (upd H1 p (.lst vs)) := Grow.aside s1 hp
      refine useE PV.monoP g2.fh r1 (PR.mono PV.monoP g2 q1) fun y u F3 H3 s3 r3 g3 p3 q3 => ?_
      have q4 := PR.ofO q3
      cases e : y.d <;> rw [e] at p3 q4 <;> try exact False.elim q4
      cases p3
      rename_i k
      by_cases hk : (lineB (ds.length * k.toNat) && decide (-9223372036854775808 ≤ k) && decide (k < 9223372036854775808)) = true
      · rw [show repD ds (.int k) = _ from if_pos hk] at q4
        simp only [Bool.and_eq_true, decide_eq_true_eq] at hk
        refine ⟨p, k, vs, rfl, rfl, g3.hh _ _ upd_same, by omega, by omega, by rw [← p1.len]; exact lineB_ok hk.1.1, fun p' hp' => ?_⟩
        exact PV.newL q4 s3 ((Rps.mono g3.ff _ _ p1).rep _) hp'
      · rw [show repD ds (.int k) = none from if_neg hk] at q4
        exact False.elim q4
    · rw [if_neg hz] at q1
      exact False.elim q1
/-! ### and, or -/
def andK (k : Rr) : PyData → Rr
  | .bool true => k
  | .bool false => .ok (.val (.bool false))
  | _ => .fail
def orK (k : Rr) : PyData → Rr
  | .bool true => .ok (.val (.bool true))
  | .bool false => k
  | _ => .fail
theorem c_and {rest : List Expr} (ha : PE X a (canE X.K W cl fa)) (hb : PE X (.BoolOp .And (b :: rest) pos) (canE X.K W cl fb)) : PE X (.BoolOp .And (a :: b :: rest) pos) (canE X.K W cl fun r => vof (fa r) fun x => andK (fb r) x) :=
  PE_weak (pe_and ha hb) fun σ H Q ⟨r, F, hs, hr, q⟩ => useE PV.monoP hs hr q fun x v F1 H1 s1 r1 g1 p1 q1 => by
    cases e : x.d <;> rw [e] at p1 q1 <;> try exact False.elim q1
    cases p1
    rename_i t
    cases t
    · exact ⟨false, rfl, PV.now q1 s1 (.bl _)⟩
    · exact ⟨true, rfl, ⟨r, F1, s1, r1, q1⟩⟩
theorem c_or {rest : List Expr} (ha : PE X a (canE X.K W cl fa)) (hb : PE X (.BoolOp .Or (b :: rest) pos) (canE X.K W cl fb)) : PE X (.BoolOp .Or (a :: b :: rest) pos) (canE X.K W cl fun r => vof (fa r) fun x => orK (fb r) x) :=
  PE_weak (pe_or ha hb) fun σ H Q ⟨r, F, hs, hr, q⟩ => useE PV.monoP hs hr q fun x v F1 H1 s1 r1 g1 p1 q1 => by
    cases e : x.d <;> rw [e] at p1 q1 <;> try exact False.elim q1
    cases p1
    rename_i t
    cases t
    · exact ⟨false, rfl, ⟨r, F1, s1, r1, q1⟩⟩
    · exact ⟨true, rfl, PV.now q1 s1 (.bl _)⟩
theorem asB_and {u : Rr} {x : RV} {P : Bool → Hp → Hp → Prop} {σ : L2.St} {F H : Hp} (q : PR W cl σ (asB (andK u x.d)) P F H) : ∃ t, x = .val (.bool t) ∧ if t = true then PR W cl σ (asB u) P F H else P false F H := by
  cases x with
  | val d =>
    cases d <;> try exact False.elim q
    rename_i t
    cases t
    · exact ⟨false, rfl, q⟩
    · exact ⟨true, rfl, q⟩
  | own l => exact False.elim q
theorem asB_or {u : Rr} {x : RV} {P : Bool → Hp → Hp → Prop} {σ : L2.St} {F H : Hp} (q : PR W cl σ (asB (orK u x.d)) P F H) : ∃ t, x = .val (.bool t) ∧ if t = true then P true F H else PR W cl σ (asB u) P F H := by
  cases x with
  | val d =>
    cases d <;> try exact False.elim q
    rename_i t
    cases t
    · exact ⟨false, rfl, q⟩
    · exact ⟨true, rfl, q⟩
  | own l => exact False.elim q
theorem c_andT {rest : List Expr} (ha : PT X a (canT X.K W cl fun r => asB (fa r))) (hb : PW X (.BoolOp .And (b :: rest) pos) (canT X.K W cl fun r => asB (fb r))) : PW X (.BoolOp .And (a :: b :: rest) pos) (canT X.K W cl fun r => asB (vof (fa r) fun x => andK (fb r) x)) :=
  PW_weak (pw_and ha hb) fun σ H Q ⟨r, F, hs, hr, q⟩ => by
    refine ⟨r, F, hs, hr, ?_⟩
    dsimp only at q ⊢
    cases e : fa r with
    | ok x =>
      rw [e] at q
      obtain ⟨t, rfl, q1⟩ := asB_and q
      intro F' H' g
      cases t
      · exact (show PB Q false F H from q1) F' H' g
      · exact ⟨r, F', g.fh, hr.mono g.ff, PR.mono PB.monoP g q1⟩
    | exc c => rw [e] at q; exact q
    | fail => rw [e] at q; exact q
theorem c_orT {rest : List Expr} (ha : PT X a (canT X.K W cl fun r => asB (fa r))) (hb : PW X (.BoolOp .Or (b :: rest) pos) (canT X.K W cl fun r => asB (fb r))) : PW X (.BoolOp .Or (a :: b :: rest) pos) (canT X.K W cl fun r => asB (vof (fa r) fun x => orK (fb r) x)) :=
  PW_weak (pw_or ha hb) fun σ H Q ⟨r, F, hs, hr, q⟩ => by
    refine ⟨r, F, hs, hr, ?_⟩
    dsimp only at q ⊢
    cases e : fa r with
    | ok x =>
      rw [e] at q
      obtain ⟨t, rfl, q1⟩ := asB_or q
      intro F' H' g
      cases t
      · exact ⟨r, F', g.fh, hr.mono g.ff, PR.mono PB.monoP g q1⟩
      · exact (show PB Q true F H from q1) F' H' g
    | exc c => rw [e] at q; exact q
    | fail => rw [e] at q; exact q

/-! ### chains -/
theorem chain_core {o p : Cop} {σ : L2.St} {Q : VK} {x y : PyData} {u v : V} {r : RE} {F H : Hp} (hs : Same F H) (hr : RelR X.K F r σ) (p1 : Rp X.K F x u) (p2 : Rp X.K F y v) (q : PR W cl σ (chainD o p x y fun _ => fc r) (PV X.K Q) F H) :
    r2D X.K (cop o) u v H fun z H3 => ∃ k, z = .bl k ∧ (if k = true then canE X.K W cl fc σ H3 fun w' H4 => r2D X.K (cop p) v w' H4 Q else Q (.bl false) H3) := by
  refine ⟨F, x, y, hs, p1, p2, ?_⟩
  unfold chainD at q
  cases e : cop o x y with
  | none => rw [e] at q; exact False.elim q
  | some z =>
    rw [e] at q
    obtain ⟨k, rfl⟩ := cop_bool e
    intro v' F' H' g rp
    cases rp
    refine ⟨k, rfl, ?_⟩
    cases k
    · exact PV.now (PV.monoP _ _ _ _ _ g (show PV X.K Q (.val (.bool false)) F H from q)) g.fh (.bl _)
    · have q2 : PR W cl σ ((fc r).bind fun z => ofO (cop p y z.d)) (PV X.K Q) F' H' := PR.mono PV.monoP g q
      exact useE PV.monoP g.fh (hr.mono g.ff) q2 fun z w' F4 H4 s4 r4 g4 p4 q4 => ⟨F4, y, z.d, s4, Rp.mono (g.ff.trans g4.ff) _ _ p2, p4, PR.ofO q4⟩
theorem c_chain {o p : Cop} (hu : X.A.units + 64 < cLine) (ha : PE X a (canE X.K W cl fa)) (hb : PE X b (canE X.K W cl fb)) (hc : PE X c (canE X.K W cl fc)) (hm : lastMarks [o.op, p.op] [b, c] = false) :
    PE X (.Compare a [o.op, p.op] [b, c] pos) (canE X.K W cl fun r => vof (fa r) fun x => vof (fb r) fun y => chainD o p x y fun _ => fc r) :=
  PE_weak (pe_chain (op_cop hu o) (op_cop hu p) ha hb hc hm) fun σ H Q ⟨r, F, hs, hr, q⟩ => useE PV.monoP hs hr q fun x v F1 H1 s1 r1 g1 p1 q1 => useE PV.monoP s1 r1 q1 fun y u F2 H2 s2 r2 g2 p2 q2 =>
    chain_core s2 r2 (Rp.mono g2.ff _ _ p1) p2 q2
theorem chain_bool {o p : Cop} {x y : PyData} {k : Unit → Rr} {z : RV} (h : chainD o p x y k = .ok z) : ∃ b, z = .val (.bool b) := by
  unfold chainD at h
  cases e : cop o x y with
  | none => rw [e] at h; cases h
  | some w =>
    rw [e] at h
    obtain ⟨t, rfl⟩ := cop_bool e
    cases t
    · cases h; exact ⟨_, rfl⟩
    · have h : vof (k ()) (fun z => ofO (cop p y z)) = .ok z := h
      unfold vof at h
      cases e2 : k () with
      | ok d =>
        rw [e2] at h
        have h : ofO (cop p y d.d) = .ok z := h
        cases e3 : cop p y d.d with
        | none => rw [e3] at h; cases h
        | some w =>
          rw [e3] at h
          cases h
          exact cop_bool e3
      | exc c => rw [e2] at h; cases h
      | fail => rw [e2] at h; cases h
/-- a test of a value that is a truth wherever it is -/
theorem PT_tTest {e : Expr} {t : TE} {f : RE → Rr} (h : PT X e (tTest t)) (w : ∀ σ H Q, canE X.K W cl f σ H Q → t σ H Q) : PT X e (canT X.K W cl fun r => asB (f r)) :=
  PT_weak h fun σ H Q ⟨r, F, hs, hr, q⟩ => by
    refine w σ H _ ⟨r, F, hs, hr, ?_⟩
    dsimp only at q
    cases e1 : f r with
    | ok x =>
      rw [e1] at q
      cases x with
      | val d =>
        cases d <;> try exact False.elim q
        intro v F' H' g rp
        cases rp
        exact ⟨_, rfl, (show PB Q _ F H from q) F' H' g⟩
      | own l => exact False.elim q
    | exc c => rw [e1] at q; exact q
    | fail => rw [e1] at q; exact q
theorem c_chainT {o p : Cop} (hu : X.A.units + 64 < cLine) (ha : PE X a (canE X.K W cl fa)) (hb : PE X b (canE X.K W cl fb)) (hc : PE X c (canE X.K W cl fc)) (hm : lastMarks [o.op, p.op] [b, c] = false) :
    PT X (.Compare a [o.op, p.op] [b, c] pos) (canT X.K W cl fun r => asB (vof (fa r) fun x => vof (fb r) fun y => chainD o p x y fun _ => fc r)) :=
  PT_tTest (pt_chain (op_cop hu o) (op_cop hu p) ha hb hc hm) fun σ H Q ⟨r, F, hs, hr, q⟩ => useE PV.monoP hs hr q fun x v F1 H1 s1 r1 g1 p1 q1 => useE PV.monoP s1 r1 q1 fun y u F2 H2 s2 r2 g2 p2 q2 =>
    chain_core s2 r2 (Rp.mono g2.ff _ _ p1) p2 q2

/-! ### items, slices, calls -/
theorem c_ix (ha : PE X a (canE X.K W cl fa)) (hb : PE X b (canE X.K W cl fb)) (hp : PlainIx b) : PE X (.Subscript a b pos) (canE X.K W cl fun r => vof (fa r) fun x => vof (fb r) fun y => ofO (ixD x y)) :=
  PE_weak (pe_ix op_ixD ha hb hp) fun σ H Q ⟨r, F, hs, hr, q⟩ => useE PV.monoP hs hr q fun x v F1 H1 s1 r1 g1 p1 q1 => useE PV.monoP s1 r1 q1 fun y u F2 H2 s2 r2 g2 p2 q2 =>
    ⟨F2, x.d, y.d, s2, Rp.mono g2.ff _ _ p1, p2, PR.ofO q2⟩
def intK (x : PyData) : Res (Option Int) := match x with
  | .int i => .ok (some i)
  | _ => .fail
theorem c_ono : PO X none (canO X.K W cl fun _ => .ok none) := PO_weak po_none fun σ H Q ⟨r, F, hs, hr, q⟩ => q F H (Grow.refl hs)
theorem c_oyes (ha : PE X a (canE X.K W cl fa)) : PO X (some a) (canO X.K W cl fun r => (fa r).bind fun x => intK x.d) :=
  PO_weak (po_some ha) fun σ H Q ⟨r, F, hs, hr, q⟩ => useE PB.monoP hs hr q fun x v F1 H1 s1 r1 g1 p1 q1 => by
    cases e : x.d <;> rw [e] at p1 q1 <;> try exact False.elim q1
    cases p1
    exact ⟨_, rfl, (show PB Q _ F1 H1 from q1) F1 H1 (Grow.refl s1)⟩
theorem c_sl {lo hi : Option Expr} {p2 : Pos} {fl fh : RE → Res (Option Int)} (ha : PE X a (canE X.K W cl fa)) (hl : PO X lo (canO X.K W cl fl)) (hh : PO X hi (canO X.K W cl fh)) :
    PE X (.Subscript a (.Slice lo hi none p2) pos) (canE X.K W cl fun r => vof (fa r) fun x => (fl r).bind fun l => (fh r).bind fun h => ofO (slD x l h)) :=
  PE_weak (pe_slice op_slD ha hl hh) fun σ H Q ⟨r, F, hs, hr, q⟩ => useE PV.monoP hs hr q fun x v F1 H1 s1 r1 g1 p1 q1 => useB PV.monoP s1 r1 q1 fun l F2 H2 s2 r2 g2 q2 => useB PV.monoP s2 r2 q2 fun h F3 H3 s3 r3 g3 q3 =>
    ⟨F3, x.d, s3, Rp.mono (g2.ff.trans g3.ff) _ _ p1, PR.ofO q3⟩
theorem c_bf {fs : RE → Res (List PyData)} {e : Expr} {f : Bf} (h : PE X e (tCB (rLD X.K (bf f)) (canA X.K W cl fs))) : PE X e (canE X.K W cl fun r => (fs r).bind fun ds => ofO (bf f ds)) :=
  PE_weak h fun σ H Q ⟨r, F, hs, hr, q⟩ => useA PV.monoP hs hr q fun ds vs F1 H1 s1 r1 g1 p1 q1 => ⟨F1, ds, s1, p1, PR.ofO q1⟩
theorem c_bits {apos : Pos} (ha : PE X a (canE X.K W cl fa)) (hbase : attributeBase a "bit_length" X.env (eval a X.env) = eval a X.env) (hline : (apos.endLine == pos.line) = true) : PE X (.Call (.Attribute a "bit_length" apos) [] [] pos) (canE X.K W cl fun r => vof (fa r) fun x => ofO (bitsD x)) :=
  PE_weak (pe_bits ha hbase hline) fun σ H Q ⟨r, F, hs, hr, q⟩ => useE PV.monoP hs hr q fun x v F1 H1 s1 r1 g1 p1 q1 => by
    have q2 := PR.ofO q1
    cases e : x.d <;> rw [e] at p1 q2 <;> try exact False.elim q2
    cases p1
    exact ⟨_, rfl, PV.now q2 s1 (.int _)⟩
theorem c_dict0 : PE X (.Dict [] [] pos) (canE X.K W cl fun _ => .ok (.val (.dict []))) :=
  PE_weak pe_dnewK fun σ H Q ⟨r, F, hs, hr, q⟩ => fun p hp => (show PV X.K Q (.val (.dict [])) F H from q) _ _ _ (Grow.new hs hp) (.dct upd_same)
theorem c_isi {t : Ty} {e : Expr} (h : PE X e (tCB (rIsi X.K) (tCons (canE X.K W cl fa) (tCons (tC (.ty t.nm)) tNil)))) : PE X e (canE X.K W cl fun r => vof (fa r) fun x => isiD x t) :=
  PE_weak h fun σ H Q ⟨r, F, hs, hr, q⟩ => useE PV.monoP hs hr q fun x v F1 H1 s1 r1 g1 p1 q1 => by
    replace q1 : PR W cl σ (isiD x.d t) (PV X.K Q) F1 H1 := q1
    unfold isiD at q1
    cases ht : tokD x.d with
    | true => rw [if_pos ht] at q1; exact False.elim q1
    | false =>
      rw [if_neg (by rw [ht]; decide)] at q1
      exact ⟨v, .ty t.nm, _, _, isTy x.d t, rfl, .ty _, tyx_of s1 p1 ht, kit_ty (kit_isTy x.d t), PV.now q1 s1 (.bl _)⟩
/-- a call of a def -/
theorem c_call {fs : RE → Res (List PyData)} {e : Expr} {n : Nat} {f : List PyData → Rr} {dfl : List PyData} (hd : dfl.all scalD = true) (hn : ∀ r ds, fs r = .ok ds → ds.length + dfl.length = n)
    (h : PE X e (fun σ H Q => canA X.K W cl fs σ H fun vs H1 => spD X.K cl f n (vs ++ dfl.map dV) H1 Q (WE W σ))) : PE X e (canE X.K W cl fun r => (fs r).bind fun ds => f (ds ++ dfl)) :=
  PE_weak h fun σ H Q ⟨r, F, hs, hr, q⟩ => by
    refine ⟨r, F, hs, hr, ?_⟩
    have q2 := PR.bind q
    cases e1 : fs r with
    | ok ds =>
      rw [e1] at q2
      intro vs F' H' g p
      have rd : ∀ dfl : List PyData, dfl.all scalD = true → Rps X.K F' dfl (dfl.map dV) := fun dfl => by
        induction dfl with
        | nil => exact fun _ => .nil
        | cons d ds ih =>
          intro hh
          rw [List.all_cons, Bool.and_eq_true] at hh
          exact .cons (dV_rp hh.1) (ih hh.2)
      refine ⟨by rw [List.length_append, List.length_map, ← p.len]; exact hn r ds e1, ds ++ dfl, F', g.fh, p.app (rd dfl hd), ?_⟩
      have q3 := PR.mono PV.monoP g q2
      show PR _ cl [] (f (ds ++ dfl)) (PV X.K Q) F' H'
      cases e2 : f (ds ++ dfl) with
      | ok x => rw [e2] at q3; exact q3
      | exc c => rw [e2] at q3; exact q3
      | fail => rw [e2] at q3; exact q3
    | exc c => rw [e1] at q2; exact q2
    | fail => rw [e1] at q2; exact q2
theorem rngs_rgV {K : PySem.W.Frag} {F : Hp} {i j : Int} : Rps K F (rngs i 1 (j - i).toNat) (rgV i j) := by
  unfold rngs rgV
  generalize (j - i).toNat = n
  have : ∀ l : List Nat, Rps K F (l.map fun (k : Nat) => PyData.int (i + k * 1)) (l.map fun (k : Nat) => V.int (i + k)) := fun l => by
    induction l with
    | nil => exact .nil
    | cons a l ih =>
      refine .cons ?_ ih
      dsimp only
      rw [Int.mul_one]
      exact .int _
  exact this _
theorem small62_ok {i : Int} (h : small62 i = true) : -(2 ^ 62) ≤ i ∧ i < 2 ^ 62 := by
  unfold small62 at h
  simp only [Bool.and_eq_true, decide_eq_true_eq] at h
  exact ⟨by omega, by omega⟩
theorem c_lrng1 {e : Expr} (h : PE X e (tLstRg (tRg1 (canE X.K W cl fa)))) : PE X e (canE X.K W cl fun r => (fa r).bind fun x => ofO (lrngD [x.d])) :=
  PE_weak h fun σ H Q ⟨r, F, hs, hr, q⟩ => useE PV.monoP hs hr q fun x v F1 H1 s1 r1 g1 p1 q1 => by
    have q2 := PR.ofO q1
    cases e : x.d <;> rw [e] at p1 q2 <;> try exact False.elim q2
    cases p1
    rename_i j
    by_cases hz : (small62 j && decide (j ≤ 16777216)) = true
    · rw [show lrngD [.int j] = _ from if_pos hz] at q2
      simp only [Bool.and_eq_true, decide_eq_true_eq] at hz
      obtain ⟨a1, a2⟩ := small62_ok hz.1
      refine ⟨j, rfl, ⟨by omega, by omega, a1, a2, by omega⟩, fun p hp => ?_⟩
      have r0 := rngs_rgV (K := X.K) (F := F1) (i := 0) (j := j)
      rw [Int.sub_zero] at r0
      exact PV.newL q2 s1 r0 hp
    · rw [show lrngD [.int j] = none from if_neg hz] at q2
      exact False.elim q2
theorem c_lrev {e : Expr} (h : PE X e (tLstRev X.K (canE X.K W cl fa))) : PE X e (canE X.K W cl fun r => vof (fa r) fun x => ofO (revD x)) :=
  PE_weak h fun σ H Q ⟨r, F, hs, hr, q⟩ => useE PV.monoP hs hr q fun x v F1 H1 s1 r1 g1 p1 q1 => by
    have q2 := PR.ofO q1
    cases e : x.d <;> rw [e] at p1 q2 <;> try exact False.elim q2
    cases p1
    rename_i xs sq rs
    exact ⟨_, _, rfl, sqL_mono s1 sq, fun p hp => PV.newL q2 s1 rs.rev hp⟩
theorem c_revL {e : Expr} (h : PE X e (tRevL X.K (canE X.K W cl fa))) : PE X e (canE X.K W cl fun r => vof (fa r) fun x => ofO (revD x)) :=
  PE_weak h fun σ H Q ⟨r, F, hs, hr, q⟩ => useE PV.monoP hs hr q fun x v F1 H1 s1 r1 g1 p1 q1 => by
    have q2 := PR.ofO q1
    cases e : x.d <;> rw [e] at p1 q2 <;> try exact False.elim q2
    cases p1
    rename_i xs sq rs
    exact ⟨_, _, rfl, sqL_mono s1 sq, fun p hp => PV.newL q2 s1 rs.rev hp⟩
theorem c_lrng2 {e : Expr} (h : PE X e (tLstRg (tRg2 (canE X.K W cl fa) (canE X.K W cl fb)))) : PE X e (canE X.K W cl fun r => (fa r).bind fun x => (fb r).bind fun y => ofO (lrngD [x.d, y.d])) :=
  PE_weak h fun σ H Q ⟨r, F, hs, hr, q⟩ => useE PV.monoP hs hr q fun x v F1 H1 s1 r1 g1 p1 q1 => useE PV.monoP s1 r1 q1 fun y u F2 H2 s2 r2 g2 p2 q2 => by
    have q3 := PR.ofO q2
    cases e : x.d <;> rw [e] at p1 q3 <;> cases e2 : y.d <;> rw [e2] at p2 q3 <;> try exact False.elim q3
    cases p1
    cases p2
    rename_i i j
    by_cases hz : (small62 i && small62 j && decide (j - i ≤ 16777216)) = true
    · rw [show lrngD [.int i, .int j] = _ from if_pos hz] at q3
      simp only [Bool.and_eq_true, decide_eq_true_eq] at hz
      obtain ⟨a1, a2⟩ := small62_ok hz.1.1
      obtain ⟨a3, a4⟩ := small62_ok hz.1.2
      exact ⟨i, j, rfl, rfl, ⟨a1, a2, a3, a4, by omega⟩, fun p hp => PV.newL q3 s2 rngs_rgV hp⟩
    · rw [show lrngD [.int i, .int j] = none from if_neg hz] at q3
      exact False.elim q3
end
end PX

/-! PX7: targets, walks, comprehensions. -/
namespace PX
open PySem PySem.Spec PyProof.Rows L2

/-! ### targets -/
def gNames : List Nat → TGs
  | [] => gNil
  | i :: is => gCons (gName i) (gNames is)
def gT (K : PySem.W.Frag) : Tg → TG
  | .nm i => gName i
  | .tp l => fun v σ H Q => gTup K l.length (gNames l) v σ H Q ∨ gLst K l.length (gNames l) v σ H Q
theorem gNames_run : ∀ (l : List Nat) (xs : List V) (σ : L2.St) (H : Hp) (Q : L2.St → Hp → Prop), l.length = xs.length → Q (setAll some l xs σ) H → gNames l xs σ H Q
  | [], [], σ, H, Q, _, q => ⟨rfl, q⟩
  | [], x :: xs, σ, H, Q, h, _ => by simp at h
  | i :: is, [], σ, H, Q, h, _ => by simp at h
  | i :: is, x :: xs, σ, H, Q, h, q => ⟨x, xs, rfl, gNames_run is xs (σ.set i (some x)) H Q (by simpa using h) q⟩
/-- where a target leads the slots -/
def tgV (K : PySem.W.Frag) (F : Hp) (t : Tg) (d : PyData) (v : V) (σ σ' : L2.St) : Prop := match t, d with
  | .nm i, _ => σ' = σ.set i (some v)
  | .tp l, .tuple ds => ∃ xs, Rps K F ds xs ∧ l.length = ds.length ∧ σ' = setAll some l xs σ
  | .tp l, .list ds => ∃ xs, Rps K F ds xs ∧ l.length = ds.length ∧ σ' = setAll some l xs σ
  | .tp _, _ => False
theorem gT_run {A : Type} {K : PySem.W.Frag} {F H : Hp} {t : Tg} {d : PyData} {v : V} {σ : L2.St} {f : PyData → A} {r r2 : List A} {Q : L2.St → Hp → Prop} (hs : Same F H) (rp : Rp K F d v) (e : tgs f t d r = some r2)
    (q : ∀ σ', tgV K F t d v σ σ' → Q σ' H) : gT K t v σ H Q := by
  cases t with
  | nm i => exact q _ rfl
  | tp l =>
    cases d <;> try exact no_of (show none = some r2 from e)
    · cases rp with
      | lst s rs =>
        rename_i ds a xs
        by_cases hl : l.length = ds.length
        · exact .inr ⟨a, xs, rfl, sqL_mono hs s, by rw [← rs.len]; exact hl.symm, gNames_run l xs σ H Q (by rw [← rs.len]; exact hl) (q _ ⟨xs, rs, hl, rfl⟩)⟩
        · rw [show tgs f (.tp l) (.list ds) r = none from if_neg hl] at e
          cases e
    · cases rp with
      | tup s rs =>
        rename_i ds a xs
        by_cases hl : l.length = ds.length
        · exact .inl ⟨a, xs, rfl, sqT_mono hs s, by rw [← rs.len]; exact hl.symm, gNames_run l xs σ H Q (by rw [← rs.len]; exact hl) (q _ ⟨xs, rs, hl, rfl⟩)⟩
        · rw [show tgs f (.tp l) (.tuple ds) r = none from if_neg hl] at e
          cases e
/-! ### wiped slots -/
theorem wipe_set {i : Nat} {x : Option V} : ∀ {vs : List Nat} {σ : L2.St}, i ∈ vs → wipe (σ.set i x) vs = wipe σ vs
  | [], _, h => by cases h
  | v :: vs, σ, h => by
    show (wipe (σ.set i x) vs).set v none = (wipe σ vs).set v none
    by_cases hi : i ∈ vs
    · rw [wipe_set hi]
    · have e : i = v := (List.mem_cons.mp h).resolve_right hi
      subst e
      have go : ∀ (ws : List Nat) (τ : L2.St), i ∉ ws → wipe (τ.set i x) ws = (wipe τ ws).set i x := fun ws τ => by
        induction ws with
        | nil => exact fun _ => rfl
        | cons w ws ih =>
          intro hw
          show (wipe (τ.set i x) ws).set w none = ((wipe τ ws).set w none).set i x
          rw [ih (fun z => hw (List.mem_cons_of_mem _ z)), List.set_comm _ _ (fun z => hw (by rw [z]; exact List.mem_cons_self))]
      rw [go vs σ hi, List.set_set]
theorem wipe_setAll : ∀ {l : List Nat} {xs : List V} {vs : List Nat} {σ : L2.St}, (∀ i ∈ l, i ∈ vs) → wipe (setAll some l xs σ) vs = wipe σ vs
  | [], xs, vs, σ, _ => by cases xs <;> rfl
  | i :: is, [], vs, σ, _ => rfl
  | i :: is, x :: xs, vs, σ, h => by
    show wipe (setAll some is xs (σ.set i (some x))) vs = _
    rw [wipe_setAll (fun j hj => h j (List.mem_cons_of_mem _ hj)), wipe_set (h i List.mem_cons_self)]
theorem wipe_tgV {K : PySem.W.Frag} {F : Hp} {t : Tg} {d : PyData} {v : V} {σ σ' : L2.St} {vs : List Nat} (q : tgV K F t d v σ σ') (h : ∀ i ∈ t.slots, i ∈ vs) : wipe σ' vs = wipe σ vs := by
  cases t with
  | nm i =>
    have q' : σ' = σ.set i (some v) := by cases d <;> exact q
    rw [q']
    exact wipe_set (h i (by simp [Tg.slots]))
  | tp l =>
    cases d <;> try exact q.elim
    all_goals
      obtain ⟨xs, rs, hl, rfl⟩ := q
      exact wipe_setAll h
theorem wipe_wipe {σ : L2.St} : ∀ {vs : List Nat}, wipe (wipe σ vs) vs = wipe σ vs := fun {vs} => by
  have go : ∀ ws : List Nat, (∀ i ∈ ws, i ∈ vs) → ∀ τ : L2.St, wipe (wipe τ ws) vs = wipe τ vs := fun ws => by
    induction ws with
    | nil => exact fun _ _ => rfl
    | cons w ws ih =>
      intro hw τ
      show wipe ((wipe τ ws).set w none) vs = _
      rw [wipe_set (hw w List.mem_cons_self), ih (fun i hi => hw i (List.mem_cons_of_mem _ hi))]
  exact go vs (fun _ h => h) σ
theorem wipeD_get {A : Type} {z : A} {r : List A} {i : Nat} {a : A} : ∀ {vs : List Nat}, (wipeD z r vs)[i]? = some a → a = z ∨ (r[i]? = some a ∧ i ∉ vs)
  | [], h => .inr ⟨h, by simp⟩
  | v :: vs, h => by
    have h' : ((wipeD z r vs).set v z)[i]? = some a := h
    by_cases hv : v = i
    · subst hv
      by_cases hl : v < (wipeD z r vs).length
      · rw [List.getElem?_set_self hl] at h'
        exact .inl (Option.some.inj h').symm
      · rw [List.getElem?_eq_none (by rw [List.length_set]; omega)] at h'
        cases h'
    · rw [List.getElem?_set_ne hv] at h'
      rcases wipeD_get h' with e | ⟨e, n⟩
      · exact .inl e
      · exact .inr ⟨e, fun z => (List.mem_cons.mp z).elim (fun q => hv q.symm) n⟩
theorem wipeD_len {A : Type} {z : A} {r : List A} : ∀ {vs : List Nat}, (wipeD z r vs).length = r.length
  | [] => rfl
  | v :: vs => by
    show ((wipeD z r vs).set v z).length = _
    rw [List.length_set, wipeD_len]
theorem RelR.wipe {K : PySem.W.Frag} {F : Hp} {r : RE} {σ : L2.St} (h : RelR K F r σ) (vs : List Nat) : RelR K F (wipeD none r vs) (L2.wipe σ vs) := by
  refine ⟨by rw [wipeD_len, wipe_length]; exact h.1, fun i d e => ?_⟩
  rcases wipeD_get e with z | ⟨e1, n⟩
  · cases z
  · obtain ⟨v, a, b⟩ := h.2 i d e1
    exact ⟨v, by rw [wipe_out n]; exact a, b⟩
theorem RelR.set {K : PySem.W.Frag} {F : Hp} {r : RE} {σ : L2.St} (h : RelR K F r σ) {i : Nat} {d : PyData} {v : V} (rp : Rp K F d v) : RelR K F (r.set i (some d)) (σ.set i (some v)) := by
  refine ⟨by rw [List.length_set, List.length_set]; exact h.1, fun j d' e => ?_⟩
  by_cases hj : i = j
  · subst hj
    by_cases hi : i < r.length
    · rw [List.getElem?_set_self hi] at e
      cases e
      exact ⟨v, by rw [List.getElem?_set_self (by rw [← h.1]; exact hi)], rp⟩
    · rw [List.getElem?_eq_none (by rw [List.length_set]; omega)] at e
      cases e
  · rw [List.getElem?_set_ne hj] at e
    obtain ⟨u, a, b⟩ := h.2 j d' e
    exact ⟨u, by rw [List.getElem?_set_ne hj]; exact a, b⟩
theorem RelR.setAll {K : PySem.W.Frag} {F : Hp} : ∀ (l : List Nat) {ds : List PyData} {xs : List V} {r : RE} {σ : L2.St}, RelR K F r σ → Rps K F ds xs → RelR K F (PX.setAll some l ds r) (PX.setAll some l xs σ)
  | [], ds, xs, r, σ, h, q => by cases ds <;> cases xs <;> exact h
  | i :: is, [], xs, r, σ, h, q => by cases q; exact h
  | i :: is, d :: ds, xs, r, σ, h, q => by
    cases q with
    | cons h1 h2 => exact RelR.setAll is (h.set h1) h2
theorem RelR.tgs {K : PySem.W.Frag} {F : Hp} {t : Tg} {d : PyData} {v : V} {σ σ' : L2.St} {r r2 : RE} (h : RelR K F r σ) (rp : Rp K F d v) (e : PX.tgs some t d r = some r2) (q : tgV K F t d v σ σ') : RelR K F r2 σ' := by
  cases t with
  | nm i =>
    have e' : r.set i (some d) = r2 := by cases d <;> exact Option.some.inj e
    have q' : σ' = σ.set i (some v) := by cases d <;> exact q
    rw [q', ← e']
    exact h.set rp
  | tp l =>
    cases d <;> try exact q.elim
    · rename_i ds
      obtain ⟨xs, rs, hl, rfl⟩ := q
      rw [show PX.tgs some (.tp l) (.list ds) r = some (PX.setAll some l ds r) from if_pos hl] at e
      cases e
      exact RelR.setAll l h rs
    · rename_i ds
      obtain ⟨xs, rs, hl, rfl⟩ := q
      rw [show PX.tgs some (.tp l) (.tuple ds) r = some (PX.setAll some l ds r) from if_pos hl] at e
      cases e
      exact RelR.setAll l h rs

/-! ### a comprehension -/
abbrev W0 : WX := fun _ _ _ _ => False
def stepC (own : List (Str × Nat)) (t : Tg) (fc : RE → Res Bool) (fe : RE → Rr) (r : RE) (d : PyData) : Res (Option PyData) := match tgs some t d (wipeD none r (own.map (·.2))) with
  | some r2 => (fc r2).bind fun b => if b = true then (fe r2).bind fun x => .ok (some x.d)
    else .ok none
  | none => .fail
theorem compL_cons {f : PyData → Res (Option PyData)} {d : PyData} {ds l : List PyData} (h : compL f (d :: ds) = some l) : ∃ o, f d = .ok o ∧ ∃ l', compL f ds = some l' ∧ l = (match o with
    | some e => e :: l'
    | none => l') := by
  unfold compL at h
  cases e : f d with
  | ok o =>
    rw [e] at h
    cases o with
    | some x =>
      dsimp only at h
      cases e2 : compL f ds with
      | some l' =>
        rw [e2] at h
        cases h
        exact ⟨_, rfl, l', rfl, rfl⟩
      | none => rw [e2] at h; cases h
    | none => exact ⟨_, rfl, l, h, rfl⟩
  | exc c => rw [e] at h; cases h
  | fail => rw [e] at h; cases h
theorem tLc_can {K : PySem.W.Frag} {W : WX} {cl : Nat → Value} {fi : RE → Res (List PyData)} {fc : RE → Res Bool} {fe : RE → Rr} {own : List (Str × Nat)} {t : Tg} (hsl : ∀ i ∈ t.slots, i ∈ own.map (·.2)) {σ : L2.St} {H : Hp} {Q : VK}
    (h : canE K W cl (fun r => (fi r).bind fun ds => if lineB ds.length = true then ownL (compL (stepC own t fc fe r) ds) else .fail) σ H Q) :
    tLc (canI K W cl fi) (gT K t) (canT K W0 cl fc) (canE K W0 cl fe) (own.map (·.2)) σ H Q := by
  obtain ⟨r, F, hs, hr, q⟩ := h
  refine ⟨r, F, hs, hr, ?_⟩
  have q2 := PR.bind q
  cases e0 : fi r with
  | exc c => rw [e0] at q2; exact q2
  | fail => rw [e0] at q2; exact q2
  | ok ds =>
    rw [e0] at q2
    intro J F1 H1 g1 wk D nD
    by_cases hz : lineB ds.length = true
    case neg =>
      have q3 : PR W cl σ (if lineB ds.length = true then ownL (compL (stepC own t fc fe r) ds) else .fail) (PV K Q) F H := q2
      rw [if_neg hz] at q3
      exact False.elim q3
    have q3 : PR W cl σ (if lineB ds.length = true then ownL (compL (stepC own t fc fe r) ds) else .fail) (PV K Q) F H := q2
    rw [if_pos hz] at q3
    cases e1 : compL (stepC own t fc fe r) ds with
    | none => rw [e1] at q3; exact False.elim q3
    | some l =>
      rw [e1] at q3
      have q4 : PV K Q (.own l) F H := q3
      refine ⟨fun i m H' => m = ds.length - i ∧ i ≤ ds.length ∧ ∃ F' vs l1 l2, Grow F1 H1 F' H' ∧ F' D = none ∧ H' D = some (.lst vs) ∧ Rps K F' l1 vs ∧ l1.length ≤ i ∧ compL (stepC own t fc fe r) (ds.drop i) = some l2 ∧ l = l1 ++ l2,
        ⟨ds.length, rfl, Nat.zero_le _, F1, [], [], l, Grow.aside g1.fh nD, Same.free g1.fh nD, upd_same, .nil, Nat.le_refl _, e1, rfl⟩, fun i m H' hW => ?_⟩
      obtain ⟨rfl, hi, F', vs, l1, l2, g2, fD, hD, rs, hl, e2, rfl⟩ := hW
      obtain ⟨w1, w2⟩ := wk F' H' i g2.ff g2.fh
      by_cases hlt : i < ds.length
      · have ed : ds[i]? = some ds[i] := List.getElem?_eq_getElem hlt
        rw [List.drop_eq_getElem_cons hlt] at e2
        obtain ⟨o, e3, l', e4, e5⟩ := compL_cons e2
        obtain ⟨go, yl⟩ := w1 _ ed
        refine .inr ⟨go, fun H' => ∃ F' vs l1 l2, Grow F1 H1 F' H' ∧ F' D = none ∧ H' D = some (.lst vs) ∧ Rps K F' l1 vs ∧ l1.length ≤ i + 1 ∧ compL (stepC own t fc fe r) (ds.drop (i + 1)) = some l2 ∧ _ = l1 ++ l2,
          fun H'' hN => ⟨ds.length - (i + 1), by omega, rfl, hlt, hN⟩, fun x H2 y => ?_⟩
        obtain ⟨F2, g3, rp⟩ := yl x H2 y
        have hD2 : H2 D = some (.lst vs) := g3.hh _ _ hD
        have fD2 : F2 D = none := (g3.nw D (NT.lst hD)).trans fD
        have rel : RelR K F2 (wipeD none r (own.map (·.2))) (L2.wipe σ (own.map (·.2))) := (hr.mono (g1.ff.trans (g2.ff.trans g3.ff))).wipe _
        unfold stepC at e3
        cases e6 : tgs some t ds[i] (wipeD none r (own.map (·.2))) with
        | none => rw [e6] at e3; cases e3
        | some r2 =>
          rw [e6] at e3
          refine gT_run g3.fh rp e6 fun σ2 tv => ⟨(wipe_tgV tv hsl).trans wipe_wipe, ?_⟩
          have rel2 : RelR K F2 r2 σ2 := rel.tgs rp e6 tv
          refine ⟨r2, F2, g3.fh, rel2, ?_⟩
          dsimp only at e3
          cases e7 : fc r2 with
          | exc c => rw [e7] at e3; cases e3
          | fail => rw [e7] at e3; cases e3
          | ok b =>
            rw [e7] at e3
            have e3 : (if b = true then (fe r2).bind fun x => .ok (some x.d) else .ok none) = Res.ok o := e3
            intro F3 H3 g4
            have hD3 : H3 D = some (.lst vs) := g4.hh _ _ hD2
            have fD3 : F3 D = none := (g4.nw D (NT.lst hD2)).trans fD2
            cases b with
            | false =>
              have e3 : Res.ok none = Res.ok o := e3
              cases e3
              exact ⟨F3, vs, l1, l', g2.trans (g3.trans g4), fD3, hD3, Rps.mono (g3.ff.trans g4.ff) _ _ rs, by omega, e4, by rw [e5]⟩
            | true =>
              have e3 : ((fe r2).bind fun x => .ok (some x.d)) = Res.ok o := e3
              show canE K W0 cl fe σ2 H3 _
              refine ⟨r2, F3, g4.fh, rel2.mono g4.ff, ?_⟩
              cases e8 : fe r2 with
              | exc c => rw [e8] at e3; cases e3
              | fail => rw [e8] at e3; cases e3
              | ok x =>
                rw [e8] at e3
                have e3 : Res.ok (some x.d) = Res.ok o := e3
                cases e3
                refine PV.use fun v F4 H4 g5 rv => ?_
                have hD4 : H4 D = some (.lst vs) := g5.hh _ _ hD3
                have fD4 : F4 D = none := (g5.nw D (NT.lst hD3)).trans fD3
                refine ⟨vs, hD4, ?_, ?_⟩
                · rw [← rs.len]
                  exact Nat.lt_of_lt_of_le (Nat.lt_of_le_of_lt hl hlt) (lineB_ok hz)
                · have g6 := g2.trans (g3.trans (g4.trans g5))
                  refine ⟨F4, vs ++ [v], l1 ++ [x.d], l', ⟨g6.ff, fun c u qc => ?_, fun c u qc => ?_, g6.nw⟩, fD4, upd_same, (Rps.mono (g3.ff.trans (g4.ff.trans g5.ff)) _ _ rs).app (.cons rv .nil), ?_, e4, ?_⟩
                  · rw [upd_ne (fun z => by subst z; rw [fD4] at qc; cases qc)]
                    exact g6.fh c u qc
                  · rw [upd_ne (fun z => by subst z; rw [nD] at qc; cases qc)]
                    exact g6.hh c u qc
                  · rw [List.length_append]
                    show l1.length + 1 ≤ i + 1
                    omega
                  · rw [e5, List.append_assoc]
                    rfl
      · have e : i = ds.length := by omega
        subst e
        rw [List.drop_length] at e2
        cases (Option.some.inj e2)
        rw [List.append_nil] at q4
        exact .inl ⟨w2 (Nat.le_refl _), q4 D vs F' H' (g1.trans g2) (Same.free g1.hh nD) fD hD rs⟩
end PX
set_option maxHeartbeats 400000
/-! PXI: own classes of exceptions with an __init__ that keeps a place. -/
namespace PXI
open PySem PySem.Spec PyProof.Rows L2 PX
/-- C(e, ..), C's own __init__ keeping sp, letting nothing out -/
def tMkI (C : Addr) (sp : Sp) (ta : TA) : L2.St → Hp → XK → Prop := fun σ H Q => ta σ H fun vs H1 => vs.length ≤ 1000 ∧ ∀ a, H1 a = none → sp (.ref a :: vs) (upd H1 a (exo a C none))
  (fun v H2 => v = .non ∧ ∃ (d : Addr) (fs : List (Str × V)), H2 a = some (exo a C (some d)) ∧ H2 d = some (exd d fs) ∧ H1 d = none ∧ Q (.ref C) (some d) (upd (del H2 a) d (.xd fs))) (fun _ _ _ => False)
section
variable {X : Cx} {e : Expr} {es : List Expr} {ta : TA} {p p1 p2 pos : Pos}
theorem pmk_oexN {x : Str} {C fI : Addr} {k : Nat} {fd : FuncData} {ps : List Str} {sp : Sp} (T : OexC X.K C) (iC : PySem.W.findIn X.K (.ref C) "__init__" = some (some (.ref fI))) (tI : PySem.W.typeIn X.K (.ref fI) = some (.type "function"))
    (F1 : FnOk X.prog X.w X.K X.mg X.base (L2N.CX X.prog X.w) k fI fd ps sp) (hr : Room (k + 1) X.A) (hb : Binds X.K fd ps []) (hg : Gl X x) (hm : X.mg x = some (.ref C)) (ha : PA X (e :: es) ta)
    (hdb : (x == ("__debug__" : Str)) = false) (he : starEach (e :: es) X.env = (false, eval e X.env) :: starEach es X.env) (hpl : (backTo pos (starEach es X.env)).any (·.1) = false) :
    L2N.PMk X (.Call (.Name x p) (e :: es) [] pos) (tMkI C sp ta) := by
  intro pins s σ H Q I h
  obtain ⟨nm, q, N, bs, bm, sn, sub, ab, col, dd, k0, k1, k2, k3, k5, hC, hbm⟩ := T.cls
  refine wpAny_Call_Name_kw (ld_glob I hg hm ?_ hdb)
  refine PySem.W.callWith_K (h₀ := X.base) I.ok.mod.kin T.kC (thn (ha.run pos pins s σ H _ I h) fun us s1 ⟨vs, H1, I1, r1, hz, q1⟩ => ⟨I1.kIn, ?_⟩) he hpl
  show wpAny _ _ (call (.ref C) us) _ _ _
  obtain ⟨hp, g, dr, tk, os⟩ := s1
  have hsz : hp.objs.size ≤ hp.objs.size + 1 := Nat.le_succ _
  have hn : H1 (hp.objs.size + 1) = none := I1.hok.fresh hsz
  have hq := q1 (hp.objs.size + 1) hn
  have kk : ∀ b o, hp.get? b = some o → ((hp.push (PySem.W.kdv_tup us)).push (PySem.HandSPX.excO C hp.objs.size)).get? b = some o := fun b o e => Heap.get?_push_of_some _ (Heap.get?_push_of_some _ e)
  have hget : ((hp.push (PySem.W.kdv_tup us)).push (PySem.HandSPX.excO C hp.objs.size)).get? (hp.objs.size + 1) = some (PySem.HandSPX.excO C hp.objs.size) := by heap_get
  have I2 : Inv X pins σ (upd H1 (hp.objs.size + 1) (exo (hp.objs.size + 1) C none)) ⟨(hp.push (PySem.W.kdv_tup us)).push (PySem.HandSPX.excO C hp.objs.size), g, dr, tk, os⟩ :=
    I1.laid (t' := tk) (a := hp.objs.size + 1) (o := exo (hp.objs.size + 1) C none) (h' := (hp.push (PySem.W.kdv_tup us)).push (PySem.HandSPX.excO C hp.objs.size)) kk hsz (exo_ok hget)
  have r2 : Vals (V.ref (hp.objs.size + 1) :: vs) (Value.ref (hp.objs.size + 1) :: us) := .cons rfl r1
  have hl : (Value.ref (hp.objs.size + 1) :: us ++ []).length = ps.length := by
    have e := r2.length
    rw [F1.len _ _ _ _ hq] at e
    rw [List.append_nil]
    exact e.symm
  have hus : us.length ≤ sizeLine := by
    rw [← Paired.length r1, sizeLine_eq]
    omega
  have bb := hb _ (Value.ref (hp.objs.size + 1) :: us) I2.kIn hl
  rw [List.append_nil] at bb
  refine wpAny_call (PySem.HandSPX.call_own F.excBase_ValueError (fun Y => PySem.HandSPX.refsVE_contains Y bm hbm) (I1.kIn _ _ hC) (PySem.W.looks_findIn I1.kIn iC) (fun self => PySem.W.bind_fn I1.kIn self tI) hus
    (codeAny_mono (F1.run _ X.stack _ _ ⟨Value.ref (hp.objs.size + 1) :: us, []⟩ (Value.ref (hp.objs.size + 1) :: us) _ _ (fun _ _ _ => False) (hr.make C us []) (I2.env0.make C us []) bb r2 hq) fun r s' hq' => ?_))
  cases r with
  | error er =>
    obtain ⟨_, _, _, _, _, _, _, _, _, _, _, _, z⟩ := hq'
    exact z.elim
  | ok fl =>
    cases fl with
    | ret u =>
      obtain ⟨v, H2, os2, bare2, un2, hok2, rv, ev, d, fs, ea, ed, hd1, q2⟩ := hq'
      subst ev
      obtain ⟨h2, g2, d2, t2, os'⟩ := s'
      obtain ⟨t0, G, J, kG, ge, hoe, na⟩ := mk_end0 (d2 := d2) (t2 := t2) I1 hsz kk un2 hok2 os2 bare2 ea ed hd1
      exact ⟨rv, hp.objs.size + 1, _, _, ⟨G, g2, d2, t2, os'⟩, _, .ref C, some d, rfl, J, kG, ge, hoe, ⟨rfl, rfl, fun vs hv => by cases hv; rfl⟩, rfl, rfl, na, rfl, bare2, raises_own T.exC T.tyC, q2⟩
    | next => exact False.elim hq'
    | brk => exact False.elim hq'
    | cont => exact False.elim hq'
/-- B.__init__(self, ..), B an own class without one -/
structure BIn (K : PySem.W.Frag) (B : Addr) : Prop where
  rd : PySem.W.readsIn K B (.type "type") = true
  ga : PySem.W.specialIn K (.ref B) "__getattribute__" = some (some (.builtin "type.__getattribute__"))
  at_ : PySem.W.findCls K (.ref B) (.type "type") "__init__" = some (.val (.builtin "ValueError.__init__"))
theorem pe_binit {b : Str} {B : Addr} (hg : Gl X b) (hm : X.mg b = some (.ref B)) (V : BIn X.K B) (ha : PA X (e :: es) ta) (hdb : (b == ("__debug__" : Str)) = false) (hline : (p2.endLine == pos.line) = true)
    (hform : methodCallForm ((e :: es).length + ([] : List Keyword).length) (backTo pos (starEach (e :: es) X.env)) (backToKw pos (keywordEach [] X.env)) = true)
    (he : starEach (e :: es) X.env = (false, eval e X.env) :: starEach es X.env) (hpl : (backTo pos (starEach es X.env)).any (·.1) = false) :
    PE X (.Call (.Attribute (.Name b p1) "__init__" p2) (e :: es) [] pos) (tVeI X.K ta) := by
  refine ⟨fun pins s σ H Q I h => ?_⟩
  have hbase : attributeBase (.Name b p1) "__init__" X.env (eval (.Name b p1) X.env) = eval (.Name b p1) X.env := rfl
  have hpos : methodCallPos true (.Name b p1) X.env p2 pos = pure pos := by unfold methodCallPos; simp [hline]
  rw [arm_eval_Call, hbase]
  refine wpAny_bind (ld_glob I hg hm ?_ hdb)
  refine wpAny_bind (wpAny_standAt ?_)
  unfold methodCall
  rw [hform]
  refine wpAny_bind (wpAny_holding (PySem.W.method_cls I.kIn V.ga (PySem.W.cls_value I.kIn V.rd V.at_ (by decide +kernel) ?_)))
  refine wpAny_bind (wpAny_of_eq hpos ?_)
  show wpAny _ _ (callWith pos (Value.builtin "ValueError.__init__") [] (backTo pos (starEach (e :: es) X.env)) []) _ _ _
  refine PyProof.Rows.callWith_method1 (thn (ha.run pos pins _ σ H _ (I.tok _) h) fun us s1 ⟨vs, H1, I1, r1, a, C, ws, ev, hl, T, ea, q⟩ => ?_) he hpl
  subst ev
  cases r1 with
  | @cons _ u0 _ ur ra rw' =>
    obtain rfl : u0 = Value.ref a := ra
    have hlen : ur.length ≤ sizeLine := by
      rw [← Paired.length rw', sizeLine_eq]
      omega
    exact oinit_ok T I1 ea hlen fun s' J => ⟨.non, H1, J, rfl, q⟩
end
/-- what the __init__ does: the place is kept -/
def spIn (K : PySem.W.Frag) (C : Addr) : Sp := fun vs H Q E => vs.length = 2 ∧ ∃ a p, vs = [.ref a, .int p] ∧ H a = some (exo a C none) ∧ ∀ dx, H dx = none → dx ≠ a → Q .non (upd (upd H dx (exd dx [("place", .int p)])) a (exo a C (some dx)))
def isInit (b : Str) : List Stmt → Bool
  | [.Expr (.Call (.Attribute (.Name y p1) m p2) [.Name s p3, .Constant (.str z) j p4] [] cp) ep, .Assign [.Attribute (.Name s2 p5) f p6] (.Name pl p7) ap] =>
    decide (y = b) && decide (m = ("__init__" : Str)) && decide (s = ("self" : Str)) && decide (s2 = ("self" : Str)) && decide (f = ("place" : Str)) && decide (pl = ("place" : Str)) && (p2.endLine == cp.line)
  | _ => false
theorem init_ok {P : Program} {w : World} {K : PySem.W.Frag} {mg : Str → Option Value} {base : Heap} {x qual b : Str} {params : Arguments} {body : List Stmt} {scope : Scope} {fI C B : Addr} {fd : FuncData} (F : FunD K x qual params body scope [] [] fI fd)
    (S : C8.scC ["self", "place"] ["self", "place"] scope = true) (chk : isInit b body = true) (hb : scope.names.lookup b = some .globalImplicit) (hs : scope.names.lookup ("self" : Str) = some .local) (hp : scope.names.lookup ("place" : Str) = some .local) (hbn : (b == ("__debug__" : Str)) = false)
    (T : OexC K C) (V : BIn K B) (hm : mg b = some (.ref B)) (hno : PySem.W.findIn K (.ref C) "place" = some none) :
    FnOk P w K mg base (L2N.CX P w) 1 fI fd ["self", "place"] (spIn K C) := by
  have S' := C8.fnScope_by S
  refine F.ok S' (fun vs H Q E h => h.1) fun cdv A outer s H vs Q E hr hsp => ?_
  obtain ⟨hl, a, p, rfl, ha, q⟩ := hsp
  unfold isInit at chk
  split at chk
  case h_2 => cases chk
  rename_i y p1 m p2 sf p3 z j p4 cp ep s2 p5 f p6 pl p7 ap
  simp only [Bool.and_eq_true, decide_eq_true_eq] at chk
  obtain ⟨⟨⟨⟨⟨⟨rfl, rfl⟩, rfl⟩, rfl⟩, rfl⟩, rfl⟩, hline⟩ := chk
  let X := cxOf (L2N.CX P w) P w K mg base ["self", "place"] qual scope fI cdv A outer s H E
  have vs1 : ∀ {ps : Pos}, PE X (.Name "self" ps) (tVar 0) := fun {ps} => pe_var rfl (.inl hs) (by decide) (by decide)
  have vs2 : ∀ {ps : Pos}, PE X (.Name "place" ps) (tVar 1) := fun {ps} => pe_var rfl (.inl hp) (by decide) (by decide)
  have aa : PA X [.Name "self" p3, .Constant (.str z) j p4] (tCons (tVar 0) (tCons (tC (.str z)) tNil)) := pa_cons vs1 (pa_cons pe_str pa_nil rfl) rfl
  refine ⟨_, pss_cons (ps_expr (pe_binit (X := X) hb hm V aa hbn hline rfl rfl rfl) (by rfl)) (pss_cons (ps_ost (X := X) vs1 vs2 (by rfl)) pss_nil), ?_⟩
  refine ⟨.ref a, rfl, a, C, [.str z], rfl, (by show (1 : Nat) ≤ 1000; omega), T, ha, ?_⟩
  refine ⟨.int p, rfl, .ref a, rfl, a, C, rfl, T, hno, .inl ⟨ha, fun dx n ne => ?_⟩⟩
  exact q dx n ne
/-! ### isinstance of an exception with fields of its own -/
section
open PySem.W PySem.Calls
variable {prog : Program} {w : World} {A : Around} {E : Value → Shared → Prop} {s : Shared} {K : PySem.W.Frag} {x D : Addr} {ox : Obj} {od : Option Obj}
theorem class_at (C : ExcC K D) : findObj K D od "__class__" = some (.bind (.builtin "getset_descriptor.__get__") (.builtin "object.__class__")) := by
  obtain ⟨cd, hc, _⟩ := any_some C.hd
  unfold findObj
  rw [hc, Option.bind_some, C.ha, Option.bind_some]
  simp [C.hn, C.ht]
/-- type(e) is told by e.__class__, whatever fields e has -/
theorem class_of {Q : Option Value → Shared → Prop} (C : ExcC K D) (X : K.In s.heap) (I : InstAt s.heap x ox D od) (h : Q (some (.ref D)) { s with toks := s.toks + 1 }) : wpAny (model prog w) A (getAttr? (.ref x) "__class__") Q E s := by
  obtain ⟨hp, g, d, t, os⟩ := s
  have ty := I.type (M := model prog w)
  have isE : Looks (model prog w) hp (isInstance (.ref x) (.type "BaseException")) true := ty.andThen (looks_subIn X C.hs)
  have ne : (Value.builtin "BaseException.__getattribute__" == Value.builtin "object.__getattribute__") = false := by decide +kernel
  unfold getAttr? getAttrBy? getAttrBy
  refine wpAny_bind (wpAny_mkText (wpAny_bind (wpAny_attempt (wpAny_holding (wpAny_bind (ty.at (wpAny_bind ((looks_findIn (M := model prog w) X C.hg).at ?_))))))))
  show wpAny _ _ (if (onTheHeap (Value.ref D) && Value.builtin "BaseException.__getattribute__" == Value.builtin "object.__getattribute__") = true then _ else _) _ _ _
  rw [ne, Bool.and_false, if_neg Bool.false_ne_true]
  unfold getAttrByItsOwn hookBefore
  refine wpAny_bind ?_
  rw [if_pos (show onTheHeap (Value.ref D) = true from rfl)]
  refine (looks_findIn (M := model prog w) X C.hk).at ?_
  refine wpAny_bind (wpAny_attempt (wpAny_holding ?_))
  unfold callGetattribute
  rw [show (false && onTheHeap (Value.builtin "BaseException.__getattribute__")) = false from rfl, if_neg Bool.false_ne_true]
  unfold boundAndCalled
  rw [PySem.F.excAttr_ValueError.ga.bind (.ref x)]
  refine wpAny_bind (wpAny_pure ?_)
  show wpAny _ _ (call (.builtin "BaseException.__getattribute__") [.ref x, .str "__class__" t]) _ _ _
  refine wpAny_call (codeAny_call_builtin PySem.F.excAttr_ValueError.ga.plain PySem.F.entry_bexc_ga ?_)
  refine @check_slot (model prog w) _ _ ⟨hp, g, d, t + 1, os⟩ "BaseException.__getattribute__" "BaseException" "__getattribute__" (.ref x) [.str "__class__" t] [] _ (by decide +kernel) (by decide +kernel) isE (PySem.F.args_bexc_ga (.ref x) (.str "__class__" t)) ?_
  unfold Builtin.«object.__getattribute__»
  refine wpAny_bind (wpAny_of_eq (a := ((Value.ref x : Value), [Value.str "__class__" t])) (by first | rfl | (simp only [slotArgs]; rfl)) ?_)
  refine wpAny_bind (wpAny_pure (wpAny_bind (ty.at (wpAny_bind ((looks_find (M := model prog w) X I (class_at C)).at ?_)))))
  show wpAny _ _ (holding [Value.builtin "object.__class__"] (call (.builtin "getset_descriptor.__get__") [.builtin "object.__class__", .ref x, .ref D]) >>= ret) _ _ _
  refine wpAny_bind (wpAny_holding (wpAny_call (class_get (s := ⟨hp, g, d, t + 1, os⟩) (ox := ox) (od := od) X I C.hm ?_)))
  refine wpAny_pure ?_
  show wpAny _ _ (handedOut (.ref D)) _ _ _
  rw [handedOut_of (v := .ref D) rfl]
  first
    | exact wpAny_pure (wpAny_pure h)
    | exact wpAny_pure h
    | exact wpAny_pure (wpAny_bind (wpAny_pure (wpAny_pure h)))
theorem kitx_exc (C : ExcC K D) (Z : KitX K (.ref x) (.ref D) (fun h => InstAt h x ox D none)) : KitX K (.ref x) (.ref D) (fun h => InstAt h x ox D od) where
  ty := fun _ _ _ I => I.type
  it := fun M h X _ => by
    obtain ⟨cd, hc, _⟩ := any_some C.hd
    unfold clsIn at hc
    split at hc
    · rename_i c' d' cd' sl' ho
      intro A' Q' E' s' k q
      unfold isType loadHead
      exact wpAny_bind (wpAny_loadPart (k _ _ (X _ _ ho)) (wpAny_pure q))
    · cases hc
  ne := Z.ne
  ca := fun X I k => class_of C X I k
end
/-- what is seen of the exception's dict -/
def DOk (H : Hp) (d : Option Addr) : Prop := d = none ∨ ∃ dd fs, d = some dd ∧ H dd = some (.xd fs)
theorem inst_ok {X : Cx} {pins : List (Addr × Obj)} {σ : L2.St} {H : Hp} {s : Shared} {a D : Addr} {oe : Obj} {d : Option Addr} (I : Inv X pins σ H s) (hp : (a, oe) ∈ X.pn) (hz : Zc (.ref D) d oe) (hf : ∃ vs, oe.data = .fields vs) (hd : DOk H d) : ∃ od, PySem.W.InstAt s.heap a oe D od := by
  obtain ⟨hget, _⟩ := I.pin (a, oe) (List.mem_append_left _ hp)
  obtain ⟨vs, hv⟩ := hf
  have nc : PySem.W.notCls oe = true := by unfold PySem.W.notCls; rw [hv] <;> rfl
  rcases hd with e | ⟨dd, fs, e, ea⟩
  · exact ⟨none, hget, hz.1, nc, by rw [hz.2, e]; trivial⟩
  · have hx : ObjOk X.prog X.w H s.heap dd (.xd fs) := I.hok dd _ ea
    obtain ⟨mA, hns, _⟩ := hx
    obtain ⟨od, ho, _⟩ := lookIn_ns hns
    exact ⟨some od, hget, hz.1, nc, by rw [hz.2, e]; exact ho⟩
end PXI

/-! PX8: the check of a text against the compact syntax; every checked expression keeps to the evaluator. -/
namespace PX
open PySem PySem.Spec PyProof.Rows L2

structure Chk where
  N : List Str
  nm : List (Str × NameKind)
  fns : List (Str × Nat × List PyData)
  cons : List Str
  blt : List Str
  exc : List Str
  tabs : List Str
  hot : Bool := false
  fnh : List (Str × Nat) := []
  kfn : List (Str × Nat × Str × Nat × List PyData) := []
def Chk.vis (C : Chk) (x : Str) : Bool := match C.nm.lookup x with
  | some .local => true
  | some .cell => true
  | some .free => true
  | _ => false
def Chk.loc (C : Chk) (x : Str) : Bool := match C.nm.lookup x with
  | some .local => true
  | some .cell => true
  | _ => false
def Chk.gl (C : Chk) (x : Str) : Bool := match C.nm.lookup x with
  | some .globalImplicit => true
  | _ => false
def okName (x : Str) : Bool := !(x == ("__debug__" : Str)) && !(x == ("__classdict__" : Str)) && !(decide (x = ("__name__" : Str)))
def Chk.bl (C : Chk) (x : Str) : Bool := C.gl x && decide (x ∈ C.blt) && okName x
def Chk.sc (C : Chk) : Scope := ⟨.function, C.nm, false, false, []⟩
/-- no slice, no star, no set -/
def okX : Expr → Bool
  | .Slice .. => false
  | .Starred .. => false
  | .Set .. => false
  | _ => true
/-- no call without arguments -/
def okA : Expr → Bool
  | .Call _ [] _ _ => false
  | _ => true
def constIs : PyData → Const → Bool
  | .none, .none => true
  | .bool a, .bool b => a == b
  | .int a, .int b => decide (a = b)
  | .str a, .str b => decide (a = b)
  | _, _ => false
def tgN (C : Chk) : List Nat → List Expr → Bool
  | [], [] => true
  | i :: is, .Name x _ :: es => decide (C.N[i]? = some x) && C.loc x && tgN C is es
  | _, _ => false
def isT (C : Chk) : Tg → Expr → Bool
  | .nm i, .Name x _ => decide (C.N[i]? = some x) && C.loc x
  | .tp l, .Tuple es _ _ => tgN C l es
  | _, _ => false
/-- a class of exceptions by number: 99 is the built-in one -/
def isCls (C : Chk) (c : Nat) (x : Str) : Bool := if c = 99 then decide (x = ("ValueError" : Str)) && C.bl x else decide (C.exc[c]? = some x) && C.gl x && (okName x && !(x == ("" : Str)))
def isClss (C : Chk) : List Nat → List Expr → Bool
  | [], [] => true
  | c :: cs, .Name x _ :: es => isCls C c x && isClss C cs es
  | _, _ => false
def isTup : Expr → Bool
  | .Tuple .. => true
  | _ => false
def Bf.name : Bf → Str
  | .len => "len"
  | .list => "list"
  | .tuple => "tuple"
  | .abs => "abs"
  | .max2 => "max"
  | .min2 => "min"
  | .max1 => "max"
  | .min1 => "min"
  | .sum => "sum"
  | .all => "all"
  | .any => "any"
  | .int1 => "int"
  | .divmod => "divmod"
  | .str1 => "str"
  | .sort1 => "sorted"
def Ty.name : Ty → Str
  | .int => "int"
  | .bool => "bool"
  | .tuple => "tuple"
  | .list => "list"
  | .str => "str"
def sameD : PyData → PyData → Bool
  | .none, .none => true
  | .bool a, .bool b => a == b
  | .int a, .int b => decide (a = b)
  | .str a, .str b => decide (a = b)
  | _, _ => false
def sameAll : List PyData → List PyData → Bool
  | [], [] => true
  | d :: ds, e :: es => sameD d e && sameAll ds es
  | _, _ => false
def Exs.len : Exs → Nat
  | .nil => 0
  | .cons _ es => es.len + 1
mutual
def isE : Ex → Chk → Expr → Bool
  | .v i, C, x => match x with
    | .Name x _ => decide (C.N[i]? = some x) && C.vis x && okName x
    | _ => false
  | .c d, C, x => match x with
    | .Constant c _ _ => constIs d c
    | _ => false
  | .g n, C, x => match x with
    | .Name x _ => decide (C.cons[n]? = some x) && C.gl x && okName x
    | _ => false
  | .bop o a b, C, x => match x with
    | .BinOp x p y _ => decide (p = o.op) && isE a C x && isE b C y
    | _ => false
  | .neg a, C, x => match x with
    | .UnaryOp .USub x _ => isE a C x
    | _ => false
  | .cmp o a b, C, x => match x with
    | .Compare x [p] [y] _ => decide (p = o.op) && isE a C x && isE b C y && okX y
    | _ => false
  | .chain o p a b c, C, x => match x with
    | .Compare x [q1, q2] [y, z] _ => decide (q1 = o.op) && decide (q2 = p.op) && isE a C x && isE b C y && isE c C z && okX z
    | _ => false
  | .band es, C, x => match x with
    | .BoolOp .And xs _ => isL es C xs
    | _ => false
  | .bor es, C, x => match x with
    | .BoolOp .Or xs _ => isL es C xs
    | _ => false
  | .bnot a, C, x => match x with
    | .UnaryOp .Not x _ => isE a C x
    | _ => false
  | .tup es, C, x => match x with
    | .Tuple xs _ _ => isL es C xs
    | _ => false
  | .lst es, C, x => match x with
    | .List xs _ => isL es C xs
    | _ => false
  | .ix a b, C, x => match x with
    | .Subscript x y _ => isE a C x && isE b C y && okX y
    | _ => false
  | .sl a lo hi, C, x => match x with
    | .Subscript x (.Slice l h none _) _ => isE a C x && isO lo C l && isO hi C h
    | _ => false
  | .isi a t, C, x => match x with
    | .Call (.Name f _) [x, .Name tn _] [] _ => decide (f = ("isinstance" : Str)) && C.bl f && isE a C x && okX x && decide (tn = t.name) && C.bl tn
    | _ => false
  | .bf f es, C, x => match x with
    | .Call (.Name x _) xs [] _ => (!C.hot || decide (f.name = ("any" : Str))) && decide (x = f.name) && C.bl x && isL es C xs && decide (xs.length ≠ 0)
    | _ => false
  | .bits a, C, x => match x with
    | .Call (.Attribute x m p1) [] [] p => decide (m = ("bit_length" : Str)) && isE a C x && okA x && (p1.endLine == p.line)
    | _ => false
  | .call f es dfl, C, x => match x with
    | .Call (.Name x _) xs [] _ => match C.fns[f]? with
      | some (y, np, df) => !C.hot && decide (x = y) && C.gl x && okName x && isL es C xs && decide (es.len + dfl.length = np) && decide (dfl.length ≤ df.length) && dfl.all scalD && sameAll dfl (df.drop (df.length - dfl.length)) && decide (np < 1000)
      | none => false
    | _ => false
  | .comp own elt t it cond, C, x => match x with
    | .ListComp ex [⟨tx, ix, ifs, n⟩] sc _ => !C.hot && decide (n = 0) && blkC C.N C.sc sc own && isT { C with nm := sc.names } t tx && isI it C tx ix && isC cond { C with nm := sc.names } ifs && isE elt { C with nm := sc.names } ex && okX ix && t.slots.all (fun i => decide (i ∈ own.map (·.2)))
    | _ => false
  | .dict0, C, x => match x with
    | .Dict [] [] _ => true
    | _ => false
  | .lrng1 a, C, x => match x with
    | .Call (.Name l _) [.Call (.Name r _) [x] [] _] [] _ => !C.hot && decide (l = ("list" : Str)) && C.bl l && decide (r = ("range" : Str)) && C.bl r && isE a C x && okX x
    | _ => false
  | .lrev a, C, x => match x with
    | .Subscript y (.Slice none none (some (.UnaryOp .USub (.Constant (.int z) _ _) _)) _) _ => decide (z = 1) && isE a C y
    | .Call (.Name l _) [.Call (.Name r _) [x] [] _] [] _ => !C.hot && decide (l = ("list" : Str)) && C.bl l && decide (r = ("reversed" : Str)) && C.bl r && isE a C x && okX x
    | _ => false
  | .dget a es, C, x => match x with
    | .Call (.Attribute o m p1) [.Tuple ks _ _] [] p => decide (m = ("get" : Str)) && isE a C o && okA o && isL es C ks && (p1.endLine == p.line)
    | _ => false
  | .dix a es, C, x => match x with
    | .Subscript o (.Tuple ks _ _) _ => isE a C o && isL es C ks
    | _ => false
  | .dgv a k, C, x => match x with
    | .Call (.Attribute o m p1) [y] [] p => decide (m = ("get" : Str)) && isE a C o && okA o && isE k C y && okX y && (p1.endLine == p.line)
    | _ => false
  | .sl3 a lo hi st, C, x => match x with
    | .Subscript y (.Slice (some (.Constant (.int l) _ _)) (some (.Constant (.int h) _ _)) (some (.Constant (.int s) _ _)) _) _ => decide (l = lo) && decide (h = hi) && decide (s = st) && decide (st ≠ 0) && isE a C y
    | _ => false
  | .sortk n a, C, x => match x with
    | .Call (.Name f _) [y] [⟨some kw, .Name g _, _⟩] _ => match C.kfn[n]? with
      | some (g', _, kn, _, _) => !C.hot && decide (f = ("sorted" : Str)) && C.bl f && decide (kw = ("key" : Str)) && decide (g = g') && C.gl g && okName g && decide (kn = ("" : Str)) && isE a C y && okX y
      | none => false
    | _ => false
  | .lrng2 a b, C, x => match x with
    | .Call (.Name l _) [.Call (.Name r _) [x, y] [] _] [] _ => !C.hot && decide (l = ("list" : Str)) && C.bl l && decide (r = ("range" : Str)) && C.bl r && isE a C x && isE b C y && okX x && okX y
    | _ => false
  | .tget n a d, C, x => match x with
    | .Call (.Attribute (.Name t _) m ap) [e, .Constant (.int i) _ _] [] cp => decide (m = ("get" : Str)) && decide (C.tabs[n]? = some t) && C.gl t && okName t && isE a C e && okX e && decide (i = d) && (ap.endLine == cp.line)
    | _ => false
  | .nset a, C, x => match x with
    | .Call (.Name l _) [.Call (.Name s _) [e] [] _] [] _ => !C.hot && decide (l = ("len" : Str)) && C.bl l && decide (s = ("set" : Str)) && C.bl s && isE a C e && okX e
    | _ => false
  | .rep es k, C, x => match x with
    | .BinOp (.List xs _) p y _ => decide (p = .Mult) && isL es C xs && isE k C y
    | _ => false
  | .eis a cs, C, x => match x with
    | .Call (.Name f _) [x, y] [] _ => C.hot && decide (f = ("isinstance" : Str)) && C.bl f && isE a C x && okX x && (match y with
      | .Name _ _ => isClss C cs [y] && decide (cs.length = 1)
      | .Tuple ys _ _ => isClss C cs ys && decide (cs.length ≤ 100)
      | _ => false)
    | _ => false
  | .callh n es, C, x => match x with
    | .Call (.Name f _) xs [] _ => match C.fnh[n]? with
      | some (y, np) => C.hot && decide (f = y) && C.gl f && okName f && isL es C xs && decide (es.len = np) && decide (np ≠ 0)
      | none => false
    | _ => false
  | .plc a, C, x => match x with
    | .Attribute x m p1 => C.hot && decide (m = ("place" : Str)) && isE a C x && okA x
    | _ => false
  | .join a b, C, x => match x with
    | .Call (.Attribute x m p1) [y] [] p => decide (m = ("join" : Str)) && isE a C x && okA x && isE b C y && okX y && (p1.endLine == p.line)
    | _ => false
  | .sfind a b, C, x => match x with
    | .Call (.Attribute x m p1) [y] [] p => decide (m = ("find" : Str)) && isE a C x && okA x && isE b C y && okX y && (p1.endLine == p.line)
    | _ => false
  | .sstart a b, C, x => match x with
    | .Call (.Attribute x m p1) [y] [] p => decide (m = ("startswith" : Str)) && isE a C x && okA x && isE b C y && okX y && (p1.endLine == p.line)
    | _ => false
  | .callk n es mid e, C, x => match x with
    | .Call (.Name f _) (x1 :: xs) [⟨some kw, y, _⟩] _ => match C.kfn[n]? with
      | some (g, np, kn, m, df) => !C.hot && decide (f = g) && C.gl f && okName f && isL es C (x1 :: xs) && decide (es.len = m) && decide (m + df.length + 1 = np) && decide (kw = kn) && isE e C y && mid.all scalD && sameAll mid df && !decide (kn = ("" : Str))
      | none => false
    | _ => false
  | .stuck, C, x => true
def isL : Exs → Chk → List Expr → Bool
  | .nil, C, xs => match xs with
    | [] => true
    | _ => false
  | .cons e es, C, xs => match xs with
    | x :: xs => isE e C x && okX x && isL es C xs
    | _ => false
def isO : Ox → Chk → Option Expr → Bool
  | .no, C, x => match x with
    | none => true
    | _ => false
  | .yes e, C, x => match x with
    | some x => isE e C x
    | _ => false
def isC : Ox → Chk → List Expr → Bool
  | .no, C, x => match x with
    | [] => true
    | _ => false
  | .yes e, C, x => match x with
    | [x] => isE e C x
    | _ => false
def isI : Itx → Chk → Expr → Expr → Bool
  | .seq e, C, tg, x => isE e C x
  | .rng1 a, C, tg, x => match x with
    | .Call (.Name r _) [x] [] _ => decide (r = ("range" : Str)) && C.bl r && isE a C x && okX x
    | _ => false
  | .rng2 a b, C, tg, x => match x with
    | .Call (.Name r _) [x, y] [] _ => decide (r = ("range" : Str)) && C.bl r && isE a C x && isE b C y && okX x && okX y
    | _ => false
  | .rng3 a b c, C, tg, x => match x with
    | .Call (.Name r _) [x, y, z] [] _ => decide (r = ("range" : Str)) && C.bl r && isE a C x && isE b C y && isE c C z && okX x && okX y && okX z
    | _ => false
  | .enum e, C, tg, x => match x with
    | .Call (.Name r _) [x] [] _ => decide (r = ("enumerate" : Str)) && C.bl r && isE e C x && okX x && isTup tg
    | _ => false
  | .zip a b, C, tg, x => match x with
    | .Call (.Name r _) [x, y] [] _ => decide (r = ("zip" : Str)) && C.bl r && isE a C x && isE b C y && okX x && okX y && isTup tg
    | _ => false
  | .zip3 a b c, C, tg, x => match x with
    | .Call (.Name r _) [x, y, z] [] _ => decide (r = ("zip" : Str)) && C.bl r && isE a C x && isE b C y && isE c C z && okX x && okX y && okX z && isTup tg
    | _ => false
  | .rev e, C, tg, x => match x with
    | .Call (.Name r _) [x] [] _ => decide (r = ("reversed" : Str)) && C.bl r && isE e C x && okX x
    | _ => false
end

/-- a table of the module: text keys, ints -/
def TabOk (K : PySem.W.Frag) (w : World) (a : Addr) (t : List (Str × Int)) : Prop := ∃ es m, K.lookup a = some ⟨.type "dict", none, .dict es m, #[]⟩ ∧ PySem.W.KeysLit w.params es.toList ∧ (a == sysModules) = false ∧
  ∀ z : Str, ∃ r, PySem.W.nsIn K a z = some r ∧ (match t.lookup z with
    | some i => ∃ u, r = some u ∧ RelV (.int i) u
    | none => r = none)
def dOf (c : Nat) (a : Tk) : Option Addr := if c < 16 then none else some a.2
/-- the exception that is handled: where it stands, its class -/
structure HotX (X : Cx) (G : Gd) (cl : Nat → Value) (exc : List Str) : Prop where
  ex : ∃ (c : Nat) (a : Tk) (D : Addr) (oe : Obj), G.hot = some (c, a) ∧ (a.1, oe) ∈ X.pn ∧ L2N.Zn (.ref D) (dOf c a) oe ∧ (∃ vs, oe.data = .fields vs) ∧ X.A.handled = some (.ref a.1) ∧ cl (c % 16) = .ref D ∧ ExcC X.K D ∧ ∃ y, exc[c % 16]? = some y ∧ y ≠ ("" : Str)
/-- what is known of the classes of exceptions -/
structure ClsOk (K : PySem.W.Frag) (mg : Str → Option Value) (exc : List Str) (cl : Nat → Value) : Prop where
  kit : ∀ (c C D D2 : Nat) x y, exc[c]? = some x → x ≠ ("" : Str) → exc[C]? = some y → y ≠ ("" : Str) → cl c = .ref D → cl C = .ref D2 → PySem.W.kitOne K (.ref D) (.ref D2) = some (subC c C)
  exm : ∀ (c C D2 : Nat) x y, exc[c]? = some x → x ≠ ("" : Str) → exc[C]? = some y → y ≠ ("" : Str) → cl C = .ref D2 → PySem.W.exmOne K (cl c) (.ref D2) = some (subC c C)
  own : ∀ (c : Nat) x, exc[c]? = some x → x ≠ ("" : Str) → ∃ D, cl c = .ref D ∧ ExcC K D
  plc : ∀ (c D : Nat) x, exc[c]? = some x → x ≠ ("" : Str) → cl c = .ref D → PySem.W.findIn K (.ref D) "place" = some none
  kitV : ∀ (c D : Nat) x, exc[c]? = some x → x ≠ ("" : Str) → cl c = .ref D → PySem.W.kitOne K (.ref D) (.type "ValueError") = some true
/-- what a def promises where an exception is handled: it lets none out -/
structure FnX (P : Program) (w : World) (K : PySem.W.Frag) (mg : Str → Option Value) (base : Heap) (exc : List Str) (cl : Nat → Value) (k : Nat) (f : Addr) (fd : FuncData) (ps : List Str) (g : Nat × Tk → List PyData → Rr) (np : Nat) : Prop where
  len : ps.length = np
  run : ∀ (A : Around) (outer : List Env) (s : Shared) (H : Hp) (args : Args) (us : List Value) (vs : List V) (Q : VK) (p : Addr × Obj) (c D : Nat) (dd : Addr), L2H.RoomH k A → L2H.Hot1 A p → L2H.PinOk outer H s p → Env0 P w K mg base A outer s H → BindsTo s fd args (ps.zip us) → Vals vs us →
    cl (c % 16) = .ref D → L2N.Zn (.ref D) (dOf c (p.1, dd)) p.2 → ExcC K D → (∃ y, exc[c % 16]? = some y ∧ y ≠ ("" : Str)) → spD K cl (g (c, (p.1, dd))) np vs H Q (fun _ _ _ => False) → codeAny (model P w) A (.call (.ref f) args) (CR (L2N.CX P w) outer P w H s Q (fun _ _ _ => False)) s
/-- a class with a place: what its __init__ does -/
def IniOk (P : Program) (w : World) (K : PySem.W.Frag) (mg : Str → Option Value) (base : Heap) (cl : Nat → Value) (k n : Nat) : Prop := ∃ (Ca fI : Addr) (fd : FuncData) (j : Nat), cl n = .ref Ca ∧ OexC K Ca ∧ PySem.W.findIn K (.ref Ca) "__init__" = some (some (.ref fI)) ∧ PySem.W.typeIn K (.ref fI) = some (.type "function") ∧
  j + 1 ≤ k ∧ FnOk P w K mg base (L2N.CX P w) j fI fd ["self", "place"] (PXI.spIn K Ca) ∧ Binds K fd ["self", "place"] []
/-- a def that is called by a keyword; where that is empty: one that is a key of sorted -/
def KfOk (P : Program) (w : World) (K : PySem.W.Frag) (mg : Str → Option Value) (base : Heap) (cl : Nat → Value) (k : Nat) (f : List PyData → Rr) (x : Str) (np : Nat) (kn : Str) (m : Nat) (df : List PyData) : Prop :=
  (kn ≠ "" → ∃ fa fd ps its, FnOk P w K mg base (L2N.CX P w) k fa fd ps (spD K cl f np) ∧ mg x = some (.ref fa) ∧ PySem.W.keepIn K (.ref fa) = true ∧
    KBn K fd ps m [kn] (fun us ws => us ++ (its ++ ws)) (fun vs zs => vs ++ (df.map dV ++ zs))) ∧
  (kn = "" → ∃ fa fd ps j, j + 2 ≤ k ∧ FnOk P w K mg base (L2N.CX P w) j fa fd ps (spD K cl f 1) ∧ mg x = some (.ref fa) ∧ PySem.W.keepIn K (.ref fa) = true ∧ Binds K fd ps [])
structure CtxOk (X : Cx) (C : Chk) (W : WX) (G : Gd) (cl : Nat → Value) (k : Nat) : Prop where
  calm : C.hot = false → X.calm = true
  nd : X.N.Nodup
  nN : X.N = C.N
  kind : X.env.scope.kind = .function
  sr : ∀ x kd, C.nm.lookup x = some kd → X.env.scope.names.lookup x = some kd ∨ (kd = .free ∧ X.env.scope.names.lookup x = some .cell)
  fnok : ∀ x, C.loc x = true → X.fn x = true ∨ X.env.scope.names.lookup x = some .local
  room : C.hot = false → Room k X.A
  roomh : L2H.RoomH k X.A
  hotx : C.hot = true → HotX X G cl C.exc
  tk : L2N.Takes X W
  pass : PassesOwn (model X.prog X.w) X.A X.env X.xe
  blt : ∀ x ∈ C.blt, X.mg x = none
  con : ∀ (n : Nat) x, C.cons[n]? = some x → ∃ d u, G.con n = some d ∧ scalD d = true ∧ X.mg x = some u ∧ RelV (dV d) u
  exc : ∀ (n : Nat) x, C.exc[n]? = some x → x ≠ ("" : Str) → ∃ Ca : Addr, X.mg x = some (.ref Ca) ∧ PySem.W.keepIn X.K (.ref Ca) = true ∧ Raises X (.ref Ca) ∧ cl n = .ref Ca ∧ (n < 9 → ∃ (bmB : List Value) (B newId initId : String), ExcBaseFacts B newId initId bmB ∧ PySem.W.excIn X.K Ca bmB newId = true)
  tab : ∀ (n : Nat) x, C.tabs[n]? = some x → ∃ t a, G.tab n = some t ∧ X.mg x = some (.ref a) ∧ TabOk X.K X.w a t
  cls : ClsOk X.K X.mg C.exc cl
  hfn : ∀ (n : Nat) x np, C.fnh[n]? = some (x, np) → ∃ fa fd ps, FnX X.prog X.w X.K X.mg X.base C.exc cl k fa fd ps (G.fnh n) np ∧ X.mg x = some (.ref fa) ∧ PySem.W.keepIn X.K (.ref fa) = true ∧ Binds X.K fd ps []
  kfns : ∀ (n : Nat) x np kn m df, C.kfn[n]? = some (x, np, kn, m, df) → KfOk X.prog X.w X.K X.mg X.base cl k (G.kfn n) x np kn m df
  exi : ∀ (n : Nat) x, C.exc[n]? = some x → x ≠ ("" : Str) → n = 9 ∨ n = 10 → C.hot = false → IniOk X.prog X.w X.K X.mg X.base cl k n
  fns : ∀ (n : Nat) x np dfl, C.fns[n]? = some (x, np, dfl) → ∃ fa fd ps, FnOk X.prog X.w X.K X.mg X.base (L2N.CX X.prog X.w) k fa fd ps (spF X.K cl (G.fn n) np) ∧ X.mg x = some (.ref fa) ∧ PySem.W.keepIn X.K (.ref fa) = true ∧
    ∀ j, j ≤ dfl.length → ∃ ds, Vals ((dfl.drop j).map dV) ds ∧ Binds X.K fd ps ds
end PX

/-! PX9: soundness of expressions. -/
namespace PX
open PySem PySem.Spec PyProof.Rows L2

section
variable {X : Cx} {C : Chk} {W : WX} {G : Gd} {cl : Nat → Value} {k : Nat}
theorem CtxOk.vis (O : CtxOk X C W G cl k) {x : Str} (h : C.vis x = true) : Vis X.env.scope x := by
  unfold Chk.vis at h
  cases e : C.nm.lookup x with
  | none => rw [e] at h; cases h
  | some kd =>
    rw [e] at h
    rcases O.sr x kd e with z | ⟨z, z2⟩
    · cases kd <;> first | exact .inl z | exact .inr (.inl z) | exact .inr (.inr z) | cases h
    · exact .inr (.inl z2)
theorem CtxOk.loc (O : CtxOk X C W G cl k) {x : Str} (h : C.loc x = true) : Loc X.env.scope x := by
  unfold Chk.loc at h
  cases e : C.nm.lookup x with
  | none => rw [e] at h; cases h
  | some kd =>
    rw [e] at h
    rcases O.sr x kd e with z | ⟨z, z2⟩
    · cases kd <;> first | exact .inl z | exact .inr z | cases h
    · exact .inr z2
theorem CtxOk.gl (O : CtxOk X C W G cl k) {x : Str} (h : C.gl x = true) : Gl X x := by
  unfold Chk.gl at h
  cases e : C.nm.lookup x with
  | none => rw [e] at h; cases h
  | some kd =>
    rw [e] at h
    rcases O.sr x kd e with z | ⟨z, z2⟩
    · cases kd <;> first | exact z | cases h
    · subst z
      cases h
theorem CtxOk.bl (O : CtxOk X C W G cl k) {x : Str} (h : C.bl x = true) : Gl X x ∧ X.mg x = none ∧ okName x = true := by
  unfold Chk.bl at h
  simp only [Bool.and_eq_true, decide_eq_true_eq] at h
  exact ⟨O.gl h.1.1, O.blt x h.1.2, h.2⟩
theorem CtxOk.units (O : CtxOk X C W G cl k) : X.A.units + 64 < cLine := by
  have := O.roomh.un
  omega
end
theorem okName_ok {x : Str} (h : okName x = true) : (x == ("__debug__" : Str)) = false ∧ (x == ("__classdict__" : Str)) = false ∧ x ≠ "__name__" := by
  unfold okName at h
  simp only [Bool.and_eq_true, Bool.not_eq_true', decide_eq_false_iff_not] at h
  exact ⟨h.1.1, h.1.2, h.2⟩
theorem star_ok {x : Expr} {xs : List Expr} {env : Env} (h : okX x = true) : starEach (x :: xs) env = (false, eval x env) :: starEach xs env := by
  cases x <;> first | rfl | cases h
theorem plain_ok {x : Expr} (h : okX x = true) : PlainIx x := by
  cases x <;> first | exact fun _ _ => rfl | cases h
theorem beh_ok {x : Expr} {o : CmpOp} (h : okX x = true) : behindInMarks o x = false := by
  cases x <;> first | rfl | cases h
theorem fold_ok {x : Expr} {env : Env} (h : okX x = true) : ∀ v, foldedSetIterable x env v = pure v := by
  cases x <;> first | exact fun _ => rfl | cases h
theorem base_ok {x : Expr} {m : Str} {env : Env} (h : okA x = true) : attributeBase x m env (eval x env) = eval x env := by
  cases x
  case Call f as ks p =>
    cases as with
    | nil => cases h
    | cons a as => cases f <;> rfl
  all_goals rfl
theorem isL_star {C : Chk} {env : Env} {pos : Pos} : ∀ (es : Exs) (xs : List Expr), isL es C xs = true → (backTo pos (starEach xs env)).any (·.1) = false
  | .nil, xs, h => by
    unfold isL at h
    cases xs with
    | nil => rfl
    | cons x xs => cases h
  | .cons e es, xs, h => by
    unfold isL at h
    cases xs with
    | nil => cases h
    | cons x xs =>
      simp only [Bool.and_eq_true] at h
      rw [star_ok h.1.2]
      have ih := isL_star (env := env) (pos := pos) es xs h.2
      unfold backTo at ih ⊢
      simpa using ih
theorem evs_len {G : Gd} : ∀ (es : Exs) (r : RE) (ds : List PyData), evs G es r = .ok ds → ds.length = es.len
  | .nil, r, ds, h => by
    rw [evs] at h
    cases h
    rfl
  | .cons e es, r, ds, h => by
    rw [evs] at h
    cases e1 : ev G e r with
    | ok x =>
      rw [e1] at h
      have h : ((evs G es r).bind fun l => .ok (x.d :: l)) = Res.ok ds := h
      cases e2 : evs G es r with
      | ok l =>
        rw [e2] at h
        have h : Res.ok (x.d :: l) = Res.ok ds := h
        cases h
        have := evs_len es r l e2
        show l.length + 1 = es.len + 1
        omega
      | exc c => rw [e2] at h; cases h
      | fail => rw [e2] at h; cases h
    | exc c => rw [e1] at h; cases h
    | fail => rw [e1] at h; cases h
theorem sameD_eq {d e : PyData} (h : sameD d e = true) : d = e := by
  cases d <;> cases e <;> first | rfl | cases h | skip
  all_goals first
    | (rename_i a b; have q : (a == b) = true := h; rw [eq_of_beq q])
    | (rename_i a b; have q : decide (a = b) = true := h; rw [of_decide_eq_true q])
theorem sameAll_eq : ∀ {ds es : List PyData}, sameAll ds es = true → ds = es
  | [], [], _ => rfl
  | [], e :: es, h => by cases h
  | d :: ds, [], h => by cases h
  | d :: ds, e :: es, h => by
    have h' : (sameD d e && sameAll ds es) = true := h
    rw [Bool.and_eq_true] at h'
    rw [sameD_eq h'.1, sameAll_eq h'.2]

section
variable {X : Cx} {CT : CXT} {k : Nat} {f : Addr} {fd : FuncData} {ps : List Str} {sp : Sp} {E : L2.St → XK} {x : Str} {p pos : Pos} {t : TA} {ds : List Value} {dvs : List V}
/-- a def called: what is written, then defaults; what it raises is wished for at the caller's slots -/
theorem run_fnD {pins : List (Addr × Obj)} {σ : L2.St} {H : Hp} {s : Shared} {Q : VK} {us : List Value} {vs : List V} (F : FnOk X.prog X.w X.K X.mg X.base CT k f fd ps sp) (hr : Room k X.A) (hb : Binds X.K fd ps ds) (hd : Vals dvs ds)
    (hx : PassesAt CT X σ (E σ)) (I : Inv X pins σ H s) (r : Vals vs us) (h : sp (vs ++ dvs) H Q (E σ)) : wpAny (model X.prog X.w) X.A (call (.ref f) us) (EP X pins σ Q) X.xe s := by
  have rr := r.append hd
  have hlen : (us ++ ds).length = ps.length := rr.length.symm.trans (F.len _ _ _ _ h)
  have go := F.run X.A X.stack s H ⟨us, []⟩ (us ++ ds) (vs ++ dvs) Q (E σ) hr I.env0 (hb s us I.kIn hlen) rr h
  refine wpAny_call (codeAny_mono go fun res s2 q => ?_)
  cases res with
  | error e => exact hx pins H s e s2 I q
  | ok fl => cases fl <;> first | exact False.elim q | exact I.after q
theorem pe_callD {e : Expr} {r : List Expr} (F : FnOk X.prog X.w X.K X.mg X.base CT k f fd ps sp) (hr : Room k X.A) (hg : Gl X x) (hm : X.mg x = some (.ref f)) (hk : PySem.W.keepIn X.K (.ref f) = true) (hb : Binds X.K fd ps ds) (hd : Vals dvs ds)
    (hx : ∀ σ, PassesAt CT X σ (E σ)) (ha : PA X (e :: r) t) (hdb : (x == ("__debug__" : Str)) = false) (h1 : starEach (e :: r) X.env = (false, eval e X.env) :: starEach r X.env) (h2 : (backTo pos (starEach r X.env)).any (·.1) = false) :
    PE X (.Call (.Name x p) (e :: r) [] pos) (fun σ H Q => t σ H fun vs H1 => sp (vs ++ dvs) H1 Q (E σ)) := by
  refine ⟨fun pins s σ H Q I h => wpAny_Call_Name_kw (ld_glob I hg hm ?_ hdb)⟩
  refine PySem.W.callWith_K (h₀ := X.base) I.ok.mod.kin hk (thn (ha.run pos pins s σ H _ I h) fun us s1 hh => ?_) h1 h2
  obtain ⟨vs, H1, I1, r1, q⟩ := hh
  exact ⟨I1.kIn, run_fnD F hr hb hd (hx σ) I1 r1 q⟩
theorem pe_callD0 (F : FnOk X.prog X.w X.K X.mg X.base CT k f fd ps sp) (hr : Room k X.A) (hg : Gl X x) (hm : X.mg x = some (.ref f)) (hk : PySem.W.keepIn X.K (.ref f) = true) (hb : Binds X.K fd ps ds) (hd : Vals dvs ds)
    (hx : ∀ σ, PassesAt CT X σ (E σ)) (hdb : (x == ("__debug__" : Str)) = false) : PE X (.Call (.Name x p) [] [] pos) (fun σ H Q => sp ([] ++ dvs) H Q (E σ)) :=
  ⟨fun pins s σ H Q I h => wpAny_Call_Name_kw (ld_glob I hg hm (PySem.W.callWith_K0 I.kIn hk (run_fnD (us := []) F hr hb hd (hx σ) I .nil h)) hdb)⟩
end

/-! ### the block of a comprehension -/
section
variable {X : Cx} {C : Chk} {W : WX} {G : Gd} {cl : Nat → Value} {k : Nat}
theorem lookup_free {sc : Scope} : ∀ {names : List (Str × NameKind)} {x : Str}, names.lookup x = some .free →
    (names.map fun (n, k) => if (k == NameKind.free && sc.kind == .function && sc.names.lookup n == some .cell) then (n, NameKind.cell) else (n, k)).lookup x = some .free ∨
    (names.map fun (n, k) => if (k == NameKind.free && sc.kind == .function && sc.names.lookup n == some .cell) then (n, NameKind.cell) else (n, k)).lookup x = some .cell
  | [], x, h => by simp at h
  | (n, kd) :: r, x, h => by
    rw [List.map_cons]
    cases hx : x == n with
    | true =>
      simp only [List.lookup_cons, hx] at h
      cases h
      by_cases hc : (NameKind.free == NameKind.free && sc.kind == .function && sc.names.lookup n == some .cell) = true
      · right; simp only [hc, if_true, List.lookup_cons, hx]
      · left; simp only [hc, if_false, List.lookup_cons, hx, Bool.false_eq_true]
    | false =>
      simp only [List.lookup_cons, hx] at h
      have ih := lookup_free (sc := sc) h
      by_cases hc : (kd == NameKind.free && sc.kind == .function && sc.names.lookup n == some .cell) = true
      · simp only [hc, if_true, List.lookup_cons, hx]; exact ih
      · simp only [hc, if_false, List.lookup_cons, hx, Bool.false_eq_true]; exact ih
theorem takes0N {X : Cx} : L2N.Takes X (fun _ _ _ _ => False) := fun _ _ ⟨_, _, _, _, _, _, _, _, _, _, _, _, _, _, _, _, w⟩ => w.elim
theorem CtxOk.blk (O : CtxOk X C W G cl k) (hh : C.hot = false) {sc : Scope} {own : List (Str × Nat)} (h : blkC C.N C.sc sc own = true) (s : Shared) (H : Hp) (L : Addr) (cs : List (Str × Addr)) (fp : List Addr) :
    CtxOk (X.blk s H sc (compEnvC sc cs L X.env) fp) { C with nm := sc.names } W0 G cl k where
  calm := O.calm
  nd := O.nd
  nN := O.nN
  kind := (blkOk_by h).kind
  sr := fun x kd e => by
    by_cases hf : kd = .free
    · subst hf
      rcases lookup_free (sc := X.env.scope) e with z | z
      · exact .inl z
      · exact .inr ⟨rfl, z⟩
    · exact .inl (lookup_relS_keep (sc := X.env.scope) hf e)
  fnok := fun x e => by
    unfold Chk.loc at e
    cases q : sc.names.lookup x with
    | none => dsimp only at e; rw [q] at e; cases e
    | some kd =>
      dsimp only at e
      rw [q] at e
      cases kd <;> try cases e
      · exact .inr (lookup_relS_keep (sc := X.env.scope) (by decide) q)
      · left
        show (sc.names.lookup x == some .cell) = true
        rw [q]
        rfl
  room := O.room
  roomh := O.roomh
  hotx := fun z => absurd (hh.symm.trans z) Bool.false_ne_true
  cls := O.cls
  hfn := O.hfn
  tk := takes0N
  pass := PassesOwn.never
  blt := O.blt
  con := O.con
  exc := O.exc
  tab := O.tab
  kfns := O.kfns
  exi := O.exi
  fns := O.fns
theorem CtxOk.blkOk (O : CtxOk X C W G cl k) {sc : Scope} {own : List (Str × Nat)} (h : blkC C.N C.sc sc own = true) : BlkOk X.N X.env.scope sc own := by
  have b := blkOk_by h
  refine ⟨b.kind, b.uniq, by rw [O.nN]; exact b.ix, fun y hy e => ?_, by rw [O.nN]; exact b.own⟩
  rcases b.free y hy e with z | z
  · rcases O.sr _ _ z with q | ⟨q, _⟩
    · exact .inl q
    · cases q
  · rcases O.sr _ _ z with q | ⟨_, q⟩
    · exact .inr q
    · exact .inl q
theorem pgn_ok (O : CtxOk X C W G cl k) : ∀ (l : List Nat) (es : List Expr), tgN C l es = true → PGs X es (gNames l) ∧ (assignEach es X.env).length = l.length ∧ (assignEach es X.env).findIdx? (·.1) = none
  | [], [], h => ⟨pgs_nil, rfl, rfl⟩
  | [], e :: es, h => by cases e <;> cases h
  | i :: is, [], h => by cases h
  | i :: is, e :: es, h => by
    cases e <;> try cases h
    rename_i x pos
    have h' : (decide (C.N[i]? = some x) && C.loc x && tgN C is es) = true := h
    simp only [Bool.and_eq_true, decide_eq_true_eq] at h'
    obtain ⟨a, b, c⟩ := pgn_ok O is es h'.2
    refine ⟨pgs_cons (pg_name O.nd (by rw [O.nN]; exact h'.1.1) (O.loc h'.1.2) (O.fnok x h'.1.2)) a, ?_, ?_⟩
    · show (assignEach es X.env).length + 1 = is.length + 1
      rw [b]
    · show List.findIdx? (·.1) ((false, assign (.Name x pos) X.env) :: assignEach es X.env) = none
      rw [List.findIdx?_cons, c]
      rfl
theorem PG_or {X : Cx} {e : Expr} {t t' : TG} (h : PG X e t) (h' : PG X e t') : PG X e (fun v σ H Q => t v σ H Q ∨ t' v σ H Q) := ⟨fun pins s σ H v u Q I r q => q.elim (h.run pins s σ H v u Q I r) (h'.run pins s σ H v u Q I r)⟩
theorem pg_ok (O : CtxOk X C W G cl k) (hh : C.hot = false) {t : Tg} {e : Expr} (h : isT C t e = true) : PG X e (gT X.K t) := by
  cases t with
  | nm i =>
    cases e <;> try cases h
    rename_i x pos
    have h' : (decide (C.N[i]? = some x) && C.loc x) = true := h
    simp only [Bool.and_eq_true, decide_eq_true_eq] at h'
    exact pg_name O.nd (by rw [O.nN]; exact h'.1) (O.loc h'.2) (O.fnok x h'.2)
  | tp l =>
    cases e <;> try cases h
    rename_i es kk pos
    obtain ⟨a, b, c⟩ := pgn_ok O l es h
    exact PG_or (pg_tup (O.calm hh) a b c) (pg_lst (O.calm hh) a b c)
end

/-! ### a table asked; a set counted -/
section
variable {X : Cx} {a : Expr} {ta : TE}
theorem pe_tget {x : Str} {e f : Expr} {tf : TE} {p apos cpos : Pos} {A : Addr} {t : List (Str × Int)} (hg : Gl X x) (hm : X.mg x = some (.ref A)) (ok : TabOk X.K X.w A t) (hdb : (x == ("__debug__" : Str)) = false) (he : PE X e ta) (hf : PE X f tf) (m : M2 X (.Name x p) "get" apos e f cpos) :
    PE X (.Call (.Attribute (.Name x p) "get" apos) [e, f] [] cpos) (fun σ H Q => ta σ H fun y H1 => tf σ H1 fun v H2 => ∃ z d, y = .str z ∧ v = .int d ∧ Q (.int ((t.lookup z).getD d)) H2) := by
  refine ⟨fun pins s σ H Q I h => ?_⟩
  obtain ⟨es, n, hl, hk, hd, hv⟩ := ok
  have mo := fun (s : Shared) (k : X.K.In s.heap) => PySem.W.mapOf_K (prog := X.prog) (w := X.w) (h := s.heap) k hl hk
  refine wpAny_Call_method m.base m.few m.line PySem.F.plainAttrs_dict PySem.F.slot_dict_get PySem.F.type_dict_get (ld_glob I hg hm ?_ hdb)
  refine ⟨(mo s I.kIn).typeIs, fun b q => ?_, ?_⟩
  · cases q
    exact ⟨_, I.kIn _ _ hl, rfl⟩
  rw [m.trees]
  refine Calls.callWith_builtin rfl (Calls.evalArgs_plain (Calls.spliced_cons (thn (he.run pins s σ H _ I h) fun iv s2 ⟨y, H2, I2, ry, q2⟩ =>
    Calls.spliced_cons (thn (hf.run pins s2 σ H2 _ I2 q2) fun fv s3 ⟨v, H3, I3, rv, z, d, ey, ev, q3⟩ => Calls.spliced_nil ?_))))
  subst ey ev
  obtain ⟨tz, rfl⟩ := ry
  obtain ⟨td, rfl⟩ := rv
  obtain ⟨r, e1, e2⟩ := hv z
  refine call_meetsIn PySem.F.slot_dict_get (mo s3 I3.kIn).typeIs PySem.F.entry_dict_get (PySem.F.args_dict_get_3 _ _ _) (meets_dict_get_default (strKind X.prog X.w) A (strKind_is X.prog X.w z tz) hd (.int d td)) ⟨_, mo s3 I3.kIn, ?_⟩
  rw [PySem.W.find_K hl e1]
  refine ⟨.int ((t.lookup z).getD d), H3, I3.tok _, ?_, q3⟩
  cases e3 : t.lookup z with
  | none =>
    rw [e3] at e2
    rw [show r = none from e2]
    exact ⟨td, rfl⟩
  | some i =>
    rw [e3] at e2
    obtain ⟨u, e4, e5⟩ := e2
    rw [e4]
    exact e5
theorem pe_nset {p p2 q pos : Pos} (hg : Gl X "len") (hm : X.mg "len" = none) (hg2 : Gl X "set") (hm2 : X.mg "set" = none) (ha : PE X a ta) (hc : X.calm = true) (na : starEach [a] X.env = (false, eval a X.env) :: starEach [] X.env) :
    PE X (.Call (.Name "len" p) [.Call (.Name "set" p2) [a] [] q] [] pos) (fun σ H Q => ta σ H fun x H1 => ∃ (l : Addr) (ns : List Int), x = .ref l ∧ SqL X.K H1 l (ns.map V.int) ∧ ns.length ≤ 4000 ∧ Q (.int ((PyProof.Rows.firstMet (fun i => ns.getD i 0) ns.length).length : Nat)) H1) := by
  refine ⟨fun pins s σ H Q I h => ?_⟩
  refine Call_ (ld_blt I hg hm boot_len ?_)
  refine PyProof.Rows.callWith_builtin1 (PyProof.Rows.args_cons ?_ rfl) rfl rfl
  refine Call_ (ld_blt I hg2 hm2 boot_set ?_)
  refine PyProof.Rows.callWith_type1 (PyProof.Rows.args_cons (thn (ha.run pins s σ H _ I h) fun v s1 ⟨x, H1, I1, r1, q1⟩ => PyProof.Rows.args_nil ?_) na) na rfl
  obtain ⟨l, ns, rfl, hq, hl, q1⟩ := q1
  cases r1
  obtain ⟨its, r, pl, hz⟩ := I1.list hq
  have hlen : its.toArray.size = ns.length := by rw [List.size_toArray, ← r.length, List.length_map]
  refine call_set_list (I1.ok.hd hc) pl.isList (by simpa using RZ.intsAre_vals r) (by rw [hlen]; unfold scanBound; omega) fun h' tk hS hk => ?_
  refine PyProof.Rows.args_nil ?_
  rw [hlen] at hS
  obtain ⟨o, es, ep, t, ho, hex, hd, _, _, _, hf, hn⟩ := hS
  have I2 : Inv X pins σ H1 { s1 with heap := h', toks := tk } := I1.kept fun b o e => hk b o (Heap.lt_size e) e
  have hb := PyProof.Rows.firstMet_length_le (fun i => ns.getD i 0) ns.length
  exact call_len_set ho hex hd hf (by rw [hn] <;> omega) ⟨.int _, H1, I2.tok _, ⟨_, by rw [hn]⟩, q1⟩
end
end PX

/-! PX10: soundness of expressions, all together. -/
namespace PX
open PySem PySem.Spec PyProof.Rows L2

def SoundE (G : Gd) (cl : Nat → Value) (k : Nat) (e : Ex) : Prop := ∀ (C : Chk) (x : Expr) (X : Cx) (W : WX), CtxOk X C W G cl k → isE e C x = true →
  PE X x (canE X.K W cl (ev G e)) ∧ PT X x (canT X.K W cl fun r => asB (ev G e r))
def SoundL (G : Gd) (cl : Nat → Value) (k : Nat) (es : Exs) : Prop := ∀ (C : Chk) (xs : List Expr) (X : Cx) (W : WX), CtxOk X C W G cl k → isL es C xs = true →
  PA X xs (canA X.K W cl (evs G es)) ∧
  (∀ pos, xs ≠ [] → PE X (.BoolOp .And xs pos) (canE X.K W cl (evAnd G es)) ∧ PW X (.BoolOp .And xs pos) (canT X.K W cl fun r => asB (evAnd G es r))) ∧
  (∀ pos, xs ≠ [] → PE X (.BoolOp .Or xs pos) (canE X.K W cl (evOr G es)) ∧ PW X (.BoolOp .Or xs pos) (canT X.K W cl fun r => asB (evOr G es r)))
def SoundO (G : Gd) (cl : Nat → Value) (k : Nat) (o : Ox) : Prop :=
  (∀ (C : Chk) (x : Option Expr) (X : Cx) (W : WX), CtxOk X C W G cl k → isO o C x = true → PO X x (canO X.K W cl (evo G o))) ∧
  (∀ (C : Chk) (xs : List Expr) (X : Cx) (W : WX), CtxOk X C W G cl k → isC o C xs = true → PTs X xs (canT X.K W cl (evc G o)))
def SoundI (G : Gd) (cl : Nat → Value) (k : Nat) (i : Itx) : Prop := ∀ (C : Chk) (tg x : Expr) (X : Cx) (W : WX), CtxOk X C W G cl k → isI i C tg x = true → PI X tg x (canI X.K W cl (evi G i))

section
variable {X : Cx} {W : WX} {cl : Nat → Value} {G : Gd}
theorem both {e : Expr} {f : RE → Rr} (h : PE X e (canE X.K W cl f)) (he : ∀ whole, isTrue e X.env whole = (do let v ← whole; standAt e.pos; holding [v] (truthy v))) : PE X e (canE X.K W cl f) ∧ PT X e (canT X.K W cl fun r => asB (f r)) := ⟨h, PT_of h he⟩
theorem PE_to {e : Expr} {f g : RE → Rr} (h : PE X e (canE X.K W cl f)) (q : ∀ r, g r = f r) : PE X e (canE X.K W cl g) := by
  have : g = f := funext q
  rw [this]
  exact h
theorem PA_to {e : List Expr} {f g : RE → Res (List PyData)} (h : PA X e (canA X.K W cl f)) (q : ∀ r, g r = f r) : PA X e (canA X.K W cl g) := by
  have : g = f := funext q
  rw [this]
  exact h
theorem PT_to {e : Expr} {f g : RE → Rr} (h : PT X e (canT X.K W cl fun r => asB (f r))) (q : ∀ r, g r = f r) : PT X e (canT X.K W cl fun r => asB (g r)) := by
  have : g = f := funext q
  rw [this]
  exact h
theorem PW_to {e : Expr} {f g : RE → Rr} (h : PW X e (canT X.K W cl fun r => asB (f r))) (q : ∀ r, g r = f r) : PW X e (canT X.K W cl fun r => asB (g r)) := by
  have : g = f := funext q
  rw [this]
  exact h
theorem PI_to {tg e : Expr} {f g : RE → Res (List PyData)} (h : PI X tg e (canI X.K W cl f)) (q : ∀ r, g r = f r) : PI X tg e (canI X.K W cl g) := by
  have : g = f := funext q
  rw [this]
  exact h
theorem PW_single {o : BoolOp} {a : Expr} {pos : Pos} {t : TT} (h : PT X a t) : PW X (.BoolOp o [a] pos) t := by
  cases o with
  | And => exact pw_and1 h
  | Or => exact pw_or1 h
theorem boot_bf (f : Bf) : bootBuiltins f.name = some f.fn := by
  cases f <;> decide +kernel
theorem boot_ty (t : Ty) : bootBuiltins t.name = some (.type t.nm) := by
  cases t <;> decide +kernel
/-- a sequence that is walked: a list, a tuple -/
theorem c_seq {tg e : Expr} {f : RE → Rr} (h : PE X e (canE X.K W cl f)) : PI X tg e (canI X.K W cl fun r => (f r).bind fun x => ofO (seqD x.d)) :=
  PI_weak (PI_or (pi_list (PE_weak (t' := fun σ H Q => canE X.K W cl f σ H Q) h fun _ _ _ q => q)) (pi_tup h)) fun σ H R ⟨r, F, hs, hr, q⟩ => by
    have q2 := PR.bind q
    cases e1 : f r with
    | exc c => rw [e1] at q2; exact .inl ⟨r, F, hs, hr, by rw [e1]; exact q2⟩
    | fail => rw [e1] at q2; exact False.elim q2
    | ok x =>
      rw [e1] at q2
      have q3 := PR.ofO (show PR W cl σ (ofO (seqD x.d)) (PIt X.K R) F H from q2)
      cases e2 : x.d <;> rw [e2] at q3 <;> try exact False.elim q3
      · refine .inl ⟨r, F, hs, hr, ?_⟩
        rw [e1]
        refine PV.use fun v F1 H1 g p => ?_
        rw [e2] at p
        cases p with
        | lst s rs => exact ⟨_, rfl, ⟨_, sqL_mono g.fh s⟩, (show PIt X.K R _ F H from q3) _ F1 H1 g (walks_list s rs)⟩
      · refine .inr ⟨r, F, hs, hr, ?_⟩
        rw [e1]
        refine PV.use fun v F1 H1 g p => ?_
        rw [e2] at p
        cases p with
        | tup s rs => exact ⟨_, rfl, ⟨_, sqT_mono g.fh s⟩, (show PIt X.K R _ F H from q3) _ F1 H1 g (walks_tup s rs)⟩
end

section
variable {X : Cx} {W : WX} {cl : Nat → Value} {G : Gd} {a b c : Expr} {fa fb fc : RE → Rr} {tg e : Expr}
theorem c_rng1 (h : PI X tg e (iRng1 (tCons (canE X.K W cl fa) tNil))) : PI X tg e (canI X.K W cl fun r => (fa r).bind fun x => ofO (rngD [x.d])) :=
  PI_weak h fun σ H R ⟨r, F, hs, hr, q⟩ => useE PIt.monoP hs hr q fun x v F1 H1 s1 r1 g1 p1 q1 => by
    have q2 := PR.ofO q1
    cases e : x.d <;> rw [e] at p1 q2 <;> try exact False.elim q2
    cases p1
    rename_i j
    by_cases hz : small62 j = true
    · rw [show rngD [.int j] = some (rngs 0 1 j.toNat) from if_pos hz] at q2
      obtain ⟨a1, a2⟩ := small62_ok hz
      exact ⟨j, rfl, a1, a2, (show PIt X.K R _ F1 H1 from q2) _ F1 H1 (Grow.refl s1) walks_rng⟩
    · rw [show rngD [.int j] = none from if_neg hz] at q2
      exact False.elim q2
theorem c_rng2 (h : PI X tg e (iRng2 (tCons (canE X.K W cl fa) (tCons (canE X.K W cl fb) tNil)))) : PI X tg e (canI X.K W cl fun r => (fa r).bind fun x => (fb r).bind fun y => ofO (rngD [x.d, y.d])) :=
  PI_weak h fun σ H R ⟨r, F, hs, hr, q⟩ => useE PIt.monoP hs hr q fun x v F1 H1 s1 r1 g1 p1 q1 => useE PIt.monoP s1 r1 q1 fun y u F2 H2 s2 r2 g2 p2 q2 => by
    have q3 := PR.ofO q2
    cases e : x.d <;> rw [e] at p1 q3 <;> cases e2 : y.d <;> rw [e2] at p2 q3 <;> try exact False.elim q3
    cases p1
    cases p2
    rename_i i j
    by_cases hz : (small62 i && small62 j) = true
    · rw [show rngD [.int i, .int j] = some (rngs i 1 (j - i).toNat) from if_pos hz] at q3
      simp only [Bool.and_eq_true] at hz
      obtain ⟨a1, a2⟩ := small62_ok hz.1
      obtain ⟨a3, a4⟩ := small62_ok hz.2
      exact ⟨i, j, rfl, ⟨a1, a2, a3, a4⟩, (show PIt X.K R _ F2 H2 from q3) _ F2 H2 (Grow.refl s2) walks_rng⟩
    · rw [show rngD [.int i, .int j] = none from if_neg hz] at q3
      exact False.elim q3
theorem c_rng3 (h : PI X tg e (iRng3 (tCons (canE X.K W cl fa) (tCons (canE X.K W cl fb) (tCons (canE X.K W cl fc) tNil))))) : PI X tg e (canI X.K W cl fun r => (fa r).bind fun x => (fb r).bind fun y => (fc r).bind fun z => ofO (rngD [x.d, y.d, z.d])) :=
  PI_weak h fun σ H R ⟨r, F, hs, hr, q⟩ => useE PIt.monoP hs hr q fun x v F1 H1 s1 r1 g1 p1 q1 => useE PIt.monoP s1 r1 q1 fun y u F2 H2 s2 r2 g2 p2 q2 => useE PIt.monoP s2 r2 q2 fun z w F3 H3 s3 r3 g3 p3 q3 => by
    have q4 := PR.ofO q3
    cases e : x.d <;> rw [e] at p1 q4 <;> try exact False.elim q4
    cases e2 : y.d <;> rw [e2] at p2 q4 <;> try exact False.elim q4
    cases e3 : z.d <;> rw [e3] at p3 q4 <;> try exact False.elim q4
    cases p1
    cases p2
    cases p3
    rename_i i j c
    by_cases hz : (decide (c ≠ 0) && decide (c.natAbs < 1073741824) && Builtin.Range.small i j c) = true
    · rw [show rngD [.int i, .int j, .int c] = some (rngs i c (Builtin.Range.rangeSize i j c).toNat) from if_pos hz] at q4
      simp only [Bool.and_eq_true, decide_eq_true_eq] at hz
      exact ⟨i, j, c, _, rfl, ⟨hz.1.1, hz.1.2, hz.2, PyProof.Rows.rangeSize_toNat i j c⟩, (show PIt X.K R _ F3 H3 from q4) _ F3 H3 (Grow.refl s3) walks_rngC⟩
    · rw [show rngD [.int i, .int j, .int c] = none from if_neg hz] at q4
      exact False.elim q4
theorem c_enum (h : PI X tg e (PXI.iEnumA X.K (tCons (canE X.K W cl fa) tNil))) : PI X tg e (canI X.K W cl fun r => (fa r).bind fun x => (ofO (lsD x.d)).bind fun l => .ok (enumFrom 0 l)) :=
  PI_weak h fun σ H R ⟨r, F, hs, hr, q⟩ => useE PIt.monoP hs hr q fun x v F1 H1 s1 r1 g1 p1 q1 => by
    cases e : x.d <;> rw [e] at p1 q1 <;> try exact False.elim q1
    · cases p1
      rename_i z
      exact .inr ⟨z, rfl, (show PIt X.K R _ F1 H1 from q1) _ F1 H1 (Grow.refl s1) walks_enumS⟩
    · cases p1 with
      | lst s rs => exact .inl ⟨_, _, rfl, sqL_mono s1 s, (show PIt X.K R _ F1 H1 from q1) _ F1 H1 (Grow.refl s1) (walks_enum s rs)⟩
theorem c_rev (h : PI X tg e (iRev X.K (tCons (canE X.K W cl fa) tNil))) : PI X tg e (canI X.K W cl fun r => (fa r).bind fun x => (ofO (listD x.d)).bind fun l => .ok l.reverse) :=
  PI_weak h fun σ H R ⟨r, F, hs, hr, q⟩ => useE PIt.monoP hs hr q fun x v F1 H1 s1 r1 g1 p1 q1 => by
    cases e : x.d <;> rw [e] at p1 q1 <;> try exact False.elim q1
    cases p1 with
    | lst s rs => exact ⟨_, _, rfl, sqL_mono s1 s, (show PIt X.K R _ F1 H1 from q1) _ F1 H1 (Grow.refl s1) (walks_rev s rs)⟩
theorem c_zip (h : PI X tg e (iZip X.K (tCons (canE X.K W cl fa) (tCons (canE X.K W cl fb) tNil)))) : PI X tg e (canI X.K W cl fun r => (fa r).bind fun x => (fb r).bind fun y => (ofO (listD x.d)).bind fun l => (ofO (listD y.d)).bind fun m => .ok (zipD l m)) :=
  PI_weak h fun σ H R ⟨r, F, hs, hr, q⟩ => useE PIt.monoP hs hr q fun x v F1 H1 s1 r1 g1 p1 q1 => useE PIt.monoP s1 r1 q1 fun y u F2 H2 s2 r2 g2 p2 q2 => by
    cases e : x.d <;> rw [e] at p1 q2 <;> try exact False.elim q2
    cases e2 : y.d <;> rw [e2] at p2 q2 <;> try exact False.elim q2
    cases p1 with
    | lst s rs =>
      cases p2 with
      | lst s' rs' => exact ⟨_, _, _, _, rfl, sqL_mono (g2.ff.trans s2) s, sqL_mono s2 s', (show PIt X.K R _ F2 H2 from q2) _ F2 H2 (Grow.refl s2) (walks_zip (sqL_mono g2.ff s) (Rps.mono g2.ff _ _ rs) s' rs')⟩
theorem c_zip3 (h : PI X tg e (PXI.iZip3 X.K (tCons (canE X.K W cl fa) (tCons (canE X.K W cl fb) (tCons (canE X.K W cl fc) tNil))))) : PI X tg e (canI X.K W cl fun r => (fa r).bind fun x => (fb r).bind fun y => (fc r).bind fun z => (ofO (listD x.d)).bind fun l => (ofO (listD y.d)).bind fun m => (ofO (listD z.d)).bind fun n => .ok (zipD3 l m n)) :=
  PI_weak h fun σ H R ⟨r, F, hs, hr, q⟩ => useE PIt.monoP hs hr q fun x v F1 H1 s1 r1 g1 p1 q1 => useE PIt.monoP s1 r1 q1 fun y u F2 H2 s2 r2 g2 p2 q2 => useE PIt.monoP s2 r2 q2 fun z w F3 H3 s3 r3 g3 p3 q3 => by
    cases e : x.d <;> rw [e] at p1 q3 <;> try exact False.elim q3
    cases e2 : y.d <;> rw [e2] at p2 q3 <;> try exact False.elim q3
    cases e3 : z.d <;> rw [e3] at p3 q3 <;> try exact False.elim q3
    cases p1 with
    | lst s rs =>
      cases p2 with
      | lst s' rs' =>
        cases p3 with
        | lst s'' rs'' => exact ⟨_, _, _, _, _, _, rfl, sqL_mono ((g2.ff.trans g3.ff).trans s3) s, sqL_mono (g3.ff.trans s3) s', sqL_mono s3 s'', (show PIt X.K R _ F3 H3 from q3) _ F3 H3 (Grow.refl s3) (walks_zip3 (sqL_mono (g2.ff.trans g3.ff) s) (Rps.mono (g2.ff.trans g3.ff) _ _ rs) (sqL_mono g3.ff s') (Rps.mono g3.ff _ _ rs') s'' rs'')⟩
end
end PX

/-! PXK: sorted(l, key=f), f a def that tells a whole number of each item and leaves what was there as it was. -/
namespace PXK
open PySem PySem.W PySem.Calls PyProof.Rows L2 PySem.Spec
/-- the tuples alone -/
def tupsOf (H : Hp) : Hp := fun b => match H b with
  | some (.tup xs) => some (.tup xs)
  | some (.frz o (.tup xs)) => some (.frz o (.tup xs))
  | _ => none
theorem tupsOf_tup {H : Hp} {b : Addr} {xs : List V} (h : H b = some (.tup xs)) : tupsOf H b = some (.tup xs) := by unfold tupsOf; rw [h]
theorem tupsOf_frz {H : Hp} {b : Addr} {o : Obj} {xs : List V} (h : H b = some (.frz o (.tup xs))) : tupsOf H b = some (.frz o (.tup xs)) := by unfold tupsOf; rw [h]
theorem tupsOf_some {H : Hp} {b : Addr} {o : HO} (h : tupsOf H b = some o) : H b = some o ∧ ((∃ xs, o = .tup xs) ∨ ∃ ob xs, o = .frz ob (.tup xs)) := by
  unfold tupsOf at h
  split at h
  · rename_i xs e
    cases h
    exact ⟨e, .inl ⟨xs, rfl⟩⟩
  · rename_i ob xs e
    cases h
    exact ⟨e, .inr ⟨ob, xs, rfl⟩⟩
  · cases h
theorem tupsOf_none {H : Hp} {b : Addr} (h : H b = none) : tupsOf H b = none := by unfold tupsOf; rw [h]
theorem tupsOf_same {F H : Hp} (e : Same F H) : Same (tupsOf F) (tupsOf H) := fun b o q => by
  obtain ⟨h, k⟩ := tupsOf_some q
  have z := e b o h
  rcases k with ⟨xs, rfl⟩ | ⟨ob, xs, rfl⟩
  · exact tupsOf_tup z
  · exact tupsOf_frz z
theorem tupsOf_sqT {K : PySem.W.Frag} {F : Hp} {a : Addr} {xs : List V} (h : SqT K F a xs) : SqT K (tupsOf F) a xs := h.imp (fun h => h.imp tupsOf_tup fun ⟨o, h⟩ => ⟨o, tupsOf_frz h⟩) id
section
variable {P : Program} {w : World} {fs : List Addr} {H : Hp} {h h1 h2 : Heap}
theorem tup_any {H' : Hp} {b : Addr} {xs : List V} (x : ObjOk P w H h b (.tup xs)) : ObjOk P w H' h b (.tup xs) := by
  obtain ⟨z, its, r, p⟩ := x
  exact ⟨z, its, r, p⟩
theorem tups_hok (x : HOk P w H h) : HOk P w (tupsOf H) h := fun a o e => by
  obtain ⟨q, k⟩ := tupsOf_some e
  have z := x a o q
  rcases k with ⟨xs, rfl⟩ | ⟨ob, xs, rfl⟩
  · exact tup_any z
  · exact ⟨z.1, tup_any z.2⟩
/-- tuples stay, all else stays as it is, but for the slots of frames -/
structure Kp (P : Program) (w : World) (fs : List Addr) (H : Hp) (h h' : Heap) : Prop where
  keep : ∀ b o, h.get? b = some o → b ∉ fs → (∀ xs, H b ≠ some (.tup xs)) → h'.get? b = some o
  slot : ∀ b o, h.get? b = some o → b ∈ fs → (∀ xs, H b ≠ some (.tup xs)) → ∃ sl, h'.get? b = some { o with slots := sl }
  tup : ∀ b xs, H b = some (.tup xs) → ObjOk P w H h' b (.tup xs)
theorem Kp.refl (x : HOk P w H h) : Kp P w fs H h h := ⟨fun _ _ e _ _ => e, fun b o e _ _ => ⟨o.slots, e⟩, fun b xs e => x b _ e⟩
theorem Kp.trans (a : Kp P w fs H h h1) (b : Kp P w fs H h1 h2) : Kp P w fs H h h2 := ⟨fun c o e n m => b.keep c o (a.keep c o e n m) n m, fun c o e n m => by
    obtain ⟨sl, e1⟩ := a.slot c o e n m
    obtain ⟨sl2, e2⟩ := b.slot c _ e1 n m
    exact ⟨sl2, e2⟩, b.tup⟩
theorem Kp.keeps (a : Kp P w fs H h h1) (x : HOk P w H h) (k : ∀ b o, b < h.objs.size → h1.get? b = some o → h2.get? b = some o) : Kp P w fs H h h2 :=
  ⟨fun c o e n m => k c o (Heap.lt_size e) (a.keep c o e n m), fun c o e n m => by
    obtain ⟨sl, e1⟩ := a.slot c o e n m
    exact ⟨sl, k c _ (Heap.lt_size e) e1⟩, fun b xs e => by
    obtain ⟨z, its, r, ob, e1, c⟩ := a.tup b xs e
    exact ⟨z, its, r, ob, k b ob (x.lt e) e1, c⟩⟩
theorem Kp.there (a : Kp P w fs H h h1) {b : Addr} {o : Obj} (e : h.get? b = some o) : ∃ o', h1.get? b = some o' := by
  by_cases t : ∃ xs, H b = some (.tup xs)
  · obtain ⟨xs, q⟩ := t
    obtain ⟨_, _, _, ob, e1, _⟩ := a.tup b xs q
    exact ⟨ob, e1⟩
  · have t : ∀ xs, H b ≠ some (.tup xs) := fun xs q => t ⟨xs, q⟩
    by_cases n : b ∈ fs
    · obtain ⟨sl, e1⟩ := a.slot b o e n t
      exact ⟨_, e1⟩
    · exact ⟨o, a.keep b o e n t⟩
theorem Kp.un (a : Kp P w fs H h h1) : Un fs [] H H h h1 := ⟨fun b o e n hb _ => a.keep b o e hb fun xs q => (by rw [n] at q; cases q), fun b o e n hb _ => a.slot b o e hb fun xs q => (by rw [n] at q; cases q), fun _ _ _ n _ => n, fun b o e _ => a.there e, fun _ _ q => q, fun _ _ _ q => q, fun b ps q => ⟨#[], by rw [Array.append_empty]; exact q⟩⟩
theorem Kp.hok (a : Kp P w fs H h h1) (x : HOk P w H h) (f : ∀ b ∈ fs, H b = none) : HOk P w H h1 := fun b o e => by
  by_cases t : ∃ xs, o = .tup xs
  · obtain ⟨xs, rfl⟩ := t
    exact a.tup b xs e
  · refine (x b o e).stay (fun c u hc q => ?_) (fun _ q => q) fun _ _ q => q
    have nt : ∀ xs, H c ≠ some (.tup xs) := fun xs z => by
      rcases hc with rfl | hc
      · rw [e] at z
        cases z
        exact t ⟨xs, rfl⟩
      · rw [hc] at z
        cases z
    have nf : c ∉ fs := fun m => by
      have z := f c m
      rcases hc with rfl | hc
      · rw [e] at z; cases z
      · rw [hc] at z; cases z
    exact a.keep c u q nf nt
end
section
variable {X : Cx} {pins : List (Addr × Obj)} {σ : L2.St} {H : Hp} {s : Shared} {j : Nat} {fa : Addr} {fd : FuncData} {ps : List Str} {sp : Sp}
theorem turn (I : L2.Inv X pins σ H s) (hr : Room (j + 2) X.A) (F : FnOk X.prog X.w X.K X.mg X.base (L2N.CX X.prog X.w) j fa fd ps sp) (hb : Binds X.K fd ps []) {x : V} {u : Value} {k : Int} (r : RelV x u) (hsp : sp [x] (tupsOf H) (fun v _ => v = .int k) (fun _ _ _ => False))
    {s1 : Shared} (os : s1.os = s.os) (bare : AllBare s1.gens) (kp : Kp X.prog X.w (frs X.stack) H s.heap s1.heap) :
    wpAny (model X.prog X.w) X.A.in1.in1 (call (.ref fa) [u]) (fun v s2 => (∃ t, v = Value.int k t) ∧ s2.os = s1.os ∧ AllBare s2.gens ∧ Kp X.prog X.w (frs X.stack) H s1.heap s2.heap) (fun _ _ => False) s1 := by
  have I1 : L2.Inv X pins σ H s1 := I.call' (ch := []) os kp.un (kp.hok I.hok I.stkFree) bare fun b z => absurd z (by simp)
  have e1 := I1.env0.in1.in1
  have e2 : Env0 X.prog X.w X.K X.mg X.base X.A.in1.in1 X.stack s1 (tupsOf H) := ⟨e1.frames, e1.mod, fun b o q => ⟨(e1.bs b o q).1, tupsOf_none (e1.bs b o q).2⟩, e1.bsz, e1.funs, fun b m => tupsOf_none (e1.frf b m), tups_hok e1.hok, e1.bare⟩
  have hr2 : Room j X.A.in1.in1 := Room.in1 (Room.in1 hr)
  have hl : ([u] ++ ([] : List Value)).length = ps.length := F.len _ _ _ _ hsp
  refine wpAny_call (codeAny_mono (F.run X.A.in1.in1 X.stack s1 (tupsOf H) ⟨[u], []⟩ ([u] ++ []) [x] _ _ hr2 e2 (hb s1 [u] I1.kIn hl) (.cons r .nil) hsp) fun q s' hq => ?_)
  cases q with
  | error e =>
    obtain ⟨_, _, _, _, _, _, _, _, _, _, _, _, z⟩ := hq
    exact z
  | ok fl =>
    cases fl with
    | ret v =>
      obtain ⟨v', H', o1, b1, un, hok, rv, rfl⟩ := hq
      refine ⟨rv, o1, b1, fun b o e n m => ?_, fun b o e n m => un.slot b o e (tupsOf_none (I.stkFree b n)) n (by simp), fun b xs e => tup_any (hok b _ (un.tups b xs (tupsOf_tup e)))⟩
      cases t : tupsOf H b with
      | none => exact un.keep b o e t n (by simp)
      | some ob =>
        obtain ⟨q, k⟩ := tupsOf_some t
        rcases k with ⟨xs, rfl⟩ | ⟨o', xs, rfl⟩
        · exact absurd q (m xs)
        · have z1 : s1.heap.get? b = some o' := (I1.hok b _ q).1
          rw [e] at z1
          cases z1
          exact (hok b _ (un.frzs b _ _ t)).1
    | next => exact False.elim hq
    | brk => exact False.elim hq
    | cont => exact False.elim hq
theorem each_ints {h : Heap} : ∀ {us : List Value} {ks : List Int}, EachIs (fun v k => ∃ t, v = Value.int k t) us ks → EachIs (fun v d => ∃ as, Reads h v d as) us (ks.map PyData.int)
  | _, _, .nil => .nil
  | _, _, .cons ⟨t, e⟩ r => .cons ⟨[], e ▸ Reads.int _ _⟩ (each_ints r)
theorem each_zip : ∀ {xs : List V} {us : List Value} {ks : List Int}, Vals xs us → ks.length = xs.length → EachIs (fun (v : Value) (p : Int × V) => L2.RelV p.2 v) us (ks.zip xs)
  | _, _, [], .nil, _ => .nil
  | _, _, k :: ks, .cons r t, h => .cons r (each_zip t (by simpa using h))
  | _, _, [], .cons _ _, h => by simp at h
  | _, _, _ :: _, .nil, h => by simp at h
theorem vals_each : ∀ {us : List Value} {ps : List (Int × V)}, EachIs (fun (v : Value) (p : Int × V) => L2.RelV p.2 v) us ps → Vals (ps.map (·.2)) us
  | _, _, .nil => .nil
  | _, _, .cons r t => .cons r (vals_each t)
theorem frs_in {h base : Heap} : ∀ {l : List Env}, h.FunFrames base l → ∀ b ∈ frs l, ∃ o, h.get? b = some o
  | [], _, b, m => absurd m (by simp [frs])
  | e :: l, f, b, m => by
    obtain ⟨_, ⟨L, o, e1, _, e2, _⟩, r⟩ := f
    have q : frs (e :: l) = L :: frs l := by unfold frs; rw [List.filterMap_cons, e1]
    rw [q] at m
    rcases List.mem_cons.1 m with rfl | m
    · exact ⟨o, e2⟩
    · exact frs_in r b m
/-- sorted(l, key=f) -/
theorem sortK {Q : VK} {a : Addr} {xs : List V} {ks : List Int} (I : L2.Inv X pins σ H s) (hr : Room (j + 2) X.A) (F : FnOk X.prog X.w X.K X.mg X.base (L2N.CX X.prog X.w) j fa fd ps sp) (hb : Binds X.K fd ps []) (hs : SqL X.K H a xs) (hl : ks.length = xs.length)
    (hk : ∀ (i : Nat) (x : V) (k : Int), xs[i]? = some x → ks[i]? = some k → sp [x] (tupsOf H) (fun v _ => v = .int k) (fun _ _ _ => False)) (q : ∀ p, H p = none → Q (.ref p) (upd H p (.lst (PX.sortP ks xs)))) :
    wpAny (model X.prog X.w) X.A (call (.builtin "sorted") [.ref a] [(Str.ofString "key", .ref fa)]) (EP X pins σ Q) X.xe s := by
  obtain ⟨its, rv, pl, hz⟩ := I.list hs
  have li : its.length = xs.length := rv.length.symm
  have hz' : its.length ≤ sizeLine := by rw [li]; exact hz
  refine sorted_of_sort pl.isList hz' (ksk_s1 _ _) (fun _ => ksk_l1 _ _) fun E' => ?_
  rw [ksk_t1]
  generalize hn : s.heap.objs.size = n
  have h0 := copyHeap_at s.heap its
  have old0 : ∀ b o, s.heap.get? b = some o → (copyHeap s.heap its).get? b = some o := fun b o e => copyHeap_old e
  rw [hn] at h0
  generalize copyHeap s.heap its = g0 at *
  have ln : n + 1 < g0.objs.size := Heap.lt_size h0
  obtain ⟨e1, h1⟩ : ∃ c, (g0.update (n + 1) (Obj.mapSeq fun _ => (#[] : Array Value))).get? (n + 1) = some (seqObj "list" #[] c) := ⟨_, get?_update_seq h0 _⟩
  have sb1 := Heap.SameBut.update g0 (n + 1) (Obj.mapSeq fun _ => (#[] : Array Value))
  unfold ksk_tree
  refine wpAny_bind (listItems_at h0 rfl (wpAny_bind (listUpdate_at h0 rfl ?_ (by rw [List.size_toArray]; exact hz') (Nat.zero_le _))))
  generalize (g0.update (n + 1) (Obj.mapSeq fun _ => (#[] : Array Value))) = g1 at *
  refine wpAny_bind (seqEpoch_at h1 rfl (wpAny_bind (wpAny_newTuple ?_ (show its.toArray.toList.length ≤ sizeLine from hz'))))
  refine wpAny_bind (wpAny_newList (wpAny_holding ?_) (Nat.zero_le _))
  have sz : g1.objs.size = g0.objs.size := sb1.1
  have h2 : ∀ b o, g1.get? b = some o → ((g1.push { cls := .type "tuple", data := .seq its.toArray.toList.toArray }).push { cls := .type "list", data := .seq ([] : List Value).toArray }).get? b = some o := fun b o e => Heap.get?_push_of_some _ (Heap.get?_push_of_some _ e)
  have hS := Heap.get?_push_size (g1.push { cls := .type "tuple", data := .seq its.toArray.toList.toArray }) (o := { cls := .type "list", data := .seq ([] : List Value).toArray }) rfl
  have hsz2 : (g1.push { cls := .type "tuple", data := .seq its.toArray.toList.toArray }).objs.size = g1.objs.size + 1 := size_push' ..
  show wpAny _ _ _ _ _ { s with heap := (g1.push { cls := .type "tuple", data := .seq its.toArray.toList.toArray }).push { cls := .type "list", data := .seq ([] : List Value).toArray } }
  have hS : ((g1.push { cls := .type "tuple", data := .seq its.toArray.toList.toArray }).push { cls := .type "list", data := .seq ([] : List Value).toArray }).get? (g1.push { cls := .type "tuple", data := .seq its.toArray.toList.toArray }).objs.size = some (seqObj "list" #[] 0) := hS
  have kp2 : Kp X.prog X.w (frs X.stack) H s.heap ((g1.push { cls := .type "tuple", data := .seq its.toArray.toList.toArray }).push { cls := .type "list", data := .seq ([] : List Value).toArray }) := by
    refine (Kp.refl I.hok).keeps I.hok fun b o lb e => h2 b o ?_
    rw [sb1.2 b (Nat.ne_of_lt (Nat.lt_succ_of_lt (hn ▸ lb)))]
    exact old0 b o e
  have ha2 := h2 _ _ h1
  rw [hsz2] at hS ⊢
  generalize ((g1.push { cls := .type "tuple", data := .seq its.toArray.toList.toArray }).push { cls := .type "list", data := .seq ([] : List Value).toArray }) = g2 at *
  have nk : n + 1 < g1.objs.size + 1 := by omega
  generalize g1.objs.size + 1 = kS at *
  have nS : n ≤ kS := by omega
  unfold ksk_rest
  refine wpAny_bind (wpAny_rule ?_)
  rw [List.forIn_toArray]
  refine wpAny_bind (ksk_fold (fun i (s' : Shared) => ∃ (kA : Array Value) (c : Nat), s'.os = s.os ∧ AllBare s'.gens ∧ Kp X.prog X.w (frs X.stack) H s.heap s'.heap ∧ s'.heap.get? kS = some (seqObj "list" kA c) ∧ s'.heap.get? (n + 1) = some (seqObj "list" #[] e1) ∧ EachIs (fun v k => ∃ t, v = Value.int k t) kA.toList (ks.take i)) its 0 _
    ⟨#[], 0, rfl, I.bare, kp2, hS, ha2, by rw [List.take_zero]; exact .nil⟩ (fun i u s' hu ⟨kA, c, o1, b1, kp, nk1, na1, ek⟩ => ?_) fun s' ⟨kA, c, o1, b1, kp, nk1, na1, ek⟩ => ?_)
  · rw [Nat.zero_add] at ek ⊢
    have hi : i < its.length := (List.getElem?_eq_some_iff.mp hu).1
    obtain ⟨x, hx⟩ : ∃ x, xs[i]? = some x := ⟨_, List.getElem?_eq_getElem (by omega)⟩
    obtain ⟨k, hki⟩ : ∃ k, ks[i]? = some k := ⟨_, List.getElem?_eq_getElem (by omega)⟩
    obtain ⟨u', hu', ru⟩ := rv.get hx
    rw [hu] at hu'
    cases hu'
    have lk : kA.size ≤ its.length := by
      have e := ek.length
      rw [Array.length_toList, List.length_take] at e
      omega
    refine wpAny_bind (wpAny_attempt (wpAny_mono (turn I hr F hb ru (hk i x k hx hki) o1 b1 kp) (fun v s2 ⟨⟨t, ev⟩, o2, b2, kp2⟩ => ?_) fun _ _ z => z.elim))
    subst ev
    have fS : H kS = none := I.hok.fresh (by rw [hn]; exact nS)
    have fA : H (n + 1) = none := I.hok.fresh (by rw [hn]; exact Nat.le_succ n)
    have ff : ∀ b, s.heap.objs.size ≤ b → b ∉ frs X.stack := fun b hb m => by
      obtain ⟨o, e⟩ := frs_in I.stack b m
      exact absurd (Heap.lt_size e) (Nat.not_lt.2 hb)
    have nk2 := kp2.keep _ _ nk1 (ff kS (by omega)) fun ys z => by rw [fS] at z; cases z
    have na2 := kp2.keep _ _ na1 (ff (n + 1) (by omega)) fun ys z => by rw [fA] at z; cases z
    have sb := Heap.SameBut.update s2.heap kS (Obj.mapSeq (·.push (Value.int k t)))
    obtain ⟨c2, hc2⟩ : ∃ c2, (s2.heap.update kS (Obj.mapSeq (·.push (Value.int k t)))).get? kS = some (seqObj "list" (kA.push (Value.int k t)) c2) := ⟨_, get?_update_seq nk2 (·.push (Value.int k t))⟩
    refine wpAny_bind (listUpdate_at nk2 rfl (wpAny_pure ⟨rfl, kA.push (Value.int k t), c2, o2.trans o1, b2, ?_, hc2, ?_, ?_⟩) (Nat.le_trans lk hz') (by rw [Array.size_push]; omega))
    · refine (kp.trans kp2).keeps I.hok fun b o lb e => ?_
      rw [sb.2 b (Nat.ne_of_lt (Nat.lt_of_lt_of_le (hn ▸ lb) nS))]
      exact e
    · rw [sb.2 (n + 1) (Nat.ne_of_lt (by omega))]
      exact na2
    · have e3 : ks.take (i + 1) = ks.take i ++ [k] := by rw [List.take_add_one, hki]; simp
      rw [e3, Array.toList_push]
      exact each_snoc ⟨t, rfl⟩ ek
  · rw [Nat.zero_add, List.take_of_length_le (by omega)] at ek
    have lk : kA.size = its.length := by
      have e := ek.length
      rw [Array.length_toList] at e
      omega
    obtain ⟨G, q1, q2⟩ := L2.restrict s'.heap fun b => decide (b ≠ kS ∧ b ≠ n + 1)
    refine wpAny_bind (listItems_at nk1 rfl ?_)
    have zz := keyH_end (prog := X.prog) (w := X.w) (A := X.A.in1.in1) (E := E') (P := fun f s2 => f = .done (.ret .none) ∧ EP X pins σ Q (.ref (n + 1)) s2) (b := false) (κ := dataKind s'.heap (ks.map PyData.int)) (vs := its) (h₁ := G) (s := s') (a := n + 1) (fun b o hb e => ?_) (q2 kS (by simp)) nk1 na1 (Nat.ne_of_gt nk) (SortsAt.data (each_ints ek) ?_ ?_ ?_) lk hz' fun h' tk c' k1 k2 => ?_
    · exact zz
    · have d : decide (b ≠ kS ∧ b ≠ n + 1) = true := by
        cases d : decide (b ≠ kS ∧ b ≠ n + 1)
        · rw [q2 b d] at e
          cases e
        · rfl
      rw [q1 b d] at e
      exact e
    · exact AllAlike.of (enc := PyData.int) fun _ _ => rfl
    · exact Sortable.others (enc := PyData.int) fun _ => ⟨by simp, by simp⟩
    · intro d hd
      obtain ⟨i, _, rfl⟩ := List.mem_map.1 hd
      have := hr.un
      have z : (PyData.int i).depth = 0 := by rw [PyData.depth]
      rw [z]
      show X.A.in1.in1.units + 0 < cLine
      have u2 : X.A.in1.in1.units = X.A.units + 2 := rfl
      omega
    · refine ⟨rfl, ?_⟩
      have fA : H (n + 1) = none := I.hok.fresh (by rw [hn]; exact Nat.le_succ n)
      have kG : Kp X.prog X.w (frs X.stack) H s.heap G := kp.keeps I.hok fun b o lb e => by
        rw [q1 b (decide_eq_true ⟨Nat.ne_of_lt (Nat.lt_of_lt_of_le (hn ▸ lb) nS), Nat.ne_of_lt (Nat.lt_succ_of_lt (hn ▸ lb))⟩)]
        exact e
      have IG : L2.Inv X pins σ H { s' with heap := G } := I.call' (ch := []) o1 kG.un (kG.hok I.hok I.stkFree) b1 fun b z => absurd z (by simp)
      have hm := keyedOut_each (R := fun (v : Value) (p : Int × V) => L2.RelV p.2 v) (rev := false) (bs := ks.zip xs) (fun p => PyData.int p.1) (vs := its) (out := sortVals (dataKind s'.heap (ks.map PyData.int)) false kA.toList its) ⟨s'.heap, kA.toList, AllAlike.of (enc := fun p : Int × V => PyData.int p.1) fun _ _ => rfl, ?_, ?_⟩ (each_zip rv hl)
      · rw [dataLe_int] at hm
        have vv := vals_each hm
        have ez : ((ks.zip xs).mergeSort fun p q => decide (p.1 ≤ q.1)).map (·.2) = PX.sortP ks xs := rfl
        rw [ez] at vv
        refine ⟨.ref (n + 1), upd H (n + 1) (.lst (PX.sortP ks xs)), IG.laidN (t' := tk) (fun b u e => k1 b u (fun z => ?_) e) (q2 (n + 1) (by simp)) fA ⟨?_, _, c', vv, k2⟩, rfl, q _ fA⟩
        · rw [z, q2 (n + 1) (by simp)] at e
          cases e
        · unfold PX.sortP
          rw [List.length_map, List.length_mergeSort, List.length_zip]
          omega
      · have em : (ks.zip xs).map (fun p => PyData.int p.1) = ks.map PyData.int := by
          have : (ks.zip xs).map Prod.fst = ks := List.map_fst_zip (by omega)
          calc (ks.zip xs).map (fun p => PyData.int p.1) = ((ks.zip xs).map Prod.fst).map PyData.int := by rw [List.map_map]; rfl
            _ = _ := by rw [this]
        rw [em]
      · have em : (ks.zip xs).map (fun p => PyData.int p.1) = ks.map PyData.int := by
          have : (ks.zip xs).map Prod.fst = ks := List.map_fst_zip (by omega)
          calc (ks.zip xs).map (fun p => PyData.int p.1) = ((ks.zip xs).map Prod.fst).map PyData.int := by rw [List.map_map]; rfl
            _ = _ := by rw [this]
        rw [em]
        exact each_ints ek
def rSortK (K : PySem.W.Frag) (fa : Addr) (sp : Sp) : List V → List V → Hp → VK → Prop := fun vs zs H Q => ∃ (a : Addr) (xs : List V) (ks : List Int), vs = [V.ref a] ∧ zs = [V.ref fa] ∧ SqL K H a xs ∧ ks.length = xs.length ∧
  (∀ (i : Nat) (x : V) (k : Int), xs[i]? = some x → ks[i]? = some k → sp [x] (tupsOf H) (fun v _ => v = .int k) (fun _ _ _ => False)) ∧ ∀ p, H p = none → Q (.ref p) (upd H p (.lst (PX.sortP ks xs)))
theorem cr_sortK (hr : Room (j + 2) X.A) (F : FnOk X.prog X.w X.K X.mg X.base (L2N.CX X.prog X.w) j fa fd ps sp) (hb : Binds X.K fd ps []) : CallRK X (.builtin "sorted") [Str.ofString "key"] (rSortK X.K fa sp) := by
  intro pins s σ H vs zs us ws Q I r rz h
  obtain ⟨a, xs, ks, rfl, rfl, hs, hl, hk, q⟩ := h
  obtain rfl := Vals.ref1 r
  obtain rfl := Vals.ref1 rz
  exact sortK I hr F hb hs hl hk q
end
/-! ### any(l) where an exception is handled -/
open _root_.HotX (HotAt raiseNew_hot)
section
variable {prog : Program} {w : World} {A : Around} {E : Value → Shared → Prop} {s : Shared}
theorem list_end_hot {it l x1 : Addr} {i : Nat} {items : Array Value} {Q : Option Value → Shared → Prop} (hot : HotAt A x1 s.heap) (hit : s.heap.IsListIter it l i) (hl : s.heap.IsList l items) (hx : items[i]? = none)
    (hQ : ∀ h', (∀ b o, b ≠ it → s.heap.get? b = some o → h'.get? b = some o) → Q none { s with heap := h' }) : wpAny (model prog w) A (pyNext (.ref it)) Q E s := by
  obtain ⟨oi, g1, _, g3⟩ := id hit
  obtain ⟨ol, g4, _, nl, g5⟩ := hl
  obtain ⟨hh, o1, vs1, h1, d1, c1⟩ := hot
  have nx : x1 ≠ it := fun z => by
    rw [z, g1] at h1
    cases h1
    rw [g3] at d1
    cases d1
    simp at c1
  unfold pyNext
  refine wpAny_bind (wpAny_attempt (wpAny_callSpecial?_slot (name := Str.ofString "__next__") hit.typeIs slot_listiter_next (wpAny_call_entry slot_listiter_next hit.typeIs entry_listiter_next ?_ (args_listiter_next _))))
  show wpAny _ _ (field (.ref it) 0 >>= _) _ _ s; refine wpAny_bind (wpAny_field g1 g3 (x := .ref l) rfl ?_)
  show wpAny _ _ (if (Value.ref l == Value.none) = true then _ else _) _ _ s; rw [if_neg (show ¬ ((Value.ref l == Value.none) = true) from Bool.false_ne_true)]
  show wpAny _ _ (field (.ref it) 1 >>= _) _ _ s; refine wpAny_bind (wpAny_field g1 g3 (x := .int i 0) rfl ?_)
  show wpAny _ _ (seqItems? (.ref l) >>= _) _ _ s; refine wpAny_bind (wpAny_seqItems g4 g5 ?_)
  simp only [Int.toNat_natCast, hx]
  have sb := Heap.SameBut.update s.heap it (Obj.mapFields fun vs => vs.setIfInBounds 0 Value.none)
  refine wpAny_bind (wpAny_rule (wpAny_bind (wpAny_setField g1 g3 (by simp) ?_)))
  have h1' : (s.heap.update it (Obj.mapFields fun vs => vs.setIfInBounds 0 Value.none)).get? x1 = some o1 := (sb.2 x1 nx).trans h1
  show wpAny _ _ (newExc (.type "StopIteration") [] >>= _) _ _ { s with heap := s.heap.update it (Obj.mapFields fun vs => vs.setIfInBounds 0 Value.none) }
  generalize s.heap.update it (Obj.mapFields fun vs => vs.setIfInBounds 0 Value.none) = g0 at *
  refine wpAny_bind ?_
  simp only [newExc, newTuple]
  refine wpAny_bind (wpAny_newObj_type ?_ (by size_fits))
  refine wpAny_bind (m := firstArgMember _ _) (wpAny_of_eq (a := Value.none) (by first | rfl | (simp only [firstArgMember]; rfl)) (wpAny_newObj_type ?_ (by size_fits)))
  refine raiseNew_hot (x1 := x1) ⟨hh, o1, vs1, Heap.get?_push_of_some _ (Heap.get?_push_of_some _ h1'), d1, c1⟩ (Nat.ne_of_lt (Heap.lt_size (Heap.get?_push_of_some _ h1'))) (Heap.get?_push_size _ rfl) rfl (by first | (simp; done) | (simp; omega)) (wpAny_bind (wpAny_isInstance (T := "StopIteration") (b := true) ⟨_, Heap.get?_update_self _ (Heap.get?_push_size _ rfl) rfl, rfl⟩ isSubtype_stop (wpAny_pure ?_)))
  refine hQ _ fun b o hb e => ?_
  have e' := (sb.2 b hb).trans e
  have e2 := Heap.get?_push_of_some (h := g0) { cls := .type "tuple", data := .seq ([] : List Value).toArray } e'
  rw [Heap.get?_update_other _ _ (Nat.ne_of_gt (Heap.lt_size e2))]
  exact Heap.get?_push_of_some _ e2
theorem walks_hot {I ax x1 : Addr} {o1 : Obj} {vs1 : Array Value} (hh : A.handled = some (.ref x1)) (d1 : o1.data = .fields vs1) (c1 : vs1[2]? = some .none) (hne : ax ≠ I) (hx1 : x1 ≠ I) (items : Array Value) :
    Walks prog w A I [I, ax, x1] [I] items.size (fun i v => items[i]? = some v) (fun i h => (h.IsListIter I ax i ∧ h.IsList ax items) ∧ h.get? x1 = some o1) where
  sub := fun b hb => by simp at hb; simp [hb]
  frame := fun _ _ _ st hk => ⟨⟨st.1.1.at fun o e => hk I (by simp) o e, st.1.2.at fun o e => hk ax (by simp) o e⟩, hk x1 (by simp) _ st.2⟩
  item := fun i s Q E hi st hQ => by
    refine wpAny_pyNext_list_item st.1.1 st.1.2 (x := items[i]) (by simp [hi]) fun h' hit' hs' => hQ _ h' s.toks (by simp [hi]) ⟨⟨hit', st.1.2.extBut hs'.extBut hne⟩, ?_⟩ fun b o hb e => hs'.extBut b o (fun h => hb (by simp [h])) e
    exact hs'.extBut x1 _ hx1 st.2
  done := fun s Q E st hQ => list_end_hot ⟨hh, o1, vs1, st.2, d1, c1⟩ st.1.1 st.1.2 (by simp) fun h' he' => hQ h' s.toks fun b o hb e => he' b o (fun h => hb (by simp [h])) e
  self := fun _ _ _ _ st hQ => wpAny_pyIter_listiter st.1.1 hQ
end
theorem cr_anyH {X : Cx} (hc : L2H.HotC X) : CallR X (.builtin "any") (rAny X.K) := by
  intro pins s σ H vs us Q I r h
  obtain ⟨a, bs, rfl, hs, q⟩ := h
  obtain ⟨its, rv, hl, _⟩ := I.list hs
  rw [Vals.ref1 r]
  have hb := rv.bls
  obtain ⟨p, ⟨hh, vs1, d1, c1⟩, hp⟩ := hc
  have hp1 : s.heap.get? p.1 = some p.2 := (I.pin p (List.mem_append_left _ hp)).1
  refine call_any_walk (iter_any hl.isList fun s₂ e2 st hne => ?_)
  subst e2
  have np : p.1 ≠ s.heap.objs.size := Nat.ne_of_lt (Heap.lt_size hp1)
  refine ⟨_, _, _, _, _, _, _, rfl, walks_hot (A := X.A.in1) hh d1 c1 hne np its.toArray, ⟨st, Heap.get?_push_of_some _ hp1⟩, truth_bools hb, fun h' tk hk => ⟨.bl _, H, I.kept fun b o eo => hk b o (fun hmem => ?_) (Heap.get?_push_of_some _ eo), ?_, q⟩⟩
  · rcases List.mem_cons.mp hmem with e1 | hmem
    · exact absurd (e1 ▸ Heap.lt_size eo) (Nat.lt_irrefl _)
    · cases hmem
  · show Value.bool _ = Value.bool _
    rw [← L2.any_range, hb, List.size_toArray, List.length_map]
theorem op_anyH {X : Cx} (hc : L2H.HotC X) : CallR X (PX.Bf.any).fn (PX.rLD X.K (PX.bf .any)) := by
  intro pins s σ H xs us Q I r ⟨F, ds, hs, rd, h⟩
  have hn : PX.bf .any ds ≠ none := fun z => by rw [z] at h; exact h
  rcases PX.bf_len1 hn with ⟨d, e⟩ | ⟨d, e', e⟩
  · subst e
    obtain ⟨v, e1, r1⟩ := PX.rps1 rd
    subst e1
    cases r1 <;> try exact False.elim h
    rename_i a xs ds s1 q1
    have h' : PX.PN (match PX.bools? ds with
      | some bs => PX.rbool (bs.any id)
      | none => none) (PX.PV X.K Q) F H := h
    cases e : PX.bools? ds with
    | none => rw [e] at h'; exact False.elim h'
    | some ns =>
      rw [e] at h'
      have ev := PX.bools_of e q1
      subst ev
      exact cr_anyH hc pins s σ H _ us Q I r ⟨a, ns, rfl, PX.sqL_mono hs s1, PX.PV.now h' hs (.bl _)⟩
  · subst e
    cases d <;> exact absurd rfl hn
end PXK

/-! PX11: soundness of expressions, the induction. -/
namespace PX
open PySem PySem.Spec PyProof.Rows L2
set_option maxHeartbeats 4000000
variable {G : Gd} {cl : Nat → Value} {k : Nat}

theorem s_v (i : Nat) : SoundE G cl k (.v i) := fun C x X W O h => by
  unfold isE at h
  cases x <;> try cases h
  simp only [Bool.and_eq_true, decide_eq_true_eq] at h
  obtain ⟨h1, h2, _⟩ := okName_ok h.2
  refine both (PE_to (c_var (by rw [O.nN]; exact h.1.1) (O.vis h.1.2) h1 h2) fun r => ?_) fun _ => rfl
  rw [ev]
theorem s_c (d : PyData) : SoundE G cl k (.c d) := fun C x X W O h => by
  unfold isE at h
  cases x <;> try cases h
  rename_i c kk pos
  have go : PE X (.Constant c kk pos) (canE X.K W cl fun _ => .ok (.val d)) := by
    cases d <;> cases c <;> try cases h
    · exact c_con pe_non fun F => .non
    · rename_i a b
      have e : a = b := eq_of_beq h
      subst e
      exact c_con pe_bl fun F => .bl _
    · rename_i a b
      have e : a = b := of_decide_eq_true h
      subst e
      exact c_con pe_int fun F => .int _
    · rename_i a b
      have e : a = b := of_decide_eq_true h
      subst e
      exact c_con pe_str fun F => .str _
  refine both (PE_to go fun r => ?_) fun _ => rfl
  rw [ev]
theorem s_g (n : Nat) : SoundE G cl k (.g n) := fun C x X W O h => by
  unfold isE at h
  cases x <;> try cases h
  simp only [Bool.and_eq_true, decide_eq_true_eq] at h
  obtain ⟨h1, h2, _⟩ := okName_ok h.2
  obtain ⟨d, u, e1, e2, e3, e4⟩ := O.con n _ h.1.1
  refine both (PE_to (c_con (pe_glob (O.gl h.1.2) e3 e4 h1) fun F => dV_rp e2) fun r => ?_) fun _ => rfl
  rw [ev, e1]
theorem s_bop (o : Bop) {a b : Ex} (ha : SoundE G cl k a) (hb : SoundE G cl k b) : SoundE G cl k (.bop o a b) := fun C x X W O h => by
  unfold isE at h
  cases x <;> try cases h
  simp only [Bool.and_eq_true, decide_eq_true_eq] at h
  obtain ⟨⟨rfl, h2⟩, h3⟩ := h
  refine both (PE_to (c_bop (ha C _ X W O h2).1 (hb C _ X W O h3).1) fun r => ?_) fun _ => rfl
  rw [ev]
theorem s_neg {a : Ex} (ha : SoundE G cl k a) : SoundE G cl k (.neg a) := fun C x X W O h => by
  unfold isE at h
  cases x <;> try cases h
  rename_i op x pos
  cases op <;> try cases h
  refine both (PE_to (c_neg (ha C _ X W O h).1) fun r => ?_) fun _ => rfl
  rw [ev]
theorem s_cmp (o : Cop) {a b : Ex} (ha : SoundE G cl k a) (hb : SoundE G cl k b) : SoundE G cl k (.cmp o a b) := fun C x X W O h => by
  unfold isE at h
  cases x <;> try cases h
  rename_i x ops ys pos
  rcases ops with _ | ⟨p, _ | ⟨p2, ps⟩⟩ <;> rcases ys with _ | ⟨y, _ | ⟨y2, ys⟩⟩ <;> try cases h
  simp only [Bool.and_eq_true, decide_eq_true_eq] at h
  obtain ⟨⟨⟨rfl, h2⟩, h3⟩, h4⟩ := h
  refine ⟨PE_to (c_cmp O.units (ha C _ X W O h2).1 (hb C _ X W O h3).1 (beh_ok h4)) fun r => ?_, PT_to (c_cmpT O.units (ha C _ X W O h2).1 (hb C _ X W O h3).1 (beh_ok h4)) fun r => ?_⟩ <;> rw [ev]
theorem s_chain (o p : Cop) {a b c : Ex} (ha : SoundE G cl k a) (hb : SoundE G cl k b) (hc : SoundE G cl k c) : SoundE G cl k (.chain o p a b c) := fun C x X W O h => by
  unfold isE at h
  cases x <;> try cases h
  rename_i x ops ys pos
  rcases ops with _ | ⟨q1, _ | ⟨q2, _ | ⟨q3, ps⟩⟩⟩ <;> rcases ys with _ | ⟨y, _ | ⟨z, _ | ⟨z2, ys⟩⟩⟩ <;> try cases h
  simp only [Bool.and_eq_true, decide_eq_true_eq] at h
  obtain ⟨⟨⟨⟨⟨rfl, rfl⟩, h2⟩, h3⟩, h4⟩, h5⟩ := h
  have hm : lastMarks [o.op, p.op] [y, z] = false := beh_ok h5
  refine ⟨PE_to (c_chain O.units (ha C _ X W O h2).1 (hb C _ X W O h3).1 (hc C _ X W O h4).1 hm) fun r => ?_, PT_to (c_chainT O.units (ha C _ X W O h2).1 (hb C _ X W O h3).1 (hc C _ X W O h4).1 hm) fun r => ?_⟩ <;> rw [ev]
theorem nonempty_of {es : Exs} {C : Chk} {G : Gd} {xs : List Expr} (h : isL es C xs = true) (hx : xs = []) : es = .nil := by
  subst hx
  cases es with
  | nil => rfl
  | cons e es => unfold isL at h; cases h
theorem can_failE {X : Cx} {W : WX} {e : Expr} : PE X e (canE X.K W cl fun _ => .fail) := ⟨fun pins s σ H Q I ⟨r, F, _, _, q⟩ => False.elim q⟩
theorem can_failT {X : Cx} {W : WX} {e : Expr} : PT X e (canT X.K W cl fun _ => asB .fail) := ⟨fun pins s σ H Q I ⟨r, F, _, _, q⟩ => False.elim q⟩
theorem s_band {es : Exs} (he : SoundL G cl k es) : SoundE G cl k (.band es) := fun C x X W O h => by
  unfold isE at h
  cases x <;> try cases h
  rename_i op xs pos
  cases op <;> try cases h
  by_cases hx : xs = []
  · have e := nonempty_of (G := G) h hx
    subst e
    refine ⟨PE_to can_failE fun r => ?_, PT_to (f := fun _ => .fail) can_failT fun r => ?_⟩ <;> rw [ev, evAnd]
  · obtain ⟨h1, h2⟩ := (he C xs X W O h).2.1 pos hx
    refine ⟨PE_to h1 fun r => ?_, PT_to h2.pt fun r => ?_⟩ <;> rw [ev]
theorem s_bor {es : Exs} (he : SoundL G cl k es) : SoundE G cl k (.bor es) := fun C x X W O h => by
  unfold isE at h
  cases x <;> try cases h
  rename_i op xs pos
  cases op <;> try cases h
  by_cases hx : xs = []
  · have e := nonempty_of (G := G) h hx
    subst e
    refine ⟨PE_to can_failE fun r => ?_, PT_to (f := fun _ => .fail) can_failT fun r => ?_⟩ <;> rw [ev, evOr]
  · obtain ⟨h1, h2⟩ := (he C xs X W O h).2.2 pos hx
    refine ⟨PE_to h1 fun r => ?_, PT_to h2.pt fun r => ?_⟩ <;> rw [ev]
theorem s_bnot {a : Ex} (ha : SoundE G cl k a) : SoundE G cl k (.bnot a) := fun C x X W O h => by
  unfold isE at h
  cases x <;> try cases h
  rename_i op x pos
  cases op <;> try cases h
  refine ⟨PE_to (c_notV (ha C _ X W O h).1) fun r => ?_, PT_to (c_not (ha C _ X W O h).2) fun r => ?_⟩ <;> rw [ev]
theorem s_tup {es : Exs} (he : SoundL G cl k es) : SoundE G cl k (.tup es) := fun C x X W O h => by
  unfold isE at h
  cases x <;> try cases h
  refine both (PE_to (c_tup (he C _ X W O h).1) fun r => ?_) fun _ => rfl
  rw [ev]
theorem s_lst {es : Exs} (he : SoundL G cl k es) : SoundE G cl k (.lst es) := fun C x X W O h => by
  unfold isE at h
  cases x <;> try cases h
  refine both (PE_to (c_lst (he C _ X W O h).1) fun r => ?_) fun _ => rfl
  rw [ev]
theorem s_ix {a b : Ex} (ha : SoundE G cl k a) (hb : SoundE G cl k b) : SoundE G cl k (.ix a b) := fun C x X W O h => by
  unfold isE at h
  cases x <;> try cases h
  simp only [Bool.and_eq_true] at h
  refine both (PE_to (c_ix (ha C _ X W O h.1.1).1 (hb C _ X W O h.1.2).1 (plain_ok h.2)) fun r => ?_) fun _ => rfl
  rw [ev]
theorem s_sl {a : Ex} {lo hi : Ox} (ha : SoundE G cl k a) (hl : SoundO G cl k lo) (hh : SoundO G cl k hi) : SoundE G cl k (.sl a lo hi) := fun C x X W O h => by
  unfold isE at h
  cases x <;> try cases h
  rename_i x y pos
  cases y <;> try cases h
  rename_i l u st p2
  cases st <;> try cases h
  simp only [Bool.and_eq_true] at h
  refine both (PE_to (c_sl (ha C _ X W O h.1.1).1 (hl.1 C _ X W O h.1.2) (hh.1 C _ X W O h.2)) fun r => ?_) fun _ => rfl
  rw [ev]
theorem s_isi {a : Ex} (t : Ty) (ha : SoundE G cl k a) : SoundE G cl k (.isi a t) := fun C x X W O h => by
  unfold isE at h
  cases x <;> try cases h
  rename_i f as ks pos
  cases f <;> try cases h
  rename_i f p1
  rcases as with _ | ⟨x, _ | ⟨y, as⟩⟩ <;> try cases h
  cases y <;> try cases h
  rename_i tn p2
  cases as <;> try cases h
  cases ks <;> try cases h
  simp only [Bool.and_eq_true, decide_eq_true_eq] at h
  obtain ⟨⟨⟨⟨⟨rfl, h1⟩, h2⟩, h3⟩, rfl⟩, h4⟩ := h
  obtain ⟨g1, g2, g3⟩ := O.bl h1
  obtain ⟨q1, q2, q3⟩ := O.bl h4
  obtain ⟨n1, _, n3⟩ := okName_ok g3
  obtain ⟨m1, _, m3⟩ := okName_ok q3
  refine both (PE_to (c_isi (t := t) (pe_callB call_isi g1 g2 (by decide +kernel) (pa_cons (ha C _ X W O h2).1 (pa_cons (pe_bltn q1 q2 (boot_ty t) rfl m3 m1) pa_nil rfl) (star_ok h3)) n3 n1 (star_ok h3) rfl)) fun r => ?_) fun _ => rfl
  rw [ev]
theorem s_bf (f : Bf) {es : Exs} (he : SoundL G cl k es) : SoundE G cl k (.bf f es) := fun C x X W O h => by
  unfold isE at h
  cases x <;> try cases h
  rename_i fn as ks pos
  cases fn <;> try cases h
  rename_i fn p1
  cases ks <;> try cases h
  simp only [Bool.and_eq_true, Bool.or_eq_true, decide_eq_true_eq, Bool.not_eq_true'] at h
  obtain ⟨⟨⟨⟨hh, rfl⟩, h1⟩, h2⟩, h3⟩ := h
  obtain ⟨g1, g2, g3⟩ := O.bl h1
  obtain ⟨n1, _, n3⟩ := okName_ok g3
  cases as with
  | nil => exact absurd rfl h3
  | cons a as =>
    have hA := (he C _ X W O h2).1
    have h2' := h2
    cases es with
    | nil => unfold isL at h2'; cases h2'
    | cons e es =>
      unfold isL at h2'
      simp only [Bool.and_eq_true] at h2'
      have st : starEach (a :: as) X.env = (false, eval a X.env) :: starEach as X.env := star_ok h2'.1.2
      have st2 := isL_star (env := X.env) (pos := pos) es as h2'.2
      have hf : CallR X f.fn (rLD X.K (bf f)) := by
        cases q : C.hot with
        | false => exact op_bf (X := X) (O.calm q) f
        | true =>
          have ef : f = .any := by
            rcases hh with z | z
            · rw [q] at z; cases z
            · cases f <;> first | rfl | exact absurd z (by decide)
          obtain ⟨c, a0, D, oe, e1, hp, hz, hf, hh2, _⟩ := (O.hotx q).ex
          obtain ⟨vs, e⟩ := hf
          rw [ef]
          exact PXK.op_anyH ⟨(a0.1, oe), ⟨hh2, vs, e, hz.2.2 vs e⟩, hp⟩
      have hb := boot_bf f
      have go : PE X (.Call (.Name f.name p1) (a :: as) [] pos) (tCB (rLD X.K (bf f)) (canA X.K W cl (evs G (.cons e es)))) := by
        cases f <;> first
          | exact pe_callB hf g1 g2 hb hA n3 n1 st st2
          | exact pe_callTy hf g1 g2 hb hA n3 n1 st st2
      refine both (PE_to (c_bf go) fun r => ?_) fun _ => rfl
      rw [ev]
theorem s_bits {a : Ex} (ha : SoundE G cl k a) : SoundE G cl k (.bits a) := fun C x X W O h => by
  unfold isE at h
  cases x <;> try cases h
  rename_i f as ks pos
  cases f <;> try cases h
  rename_i x m p1
  cases as <;> try cases h
  cases ks <;> try cases h
  simp only [Bool.and_eq_true, decide_eq_true_eq] at h
  obtain ⟨⟨⟨rfl, h1⟩, h2⟩, h3⟩ := h
  refine both (PE_to (c_bits (ha C _ X W O h1).1 (base_ok h2) h3) fun r => ?_) fun _ => rfl
  rw [ev]
theorem s_call (f : Nat) {es : Exs} (dfl : List PyData) (he : SoundL G cl k es) : SoundE G cl k (.call f es dfl) := fun C x X W O h => by
  unfold isE at h
  cases x <;> try cases h
  rename_i fn as ks pos
  cases fn <;> try cases h
  rename_i fn p1
  cases ks <;> try cases h
  dsimp only at h
  cases e0 : C.fns[f]? with
  | none => rw [e0] at h; cases h
  | some q =>
    obtain ⟨y, np, df⟩ := q
    rw [e0] at h
    simp only [Bool.and_eq_true, decide_eq_true_eq, Bool.not_eq_true'] at h
    obtain ⟨⟨⟨⟨⟨⟨⟨⟨⟨hh, rfl⟩, h1⟩, h2⟩, h3⟩, h4⟩, h5⟩, h6⟩, h7⟩, h8⟩ := h
    obtain ⟨n1, _, _⟩ := okName_ok h2
    obtain ⟨fa, fd, ps, F, mg, kp, bs⟩ := O.fns f _ _ _ e0
    rw [spF_d h8] at F
    have e7 := sameAll_eq h7
    obtain ⟨ds, b1, b2⟩ := bs (df.length - dfl.length) (Nat.sub_le _ _)
    rw [← e7] at b1
    have hlen : ∀ r ds, evs G es r = .ok ds → ds.length + dfl.length = np := fun r ds q => by rw [evs_len es r ds q]; exact h4
    have hA := (he C _ X W O h3).1
    have h3' := h3
    refine both (PE_to (f := fun r => (evs G es r).bind fun ds => G.fn f (ds ++ dfl)) ?_ fun r => by rw [ev]) fun _ => rfl
    cases as with
    | nil =>
      cases es with
      | cons e es => unfold isL at h3'; cases h3'
      | nil =>
        refine c_call h6 hlen (PE_weak (pe_callD0 F (O.room hh) (O.gl h1) mg kp b2 b1 (E := WE W) (fun σ => L2N.passAt O.tk σ) n1) fun σ H Q ⟨r, F1, hs, hr, q⟩ => ?_)
        rw [evs] at q
        exact (show PL X.K _ [] F1 H from q) [] F1 H (Grow.refl hs) .nil
    | cons a as =>
      cases es with
      | nil => unfold isL at h3'; cases h3'
      | cons e es =>
        unfold isL at h3'
        simp only [Bool.and_eq_true] at h3'
        exact c_call h6 hlen (pe_callD F (O.room hh) (O.gl h1) mg kp b2 b1 (E := WE W) (fun σ => L2N.passAt O.tk σ) hA n1 (star_ok h3'.1.2) (isL_star es as h3'.2))
theorem comp_all {own : List (Str × Nat)} {elt : Ex} {t : Tg} {it : Itx} {cond : Ox} (he : SoundE G cl k elt) (hi : SoundI G cl k it) (hc : SoundO G cl k cond) {C : Chk} {X : Cx} {W : WX} (O : CtxOk X C W G cl k) {ex tx ix : Expr} {ifs : List Expr} {n : Int} {sc : Scope}
    (h : (!C.hot && decide (n = 0) && blkC C.N C.sc sc own && isT { C with nm := sc.names } t tx && isI it C tx ix && isC cond { C with nm := sc.names } ifs && isE elt { C with nm := sc.names } ex && okX ix && t.slots.all (fun i => decide (i ∈ own.map (·.2)))) = true) :
    C.hot = false ∧ n = 0 ∧ PI X tx ix (canI X.K W cl (evi G it)) ∧ BlkOk X.N X.env.scope sc own ∧ (∀ (s : Shared) (H : Hp) (L : Addr) (cs : List (Str × Addr)) (fp : List Addr), PG (X.blk s H sc (compEnvC sc cs L X.env) fp) tx (gT X.K t)) ∧
      (∀ (s : Shared) (H : Hp) (L : Addr) (cs : List (Str × Addr)) (fp : List Addr), PTs (X.blk s H sc (compEnvC sc cs L X.env) fp) ifs (canT X.K W0 cl (evc G cond))) ∧
      (∀ (s : Shared) (H : Hp) (L : Addr) (cs : List (Str × Addr)) (fp : List Addr), PE (X.blk s H sc (compEnvC sc cs L X.env) fp) ex (canE X.K W0 cl (ev G elt))) ∧ (∀ x, foldedSetIterable ix X.env x = pure x) ∧
      ∀ i ∈ t.slots, i ∈ own.map (·.2) := by
  simp only [Bool.and_eq_true, decide_eq_true_eq, List.all_eq_true, Bool.not_eq_true'] at h
  obtain ⟨⟨⟨⟨⟨⟨⟨⟨hh, h0⟩, h1⟩, h2⟩, h3⟩, h4⟩, h5⟩, h6⟩, h7⟩ := h
  refine ⟨hh, h0, hi C tx ix X W O h3, O.blkOk h1, fun s H L cs fp => ?_, fun s H L cs fp => ?_, fun s H L cs fp => ?_, fold_ok h6, h7⟩
  · exact pg_ok (O.blk hh h1 s H L cs fp) hh h2
  · exact hc.2 _ ifs _ W0 (O.blk hh h1 s H L cs fp) h4
  · exact (he _ ex _ W0 (O.blk hh h1 s H L cs fp) h5).1
theorem ev_comp {own : List (Str × Nat)} {elt : Ex} {t : Tg} {it : Itx} {cond : Ox} (r : RE) : ev G (.comp own elt t it cond) r = (evi G it r).bind fun ds => if lineB ds.length = true then ownL (compL (stepC own t (evc G cond) (ev G elt) r) ds) else .fail := by
  rw [ev]
  rfl
theorem s_comp (own : List (Str × Nat)) {elt : Ex} (t : Tg) {it : Itx} {cond : Ox} (he : SoundE G cl k elt) (hi : SoundI G cl k it) (hc : SoundO G cl k cond) : SoundE G cl k (.comp own elt t it cond) := fun C x X W O h => by
  unfold isE at h
  cases x <;> try cases h
  rename_i ex gs sc pos
  rcases gs with _ | ⟨⟨tx, ix, ifs, n⟩, _ | ⟨g2, gs⟩⟩ <;> try cases h
  obtain ⟨hh, rfl, a1, a2, a3, a4, a5, a6, a7⟩ := comp_all he hi hc O h
  refine both (PE_weak (pe_lc (O.calm hh) O.nd a1 a2 a3 a4 a5 a6) fun σ H Q q => tLc_can a7 ?_) fun _ => rfl
  have e : ev G (.comp own elt t it cond) = fun r => (evi G it r).bind fun ds => if lineB ds.length = true then ownL (compL (stepC own t (evc G cond) (ev G elt) r) ds) else .fail := funext ev_comp
  rw [e] at q
  exact q
theorem s_dict0 : SoundE G cl k .dict0 := fun C x X W O h => by
  unfold isE at h
  cases x <;> try cases h
  rename_i ks vs pos
  cases ks <;> cases vs <;> try cases h
  refine both (PE_to c_dict0 fun r => ?_) fun _ => rfl
  rw [ev]
theorem s_tget (n : Nat) {a : Ex} (d : Int) (ha : SoundE G cl k a) : SoundE G cl k (.tget n a d) := fun C x X W O h => by
  unfold isE at h
  split at h
  case h_2 => cases h
  rename_i t p m ap e i kk p2 cp
  simp only [Bool.and_eq_true, decide_eq_true_eq] at h
  obtain ⟨⟨⟨⟨⟨⟨⟨rfl, h1⟩, h2⟩, h3⟩, h4⟩, h5⟩, rfl⟩, h7⟩ := h
  obtain ⟨q1, q2, _⟩ := okName_ok h3
  obtain ⟨tb, A, e1, e2, e3⟩ := O.tab n _ h1
  have st : starEach [e, .Constant (.int i) kk p2] X.env = [(false, eval e X.env), (false, eval (.Constant (.int i) kk p2) X.env)] := star_ok h5
  have g := pe_tget (p := p) (apos := ap) (cpos := cp) (O.gl h2) e2 e3 q1 (ha C e X W O h4).1 (pe_int (i := i) (j := kk) (pos := p2)) ⟨rfl, by rw [st]; rfl, h7, by rw [st]; rfl⟩
  refine both (PE_to (f := fun r => vof (ev G a r) fun x => tgetD (some tb) i x) (PE_weak g fun σ H Q ⟨r, F, hs, hr, q⟩ => useE PV.monoP hs hr q fun x v F1 H1 s1 r1 g1 p1 q1 => ?_) fun r => ?_) fun _ => rfl
  · cases ex : x.d <;> rw [ex] at p1 q1 <;> try exact False.elim q1
    cases p1
    exact ⟨_, _, rfl, rfl, PV.now q1 s1 (.int _)⟩
  · rw [ev, e1]
theorem ints_rps {K : PySem.W.Frag} {F : Hp} {ds : List PyData} {ns : List Int} {vs : List V} (h : ints? ds = some ns) (r : Rps K F ds vs) : vs = ns.map V.int := ints_of h r
theorem dicK_ok {K : PySem.W.Frag} {F : Hp} {W : WX} {cl : Nat → Value} {σ : L2.St} {H : Hp} {P : RV → Hp → Hp → Prop} {d : PyData} {v : V} {k : Dic → Rr} (r : Rp K F d v) (h : PR W cl σ (dicK d k) P F H) :
    ∃ a kvs, v = .ref a ∧ F a = some (.dT (kvs.map fun p => (p.1, dVS p.2))) ∧ (∀ p ∈ kvs, scalD p.2 = true) ∧ PR W cl σ (k kvs) P F H := by
  cases d <;> try exact False.elim h
  rename_i es
  cases e : decD es with
  | none =>
    have h : PR W cl σ (match decD es with
      | some kvs => if kvs.isEmpty = true then .fail else k kvs
      | none => .fail) P F H := h
    rw [e] at h
    exact False.elim h
  | some kvs =>
    have h : PR W cl σ (match decD es with
      | some kvs => if kvs.isEmpty = true then .fail else k kvs
      | none => .fail) P F H := h
    rw [e] at h
    by_cases z : kvs.isEmpty = true
    · have h : PR W cl σ (if kvs.isEmpty = true then .fail else k kvs) P F H := h
      rw [if_pos z] at h
      exact False.elim h
    · have h : PR W cl σ (if kvs.isEmpty = true then .fail else k kvs) P F H := h
      rw [if_neg z] at h
      obtain ⟨a, e1, e2, e3⟩ := dict_rep r e (fun y => z (by rw [y]; rfl))
      exact ⟨a, kvs, e1, e2, e3, h⟩
theorem dVal_ws (kvs : Dic) (k : List L2.Key) : valV (kvs.map fun p => (p.1, dVS p.2)) k = (dVal kvs k).map dVS := by
  unfold valV dVal
  rw [List.find?_map, Option.map_map, Option.map_map]
  rfl
theorem dVS_rp {K : PySem.W.Frag} {F : Hp} {d : PyData} (h : scalD d = true) : Rp K F d (dVS d) := by
  cases d <;> first | exact .non | exact .bl _ | exact .int _ | exact .str _ | cases h
theorem dVal_scal {kvs : Dic} {k : List L2.Key} {d : PyData} (h : ∀ p ∈ kvs, scalD p.2 = true) (e : dVal kvs k = some d) : scalD d = true := by
  unfold dVal at e
  obtain ⟨p, h1, h2⟩ := Option.map_eq_some_iff.1 e
  rw [← h2]
  exact h p (List.mem_of_find?_eq_some h1)
theorem s_dget {a : Ex} {es : Exs} (ha : SoundE G cl k a) (he : SoundL G cl k es) : SoundE G cl k (.dget a es) := fun C x X W O h => by
  unfold isE at h
  split at h
  case h_2 => cases h
  rename_i o m ap ks kk p2 cp
  simp only [Bool.and_eq_true, decide_eq_true_eq] at h
  obtain ⟨⟨⟨⟨rfl, h1⟩, h2⟩, h3⟩, h4⟩ := h
  have st : starEach [.Tuple ks kk p2] X.env = [(false, eval (.Tuple ks kk p2) X.env)] := by rw [star_ok rfl]; rfl
  have hu : X.A.units + 1 < cLine := by have := O.roomh.un; omega
  have g := pe_dget1 (apos := ap) (cpos := cp) hu (ha C o X W O h1).1 (pe_tup (x1 := kk) (pos := p2) (he C ks X W O h3).1) ⟨base_ok h2, by rw [st]; rfl, h4, by rw [st]; rfl⟩
  refine both (PE_to (f := fun r => vof (ev G a r) fun x => dicK x fun kvs => (evs G es r).bind fun ks => ofO (dgetD kvs ks)) (PE_weak g fun σ H Q ⟨r, F, hs, hr, q⟩ => useE PV.monoP hs hr q fun x v F1 H1 s1 r1 g1 p1 q1 => ?_) fun r => by rw [ev]) fun _ => rfl
  obtain ⟨b, kvs, rfl, e2, e3, q3⟩ := dicK_ok p1 q1
  refine ⟨b, rfl, .inr ⟨_, .inl (s1 _ _ e2)⟩, ?_⟩
  refine useA PV.monoP s1 r1 q3 fun ds vs F2 H2 s2 r2 g2 p2 q4 => ?_
  have q5 := PR.ofO q4
  by_cases hz : lineB ds.length = true
  · rw [show dgetD kvs ds = (keysD ds).bind fun k => rv ((dVal kvs k).getD .none) from if_pos hz] at q5
    refine ⟨by rw [← p2.len]; exact lineB_ok hz, fun p hp => ?_⟩
    cases ek : keysD ds with
    | none => rw [ek] at q5; exact False.elim q5
    | some kk2 =>
      rw [ek] at q5
      have q6 : PV X.K Q (.val ((dVal kvs kk2).getD .none)) F2 H2 := q5
      have ev := keys_rep p2 ek
      subst ev
      have e4 : H2 b = some (.dT (kvs.map fun p => (p.1, dVS p.2))) := s2 _ _ (g2.ff _ _ e2)
      refine ⟨_, DGet.t (by rw [upd_ne (ne_of_none e4 hp)]; exact e4) upd_same, ?_⟩
      rw [dVal_ws]
      cases ed : dVal kvs kk2 with
      | none =>
        rw [ed] at q6
        exact q6 .non _ _ (Grow.new s2 hp) .non
      | some d =>
        rw [ed] at q6
        exact q6 (dVS d) _ _ (Grow.new s2 hp) (dVS_rp (dVal_scal e3 ed))
  · rw [show dgetD kvs ds = none from if_neg hz] at q5
    exact False.elim q5
/-- a dict asked for a key that a tuple tells -/
def tDGetV (K : PySem.W.Frag) (td ty : TE) : TE := fun σ H Q => td σ H fun x H1 => ∃ a, x = .ref a ∧ IsD H1 a ∧ ty σ H1 fun y H2 => ∃ kvs k b, H2 a = some (.dT kvs) ∧ y = .ref b ∧ SqT K H2 b (k.map kV) ∧ Q ((valV kvs k).getD .non) H2
theorem pe_dgetV {X : Cx} {o e : Expr} {apos cpos : Pos} {td ty : TE} (hu : X.A.units + 1 < cLine) (ho : PE X o td) (he : PE X e ty) (m : M1 X o "get" apos e cpos) : PE X (.Call (.Attribute o "get" apos) [e] [] cpos) (tDGetV X.K td ty) := by
  refine ⟨fun pins s σ H Q I h => ?_⟩
  refine wpAny_Call_method m.base m.few m.line PySem.F.plainAttrs_dict PySem.F.slot_dict_get PySem.F.type_dict_get (thn (ho.run pins s σ H _ I h) fun u s1 ⟨x, H1, I1, rx, a, ex, d, q1⟩ => ?_)
  subst ex
  obtain rfl : u = Value.ref a := rx
  obtain ⟨t1, t2, _⟩ := isD_at I1 d
  refine ⟨t1, t2, ?_⟩
  rw [m.trees]
  refine Calls.callWith_builtin rfl (Calls.evalArgs_plain (Calls.spliced_cons (thn (he.run pins s1 σ H1 _ I1 q1) fun iv s2 ⟨y, H2, I2, ry, kvs, k, b, e1, ey, sq, q2⟩ => Calls.spliced_nil ?_)))
  subst ey
  obtain rfl : iv = Value.ref b := ry
  obtain ⟨z, hd, xs, rel, dd⟩ := dt_of I2.hok e1
  refine call_meetsIn PySem.F.slot_dict_get dd.typeIs PySem.F.entry_dict_get (PySem.F.args_dict_get_2 _ _) (meetsH_dict_get (tupleKind (mixKind X.prog X.w)) a b hd) ⟨tupleKind_room_in1 hu, k, xs, sqT_key I2 sq, dd, ?_⟩
  exact ⟨_, H2, I2.tok _, (rel.val k).getD (show RelV V.non Value.none from rfl), q2⟩
theorem s_dgv {a kx : Ex} (ha : SoundE G cl k a) (hk : SoundE G cl k kx) : SoundE G cl k (.dgv a kx) := fun C x X W O h => by
  unfold isE at h
  split at h
  case h_2 => cases h
  rename_i o m ap y cp
  simp only [Bool.and_eq_true, decide_eq_true_eq] at h
  obtain ⟨⟨⟨⟨⟨rfl, h1⟩, h2⟩, h3⟩, h5⟩, h4⟩ := h
  have st : starEach [y] X.env = [(false, eval y X.env)] := by rw [star_ok h5]; rfl
  have hu : X.A.units + 1 < cLine := by have := O.roomh.un; omega
  have g := pe_dgetV (apos := ap) (cpos := cp) hu (ha C o X W O h1).1 (hk C y X W O h3).1 ⟨base_ok h2, by rw [st]; rfl, h4, by rw [st]; rfl⟩
  refine both (PE_to (f := fun r => vof (ev G a r) fun x => dicK x fun kvs => vof (ev G kx r) fun y => ofO (dgvD kvs y)) (PE_weak g fun σ H Q ⟨r, F, hs, hr, q⟩ => useE PV.monoP hs hr q fun x v F1 H1 s1 r1 g1 p1 q1 => ?_) fun r => by rw [ev]) fun _ => rfl
  obtain ⟨b, kvs, rfl, e2, e3, q3⟩ := dicK_ok p1 q1
  refine ⟨b, rfl, .inr ⟨_, .inl (s1 _ _ e2)⟩, ?_⟩
  refine useE PV.monoP s1 r1 q3 fun y u F2 H2 s2 r2 g2 p2 q4 => ?_
  have q5 := PR.ofO q4
  cases ek : keyD y.d with
  | none =>
    rw [show dgvD kvs y.d = (keyD y.d).bind fun k => rv ((dVal kvs k).getD .none) from rfl, ek] at q5
    exact False.elim q5
  | some kk =>
    rw [show dgvD kvs y.d = (keyD y.d).bind fun k => rv ((dVal kvs k).getD .none) from rfl, ek] at q5
    have q6 : PV X.K Q (.val ((dVal kvs kk).getD .none)) F2 H2 := q5
    obtain ⟨c, rfl, sq⟩ := key_rep p2 ek
    have e4 : H2 b = some (.dT (kvs.map fun p => (p.1, dVS p.2))) := s2 _ _ (g2.ff _ _ e2)
    refine ⟨_, kk, c, e4, rfl, sqT_mono s2 sq, ?_⟩
    rw [dVal_ws]
    cases ed : dVal kvs kk with
    | none =>
      rw [ed] at q6
      exact PV.now q6 s2 .non
    | some d =>
      rw [ed] at q6
      exact PV.now q6 s2 (dVS_rp (dVal_scal e3 ed))
/-- a slice with a step, its parts written -/
def tStepL (K : PySem.W.Frag) (te : TE) (lo hi st : Int) : TE := fun σ H Q => te σ H fun x H1 => ∃ a xs, x = .ref a ∧ SqL K H1 a xs ∧ ∀ p, H1 p = none → Q (.ref p) (upd H1 p (.lst (pickL xs lo hi st)))
theorem vals_get : ∀ {xs : List V} {its : List Value} {j : Nat} {u : Value}, Vals xs its → its[j]? = some u → ∃ x, xs[j]? = some x ∧ RelV x u
  | _, _, 0, u, .cons r t, h => by cases h; exact ⟨_, rfl, r⟩
  | _, _, j + 1, u, .cons r t, h => vals_get (j := j) t h
theorem pick_vals {xs : List V} {its : List Value} (h : Vals xs its) : ∀ is : List Nat, Vals (is.filterMap (xs[·]?)) (is.filterMap (its.toArray[·]?))
  | [] => .nil
  | i :: is => by
    rw [List.filterMap_cons, List.filterMap_cons]
    have e : its.toArray[i]? = its[i]? := by simp
    cases q : its[i]? with
    | none =>
      have hl := h.length
      have : xs[i]? = none := List.getElem?_eq_none (by have := List.getElem?_eq_none_iff.1 q; omega)
      rw [e, q, this]
      exact pick_vals h is
    | some u =>
      obtain ⟨x, hx, r⟩ := vals_get h q
      rw [e, q, hx]
      exact .cons r (pick_vals h is)
theorem pick_rps {K : PySem.W.Frag} {F : Hp} {ds : List PyData} {vs : List V} (h : Rps K F ds vs) : ∀ is : List Nat, Rps K F (is.filterMap (ds[·]?)) (is.filterMap (vs[·]?))
  | [] => .nil
  | i :: is => by
    rw [List.filterMap_cons, List.filterMap_cons]
    cases q : ds[i]? with
    | none =>
      have hl := h.len
      have : vs[i]? = none := List.getElem?_eq_none (by have := List.getElem?_eq_none_iff.1 q; omega)
      rw [this]
      exact pick_rps h is
    | some d =>
      obtain ⟨v, hv, r⟩ := h.get q
      rw [hv]
      exact .cons r (pick_rps h is)
theorem pe_stepL {X : Cx} {e : Expr} {te : TE} {lo hi st : Int} {k1 k2 k3 : Nat} {p1 p2 p3 p4 pos : Pos} (h0 : st ≠ 0) (he : PE X e te) : PE X (.Subscript e (.Slice (some (.Constant (.int lo) k1 p1)) (some (.Constant (.int hi) k2 p2)) (some (.Constant (.int st) k3 p3)) p4) pos) (tStepL X.K te lo hi st) := by
  refine ⟨fun pins s σ H Q I h => ?_⟩
  refine Subscript_ (thn (he.run pins s σ H _ I h) fun v s1 ⟨x, H1, I1, r1, q1⟩ => ?_)
  obtain ⟨a, xs, ex, hx, q⟩ := q1
  subst ex
  cases r1
  have hl : PO X (some (.Constant (.int lo) k1 p1)) (tPart (tC (.int lo))) := po_some pe_int
  have hh : PO X (some (.Constant (.int hi) k2 p2)) (tPart (tC (.int hi))) := po_some pe_int
  have hst : PO X (some (.Constant (.int st) k3 p3)) (tPart (tC (.int st))) := po_some pe_int
  refine wpAny_Slice (thn (hl.run pins s1 σ H1 (fun o H2 => o = some lo ∧ H2 = H1) I1 ⟨lo, rfl, rfl, rfl⟩) fun vl s2 ⟨l, H2, I2, pl, el, e2⟩ => ?_)
  subst el e2
  refine thn (hh.run pins s2 σ H2 (fun o H3 => o = some hi ∧ H3 = H2) I2 ⟨hi, rfl, rfl, rfl⟩) fun vu s3 ⟨u, H3, I3, pu, eu, e3⟩ => ?_
  subst eu e3
  refine thn (hst.run pins s3 σ H3 (fun o H4 => o = some st ∧ H4 = H3) I3 ⟨st, rfl, rfl, rfl⟩) fun vs s4 ⟨o, H4, I4, ps, eo, e4⟩ => ?_
  subst eo e4
  have I5 : Inv X pins σ H4 { s4 with heap := s4.heap.push { cls := .type "slice", data := .fields #[vl, vu, vs] } } := I4.kept (t' := s4.toks) fun b ob q => Heap.get?_push_of_some _ q
  obtain ⟨its, r, ht, hz⟩ := I5.list hx
  have hlen := r.length
  refine tail_any (ops := [.ref a, .ref s4.heap.objs.size]) ht.isList.typeIs (PySem.slot_list_getitem.lookup) ?_ (by with_unfolding_all rfl)
  refine wpAny_getItem_list_slice ht.isList (Heap.IsSliceOf.new _ vl vu vs) pl pu ps (fun z => h0 (Option.some.inj z)) ?_ (by rw [List.size_toArray]; omega)
  have es : its.toArray.size = xs.length := by rw [List.size_toArray]; exact hlen.symm
  have rv : Vals (pickL xs lo hi st) (slicePick its.toArray (some lo) (some hi) (some st)).toList := by
    unfold slicePick pickL
    rw [es]
    exact pick_vals r _
  have lz : (pickL xs lo hi st).length ≤ sizeLine := by
    rw [rv.length, Array.length_toList]
    exact Nat.le_trans (slicePick_size_le _ _ _ _) (by rw [es]; exact hz)
  refine ⟨.ref _, _, I5.laid (t' := s4.toks) (o := .lst (pickL xs lo hi st)) (fun b ob q => Heap.get?_push_of_some _ q) (Nat.le_refl _) ?_, rfl, q _ (I5.hok.fresh (Nat.le_refl _))⟩
  exact ⟨lz, _, 0, rv, Heap.get?_push_size _ rfl⟩
theorem s_sl3 {a : Ex} (lo hi st : Int) (ha : SoundE G cl k a) : SoundE G cl k (.sl3 a lo hi st) := fun C x X W O h => by
  unfold isE at h
  split at h
  case h_2 => cases h
  simp only [Bool.and_eq_true, decide_eq_true_eq] at h
  obtain ⟨⟨⟨⟨e1, e2⟩, e3⟩, h0⟩, h1⟩ := h
  subst e1 e2 e3
  rename_i y l _ _ h2 _ _ s _ _ _ _
  refine both (PE_to (f := fun r => vof (ev G a r) fun x => ofO (sl3D l h2 s x)) (PE_weak (pe_stepL h0 (ha C _ X W O h1).1) fun σ H Q ⟨r, F, hs, hr, q⟩ => useE PV.monoP hs hr q fun x v F1 H1 s1 r1 g1 p1 q1 => ?_) fun r => by rw [ev]) fun _ => rfl
  have q2 := PR.ofO q1
  cases e : x.d <;> rw [e] at p1 q2 <;> try exact False.elim q2
  cases p1
  rename_i xs sq rs
  have el := rs.len
  refine ⟨_, _, rfl, sqL_mono s1 sq, fun p hp => PV.newL q2 s1 ?_ hp⟩
  unfold pickL
  rw [el]
  exact pick_rps rs _
theorem s_dix {a : Ex} {es : Exs} (ha : SoundE G cl k a) (he : SoundL G cl k es) : SoundE G cl k (.dix a es) := fun C x X W O h => by
  unfold isE at h
  split at h
  case h_2 => cases h
  rename_i o ks kk p2 pos
  simp only [Bool.and_eq_true] at h
  obtain ⟨h1, h3⟩ := h
  have hu : X.A.units + 1 < cLine := by have := O.roomh.un; omega
  have g := pe_dget (pos := pos) hu (ha C o X W O h1).1 (pe_tup (x1 := kk) (pos := p2) (he C ks X W O h3).1) (fun _ _ => rfl)
  refine both (PE_to (f := fun r => vof (ev G a r) fun x => dicK x fun kvs => (evs G es r).bind fun ks => ofO (dixD kvs ks)) (PE_weak g fun σ H Q ⟨r, F, hs, hr, q⟩ => useE PV.monoP hs hr q fun x v F1 H1 s1 r1 g1 p1 q1 => ?_) fun r => by rw [ev]) fun _ => rfl
  obtain ⟨b, kvs, rfl, e2, e3, q3⟩ := dicK_ok p1 q1
  refine useA PV.monoP s1 r1 q3 fun ds vs F2 H2 s2 r2 g2 p2 q4 => ?_
  have q5 := PR.ofO q4
  by_cases hz : lineB ds.length = true
  · rw [show dixD kvs ds = (keysD ds).bind fun k => (dVal kvs k).bind fun d => rv d from if_pos hz] at q5
    refine ⟨by rw [← p2.len]; exact lineB_ok hz, fun p hp => ?_⟩
    cases ek : keysD ds with
    | none => rw [ek] at q5; exact False.elim q5
    | some kk2 =>
      rw [ek] at q5
      have ev := keys_rep p2 ek
      subst ev
      have e4 : H2 b = some (.dT (kvs.map fun p => (p.1, dVS p.2))) := s2 _ _ (g2.ff _ _ e2)
      cases ed : dVal kvs kk2 with
      | none =>
        have q6 : PN ((dVal kvs kk2).bind fun d => rv d) (PV X.K Q) F2 H2 := q5
        rw [ed] at q6
        exact False.elim q6
      | some d =>
        have q6 : PN ((dVal kvs kk2).bind fun d => rv d) (PV X.K Q) F2 H2 := q5
        rw [ed] at q6
        have q7 : PV X.K Q (.val d) F2 H2 := q6
        refine ⟨b, dVS d, rfl, ?_, q7 (dVS d) _ _ (Grow.new s2 hp) (dVS_rp (dVal_scal e3 ed))⟩
        have dg := DGet.t (H := upd H2 p (.tup (kk2.map kV))) (a := b) (b := p) (k := kk2) (kvs := kvs.map fun p => (p.1, dVS p.2)) (by rw [upd_ne (ne_of_none e4 hp)]; exact e4) upd_same
        rw [dVal_ws, ed] at dg
        exact dg
  · rw [show dixD kvs ds = none from if_neg hz] at q5
    exact False.elim q5
theorem s_nset {a : Ex} (ha : SoundE G cl k a) : SoundE G cl k (.nset a) := fun C x X W O h => by
  unfold isE at h
  split at h
  case h_2 => cases h
  rename_i l p1 s p2 e p3 p4
  simp only [Bool.and_eq_true, decide_eq_true_eq, Bool.not_eq_true'] at h
  obtain ⟨⟨⟨⟨⟨⟨hh, rfl⟩, h1⟩, rfl⟩, h2⟩, h3⟩, h4⟩ := h
  obtain ⟨g1, g2, _⟩ := O.bl h1
  obtain ⟨q1, q2, _⟩ := O.bl h2
  refine both (PE_to (f := fun r => vof (ev G a r) fun x => ofO (nsetD x)) (PE_weak (pe_nset g1 g2 q1 q2 (ha C _ X W O h3).1 (O.calm hh) (star_ok h4)) fun σ H Q ⟨r, F, hs, hr, q⟩ => useE PV.monoP hs hr q fun x v F1 H1 s1 r1 gg p1 q3 => ?_) fun r => ?_) fun _ => rfl
  · have q4 := PR.ofO q3
    cases ex : x.d <;> rw [ex] at p1 q4 <;> try exact False.elim q4
    rename_i ds
    cases p1 with
    | lst sq rs =>
      have q4 : PN (match ints? ds with
        | some ns => if ns.length ≤ 4000 then rint ((PyProof.Rows.firstMet (fun i => ns.getD i 0) ns.length).length : Nat) else none
        | none => none) (PV X.K Q) F1 H1 := q4
      cases e2 : ints? ds with
      | none => rw [e2] at q4; exact False.elim q4
      | some ns =>
        rw [e2] at q4
        have q4 : PN (if ns.length ≤ 4000 then rint ((PyProof.Rows.firstMet (fun i => ns.getD i 0) ns.length).length : Nat) else none) (PV X.K Q) F1 H1 := q4
        by_cases hl : ns.length ≤ 4000
        · rw [if_pos hl] at q4
          have ev := ints_of e2 rs
          subst ev
          exact ⟨_, ns, rfl, sqL_mono s1 sq, hl, PV.now q4 s1 (.int _)⟩
        · rw [if_neg hl] at q4
          exact False.elim q4
  · rw [ev]
theorem s_lrng1 {a : Ex} (ha : SoundE G cl k a) : SoundE G cl k (.lrng1 a) := fun C x X W O h => by
  unfold isE at h
  cases x <;> try cases h
  rename_i f as ks pos
  cases f <;> try cases h
  rename_i f p1
  rcases as with _ | ⟨y, as⟩ <;> try cases h
  cases y <;> try cases h
  rename_i g bs ks2 p2
  cases g <;> try (first | cases h | (cases as <;> cases h))
  rename_i g p3
  rcases bs with _ | ⟨b, _ | ⟨b2, bs⟩⟩ <;> try (first | cases h | (cases as <;> cases h))
  cases ks2 <;> try (first | cases h | (cases as <;> cases h))
  cases as <;> try cases h
  cases ks <;> try cases h
  simp only [Bool.and_eq_true, decide_eq_true_eq, Bool.not_eq_true'] at h
  obtain ⟨⟨⟨⟨⟨⟨hh, rfl⟩, h1⟩, rfl⟩, h2⟩, h3⟩, h4⟩ := h
  obtain ⟨g1, g2, _⟩ := O.bl h1
  obtain ⟨q1, q2, _⟩ := O.bl h2
  refine both (PE_to (c_lrng1 (pe_listRg (O.calm hh) g1 g2 (prg_1 q1 q2 (ha C _ X W O h3).1 (star_ok h4)))) fun r => ?_) fun _ => rfl
  rw [ev]
theorem s_lrev {a : Ex} (ha : SoundE G cl k a) : SoundE G cl k (.lrev a) := fun C x X W O h => by
  unfold isE at h
  split at h
  · rename_i y z k1 p1 p2 p3 pos
    simp only [Bool.and_eq_true, decide_eq_true_eq] at h
    obtain ⟨rfl, h3⟩ := h
    refine both (PE_to (c_revL (pe_revL (ha C _ X W O h3).1)) fun r => ?_) fun _ => rfl
    rw [ev]
  · rename_i l p1 r p2 b p3 p4
    simp only [Bool.and_eq_true, decide_eq_true_eq, Bool.not_eq_true'] at h
    obtain ⟨⟨⟨⟨⟨⟨hh, rfl⟩, h1⟩, rfl⟩, h2⟩, h3⟩, h4⟩ := h
    obtain ⟨g1, g2, _⟩ := O.bl h1
    obtain ⟨q1, q2, _⟩ := O.bl h2
    refine both (PE_to (c_lrev (pe_listRev (O.calm hh) g1 g2 q1 q2 (ha C _ X W O h3).1 (star_ok h4))) fun r => ?_) fun _ => rfl
    rw [ev]
  · cases h
theorem s_lrng2 {a b : Ex} (ha : SoundE G cl k a) (hb : SoundE G cl k b) : SoundE G cl k (.lrng2 a b) := fun C x X W O h => by
  unfold isE at h
  cases x <;> try cases h
  rename_i f as ks pos
  cases f <;> try cases h
  rename_i f p1
  rcases as with _ | ⟨y, as⟩ <;> try cases h
  cases y <;> try cases h
  rename_i g bs ks2 p2
  cases g <;> try (first | cases h | (cases as <;> cases h))
  rename_i g p3
  rcases bs with _ | ⟨b, _ | ⟨b2, _ | ⟨b3, bs⟩⟩⟩ <;> try (first | cases h | (cases as <;> cases h))
  cases ks2 <;> try (first | cases h | (cases as <;> cases h))
  cases as <;> try cases h
  cases ks <;> try cases h
  simp only [Bool.and_eq_true, decide_eq_true_eq, Bool.not_eq_true'] at h
  obtain ⟨⟨⟨⟨⟨⟨⟨⟨hh, rfl⟩, h1⟩, rfl⟩, h2⟩, h3⟩, h4⟩, h5⟩, h6⟩ := h
  obtain ⟨g1, g2, _⟩ := O.bl h1
  obtain ⟨q1, q2, _⟩ := O.bl h2
  refine both (PE_to (c_lrng2 (pe_listRg (O.calm hh) g1 g2 (prg_2 q1 q2 (ha C _ X W O h3).1 (hb C _ X W O h4).1 (star_ok h5) (star_ok h6) (by rw [star_ok h6]; rfl)))) fun r => ?_) fun _ => rfl
  rw [ev]
theorem s_rep {es : Exs} {b : Ex} (he : SoundL G cl k es) (hb : SoundE G cl k b) : SoundE G cl k (.rep es b) := fun C x X W O h => by
  unfold isE at h
  cases x <;> try cases h
  rename_i l op y pos
  cases l <;> try cases h
  simp only [Bool.and_eq_true, decide_eq_true_eq] at h
  obtain ⟨⟨rfl, h2⟩, h3⟩ := h
  refine both (PE_to (c_rep (he C _ X W O h2).1 (hb C _ X W O h3).1) fun r => ?_) fun _ => rfl
  rw [ev]
theorem l_nil : SoundL G cl k .nil := fun C xs X W O h => by
  unfold isL at h
  cases xs <;> try cases h
  exact ⟨PA_to c_nil fun r => by rw [evs], fun pos hx => absurd rfl hx, fun pos hx => absurd rfl hx⟩
theorem evAnd_cons {e e2 : Ex} {es : Exs} (r : RE) : evAnd G (.cons e (.cons e2 es)) r = vof (ev G e r) fun x => andK (evAnd G (.cons e2 es) r) x := by
  rw [evAnd]
  refine congrArg _ (funext fun x => ?_)
  cases x <;> first | rfl | (rename_i b; cases b <;> rfl)
theorem evOr_cons {e e2 : Ex} {es : Exs} (r : RE) : evOr G (.cons e (.cons e2 es)) r = vof (ev G e r) fun x => orK (evOr G (.cons e2 es) r) x := by
  rw [evOr]
  refine congrArg _ (funext fun x => ?_)
  cases x <;> first | rfl | (rename_i b; cases b <;> rfl)
theorem l_cons {e : Ex} {es : Exs} (he : SoundE G cl k e) (hs : SoundL G cl k es) : SoundL G cl k (.cons e es) := fun C xs X W O h => by
  have h0 := h
  unfold isL at h
  cases xs <;> try cases h
  rename_i x xs
  simp only [Bool.and_eq_true] at h
  obtain ⟨a1, a2⟩ := he C x X W O h.1.1
  obtain ⟨b1, b2, b3⟩ := hs C xs X W O h.2
  refine ⟨PA_to (c_cons a1 b1 (star_ok h.1.2)) fun r => by rw [evs], fun pos _ => ?_, fun pos _ => ?_⟩
  · cases xs with
    | nil =>
      have e0 := nonempty_of (G := G) h.2 rfl
      subst e0
      exact ⟨PE_to (pe_one a1) fun r => by rw [evAnd], PW_to (f := ev G e) (PW_single a2) fun r => by rw [evAnd]⟩
    | cons y ys =>
      cases es with
      | nil =>
        have h2 := h.2
        unfold isL at h2
        cases h2
      | cons e2 es =>
        obtain ⟨c1, c2⟩ := b2 pos (by simp)
        exact ⟨PE_to (c_and a1 c1) evAnd_cons, PW_to (c_andT a2 c2) evAnd_cons⟩
  · cases xs with
    | nil =>
      have e0 := nonempty_of (G := G) h.2 rfl
      subst e0
      exact ⟨PE_to (pe_one a1) fun r => by rw [evOr], PW_to (f := ev G e) (PW_single a2) fun r => by rw [evOr]⟩
    | cons y ys =>
      cases es with
      | nil =>
        have h2 := h.2
        unfold isL at h2
        cases h2
      | cons e2 es =>
        obtain ⟨c1, c2⟩ := b3 pos (by simp)
        exact ⟨PE_to (c_or a1 c1) evOr_cons, PW_to (c_orT a2 c2) evOr_cons⟩
theorem o_no : SoundO G cl k .no := ⟨fun C x X W O h => by
  unfold isO at h
  cases x <;> try cases h
  have e : evo G .no = fun _ => .ok none := funext fun r => by rw [evo]
  rw [e]
  exact c_ono, fun C xs X W O h => by
  unfold isC at h
  cases xs <;> try cases h
  have e : evc G .no = fun _ => .ok true := funext fun r => by rw [evc]
  rw [e]
  exact ⟨fun pins s σ H Q I ⟨r, F, hs, hr, q⟩ => pts_nil.run pins s σ H Q I ((show PB Q true F H from q) F H (Grow.refl hs))⟩⟩
theorem o_yes {e : Ex} (he : SoundE G cl k e) : SoundO G cl k (.yes e) := ⟨fun C x X W O h => by
  unfold isO at h
  cases x <;> try cases h
  rename_i x
  have e1 : evo G (.yes e) = fun r => (ev G e r).bind fun x => intK x.d := funext fun r => by
    rw [evo]
    rfl
  rw [e1]
  exact c_oyes (he C x X W O h).1, fun C xs X W O h => by
  unfold isC at h
  rcases xs with _ | ⟨x, _ | ⟨y, xs⟩⟩ <;> try cases h
  have e1 : evc G (.yes e) = fun r => asB (ev G e r) := funext fun r => by rw [evc]
  rw [e1]
  exact pts_one (he C x X W O h).2⟩
theorem i_seq {e : Ex} (he : SoundE G cl k e) : SoundI G cl k (.seq e) := fun C tg x X W O h => by
  unfold isI at h
  exact PI_to (c_seq (he C x X W O h).1) fun r => by rw [evi]
theorem i_rng1 {a : Ex} (ha : SoundE G cl k a) : SoundI G cl k (.rng1 a) := fun C tg x X W O h => by
  unfold isI at h
  cases x <;> try cases h
  rename_i f as ks pos
  cases f <;> try cases h
  rename_i f p1
  rcases as with _ | ⟨x, _ | ⟨y, as⟩⟩ <;> try cases h
  cases ks <;> try cases h
  simp only [Bool.and_eq_true, decide_eq_true_eq] at h
  obtain ⟨⟨⟨rfl, h1⟩, h2⟩, h3⟩ := h
  obtain ⟨g1, g2, _⟩ := O.bl h1
  exact PI_to (c_rng1 (pi_range1 g1 g2 (pa_cons (ha C _ X W O h2).1 pa_nil (star_ok h3)) (star_ok h3))) fun r => by rw [evi]
theorem i_rng2 {a b : Ex} (ha : SoundE G cl k a) (hb : SoundE G cl k b) : SoundI G cl k (.rng2 a b) := fun C tg x X W O h => by
  unfold isI at h
  cases x <;> try cases h
  rename_i f as ks pos
  cases f <;> try cases h
  rename_i f p1
  rcases as with _ | ⟨x, _ | ⟨y, _ | ⟨z, as⟩⟩⟩ <;> try cases h
  cases ks <;> try cases h
  simp only [Bool.and_eq_true, decide_eq_true_eq] at h
  obtain ⟨⟨⟨⟨⟨rfl, h1⟩, h2⟩, h3⟩, h4⟩, h5⟩ := h
  obtain ⟨g1, g2, _⟩ := O.bl h1
  exact PI_to (c_rng2 (pi_range2 g1 g2 (pa_cons (ha C _ X W O h2).1 (pa_cons (hb C _ X W O h3).1 pa_nil (star_ok h5)) (star_ok h4)) (by rw [star_ok h4, star_ok h5]; rfl) (star_ok h5))) fun r => by rw [evi]
theorem i_rng3 {a b c : Ex} (ha : SoundE G cl k a) (hb : SoundE G cl k b) (hc : SoundE G cl k c) : SoundI G cl k (.rng3 a b c) := fun C tg x X W O h => by
  unfold isI at h
  cases x <;> try cases h
  rename_i f as ks pos
  cases f <;> try cases h
  rename_i f p1
  rcases as with _ | ⟨x, _ | ⟨y, _ | ⟨z, _ | ⟨z2, as⟩⟩⟩⟩ <;> try cases h
  cases ks <;> try cases h
  simp only [Bool.and_eq_true, decide_eq_true_eq] at h
  obtain ⟨⟨⟨⟨⟨⟨⟨rfl, h1⟩, h2⟩, h3⟩, h4⟩, h5⟩, h6⟩, h7⟩ := h
  obtain ⟨g1, g2, _⟩ := O.bl h1
  exact PI_to (c_rng3 (pi_range3 g1 g2 (pa_cons (ha C _ X W O h2).1 (pa_cons (hb C _ X W O h3).1 (pa_cons (hc C _ X W O h4).1 pa_nil (star_ok h7)) (star_ok h6)) (star_ok h5)) (star_ok h5) (by rw [star_ok h6, star_ok h7]; rfl))) fun r => by rw [evi]
theorem i_enum {e : Ex} (he : SoundE G cl k e) : SoundI G cl k (.enum e) := fun C tg x X W O h => by
  unfold isI at h
  cases x <;> try cases h
  rename_i f as ks pos
  cases f <;> try cases h
  rename_i f p1
  rcases as with _ | ⟨x, _ | ⟨y, as⟩⟩ <;> try cases h
  cases ks <;> try cases h
  simp only [Bool.and_eq_true, decide_eq_true_eq] at h
  obtain ⟨⟨⟨⟨rfl, h1⟩, h2⟩, h3⟩, h4⟩ := h
  obtain ⟨g1, g2, _⟩ := O.bl h1
  cases tg <;> try cases h4
  exact PI_to (c_enum (PXI.pi_enumA g1 g2 (pa_cons (he C _ X W O h2).1 pa_nil (star_ok h3)) (star_ok h3))) fun r => by rw [evi]
theorem i_zip {a b : Ex} (ha : SoundE G cl k a) (hb : SoundE G cl k b) : SoundI G cl k (.zip a b) := fun C tg x X W O h => by
  unfold isI at h
  cases x <;> try cases h
  rename_i f as ks pos
  cases f <;> try cases h
  rename_i f p1
  rcases as with _ | ⟨x, _ | ⟨y, _ | ⟨z, as⟩⟩⟩ <;> try cases h
  cases ks <;> try cases h
  simp only [Bool.and_eq_true, decide_eq_true_eq] at h
  obtain ⟨⟨⟨⟨⟨⟨rfl, h1⟩, h2⟩, h3⟩, h4⟩, h5⟩, h6⟩ := h
  obtain ⟨g1, g2, _⟩ := O.bl h1
  cases tg <;> try cases h6
  exact PI_to (c_zip (pi_zip g1 g2 (pa_cons (ha C _ X W O h2).1 (pa_cons (hb C _ X W O h3).1 pa_nil (star_ok h5)) (star_ok h4)) (star_ok h4) (by rw [star_ok h5]; rfl))) fun r => by rw [evi]
theorem i_zip3 {a b c : Ex} (ha : SoundE G cl k a) (hb : SoundE G cl k b) (hc : SoundE G cl k c) : SoundI G cl k (.zip3 a b c) := fun C tg x X W O h => by
  unfold isI at h
  cases x <;> try cases h
  rename_i f as ks pos
  cases f <;> try cases h
  rename_i f p1
  rcases as with _ | ⟨x, _ | ⟨y, _ | ⟨z, _ | ⟨z2, as⟩⟩⟩⟩ <;> try cases h
  cases ks <;> try cases h
  simp only [Bool.and_eq_true, decide_eq_true_eq] at h
  obtain ⟨⟨⟨⟨⟨⟨⟨⟨rfl, h1⟩, h2⟩, h3⟩, h4⟩, h5⟩, h6⟩, h7⟩, h8⟩ := h
  obtain ⟨g1, g2, _⟩ := O.bl h1
  cases tg <;> try cases h8
  exact PI_to (c_zip3 (PXI.pi_zip3 g1 g2 (pa_cons (ha C _ X W O h2).1 (pa_cons (hb C _ X W O h3).1 (pa_cons (hc C _ X W O h4).1 pa_nil (star_ok h7)) (star_ok h6)) (star_ok h5)) (star_ok h5) (by rw [star_ok h6, star_ok h7]; rfl))) fun r => by rw [evi]
theorem i_rev {e : Ex} (he : SoundE G cl k e) : SoundI G cl k (.rev e) := fun C tg x X W O h => by
  unfold isI at h
  cases x <;> try cases h
  rename_i f as ks pos
  cases f <;> try cases h
  rename_i f p1
  rcases as with _ | ⟨x, _ | ⟨y, as⟩⟩ <;> try cases h
  cases ks <;> try cases h
  simp only [Bool.and_eq_true, decide_eq_true_eq] at h
  obtain ⟨⟨⟨rfl, h1⟩, h2⟩, h3⟩ := h
  obtain ⟨g1, g2, _⟩ := O.bl h1
  exact PI_to (c_rev (pi_reversed g1 g2 (pa_cons (he C _ X W O h2).1 pa_nil (star_ok h3)) (star_ok h3))) fun r => by rw [evi]

/-! ### isinstance of what is handled -/
theorem kitx_at {X : Cx} {a D : Addr} {oe : Obj} {od : Option Obj} (C : ExcC X.K D) : PySem.W.KitX X.K (.ref a) (.ref D) (fun h => PySem.W.InstAt h a oe D od) := PXI.kitx_exc C (PySem.W.handS_kitx_exc C.hg C.hk C.hs C.hd C.ha C.hn C.ht C.hm)
theorem call_isX {X : Cx} {a D : Addr} {oe : Obj} {d : Option Addr} (C : ExcC X.K D) (hp : (a, oe) ∈ X.pn) (hz : Zc (.ref D) d oe) (hf : ∃ vs, oe.data = .fields vs) : CallR X (.builtin "isinstance") (fun xs H Q => PXI.DOk H d ∧ rIsE X.K D a xs H Q) := by
  intro pins s σ H xs us Q I r ⟨hd, c, cv, b, e0, hcv, e, q⟩
  subst e0
  obtain ⟨u1, u2, rfl, r1, r2⟩ := vals2 r
  obtain rfl : u1 = Value.ref a := r1
  have ec := hcv _ r2
  subst ec
  obtain ⟨od, J⟩ := PXI.inst_ok I hp hz hf hd
  exact PySem.W.kia_one (kitx_at C) I.kIn J e (fun z => nomatch z) fun tk => ⟨.bl b, H, I.tok tk, rfl, q⟩
def rIsXT (K : PySem.W.Frag) (D a : Addr) : List V → Hp → VK → Prop := fun xs H Q => ∃ (tp : Addr) (cs : List V) (us : List Value) (b : Bool), xs = [.ref a, .ref tp] ∧ H tp = some (.tup cs) ∧ Paired ClsV cs us ∧ PySem.W.kitAny K (.ref D) us = some b ∧ Q (.bl b) H
theorem call_isXT {X : Cx} {a D : Addr} {oe : Obj} {d : Option Addr} (C : ExcC X.K D) (hp : (a, oe) ∈ X.pn) (hz : Zc (.ref D) d oe) (hf : ∃ vs, oe.data = .fields vs) : CallR X (.builtin "isinstance") (fun xs H Q => PXI.DOk H d ∧ rIsXT X.K D a xs H Q) := by
  intro pins s σ H xs us Q I r ⟨hd, tp, cs, ws, b, e0, hT, k, e, q⟩
  subst e0
  obtain ⟨u1, u2, rfl, r1, r2⟩ := vals2 r
  obtain rfl : u1 = Value.ref a := r1
  obtain rfl : u2 = Value.ref tp := r2
  obtain ⟨od, J⟩ := PXI.inst_ok I hp hz hf hd
  obtain ⟨_, its, rv, o, h1, h2, n, h3⟩ := (show ObjOk X.prog X.w H s.heap tp (.tup cs) from I.hok tp _ hT)
  have e3 := ClsV.all k rv
  subst e3
  obtain ⟨oc, od', dt, sl⟩ := o
  simp only at h2 h3
  subst h2 h3
  exact PySem.W.kia_tup (kitx_at C) I.kIn J h1 e (fun z => nomatch z) fun tk => ⟨.bl b, H, I.tok tk, rfl, q⟩
def tCl : List V → TA
  | [] => tNil
  | c :: cs => tCons (tC c) (tCl cs)
theorem tCl_use : ∀ {vs : List V} {σ : L2.St} {H : Hp} {Q : List V → Hp → Prop}, Q vs H → tCl vs σ H Q
  | [], _, _, _, h => h
  | c :: cs, σ, H, Q, h => tCl_use (vs := cs) (Q := fun xs H2 => Q (c :: xs) H2) h
theorem cls_ok {X : Cx} {C : Chk} {W : WX} {G : Gd} {cl : Nat → Value} {k : Nat} (O : CtxOk X C W G cl k) {c D : Nat} {y0 : Str} (hc : C.exc[c]? = some y0) (hc0 : y0 ≠ ("" : Str)) (hD : cl c = .ref D) {C1 : Nat} {x : Str} {p : Pos} (h : isCls C C1 x = true) :
    ∃ (v : V) (u : Value), PE X (.Name x p) (tC v) ∧ ClsV v u ∧ PySem.W.kitOne X.K (.ref D) u = some (subC c C1) := by
  unfold isCls at h
  by_cases h1 : C1 = 99
  · rw [if_pos h1] at h
    simp only [Bool.and_eq_true, decide_eq_true_eq] at h
    obtain ⟨rfl, hb⟩ := h
    obtain ⟨g1, g2, g3⟩ := O.bl hb
    obtain ⟨n1, _, n3⟩ := okName_ok g3
    subst h1
    refine ⟨.ty "ValueError", .type "ValueError", pe_bltn g1 g2 (by decide +kernel) rfl n3 n1, .ty _, ?_⟩
    have := O.cls.kitV c D y0 hc hc0 hD
    rw [this]
    unfold subC
    simp
  · rw [if_neg h1] at h
    simp only [Bool.and_eq_true, decide_eq_true_eq, Bool.not_eq_true', beq_eq_false_iff_ne, ne_eq] at h
    obtain ⟨⟨e0, g0⟩, n0, x0⟩ := h
    obtain ⟨n1, _, _⟩ := okName_ok n0
    obtain ⟨Ca, gC, kC, rs, ec, _⟩ := O.exc C1 _ e0 x0
    exact ⟨.ref Ca, .ref Ca, ⟨fun pins s σ H Q I h => ld_glob I (O.gl g0) gC ⟨.ref Ca, H, I, rfl, h⟩ n1⟩, .own Ca, O.cls.kit c C1 D Ca y0 x hc hc0 e0 x0 hD ec⟩
theorem clss_ok {X : Cx} {C : Chk} {W : WX} {G : Gd} {cl : Nat → Value} {k : Nat} (O : CtxOk X C W G cl k) {c D : Nat} {y0 : Str} (hc : C.exc[c]? = some y0) (hc0 : y0 ≠ ("" : Str)) (hD : cl c = .ref D) : ∀ (cs : List Nat) (ys : List Expr), isClss C cs ys = true →
    ∃ (vs : List V) (us : List Value), PA X ys (tCl vs) ∧ Paired ClsV vs us ∧ PySem.W.kitAny X.K (.ref D) us = some (cs.any (subC c)) ∧ vs.length = cs.length
  | [], [], _ => ⟨[], [], pa_nil, .nil, kitAny_nil, rfl⟩
  | [], e :: es, h => by cases e <;> cases h
  | i :: is, [], h => by cases h
  | i :: is, e :: es, h => by
    cases e <;> try cases h
    rename_i x p
    have h' : (isCls C i x && isClss C is es) = true := h
    rw [Bool.and_eq_true] at h'
    obtain ⟨v, u, a1, a2, a3⟩ := cls_ok O hc hc0 hD (p := p) h'.1
    obtain ⟨vs, us, b1, b2, b3, b4⟩ := clss_ok O hc hc0 hD is es h'.2
    refine ⟨v :: vs, u :: us, pa_cons a1 b1 rfl, .cons a2 b2, kitAny_cons a3 (fun q => ?_) (fun q => ?_), congrArg (· + 1) b4⟩
    · rw [b3]
      rw [List.any_cons, q]
      rfl
    · rw [List.any_cons, q]
      rfl
theorem tok_at {K : PySem.W.Frag} {F : Hp} {c : Nat} {a : Tk} {d : PyData} {v : V} {P : Rr → Prop} {g : PyData → Rr} (p : Rp K F d v) (q : P (plcT c a g d)) (no : ¬ P .fail) :
    v = .ref a.1 ∧ PXI.DOk F (dOf c a) ∧ P (g d) ∧ ((c < 16 ∧ ∃ i : Int, d = .dict [(.int i, .none)]) ∨ (16 ≤ c ∧ ∃ (i j : Int) (z : Int), d = .dict [(.int i, .int j), (.int z, .none)] ∧ F a.2 = some (.xd [("place", .int z)]))) := by
  cases p <;> try exact absurd q no
  · rename_i b es kvs h1 h2 h3 h4
    subst h1
    refine absurd ?_ no
    cases kvs with
    | nil => exact absurd rfl h2
    | cons p r =>
      cases r with
      | nil => exact q
      | cons p2 r2 =>
        cases r2 with
        | nil => exact q
        | cons p3 r3 => exact q
  · rename_i b
    by_cases hb : c < 16 ∧ (b : Int) = (a.1 : Int)
    · have e : b = a.1 := Int.ofNat.inj hb.2
      have q : P (if c < 16 ∧ (b : Int) = (a.1 : Int) then g (.dict [(.int (b : Int), .none)]) else .fail) := q
      rw [if_pos hb] at q
      exact ⟨by rw [e], .inl (if_pos hb.1), q, .inl ⟨hb.1, _, rfl⟩⟩
    · have q : P (if c < 16 ∧ (b : Int) = (a.1 : Int) then g (.dict [(.int (b : Int), .none)]) else .fail) := q
      rw [if_neg hb] at q
      exact absurd q no
  · rename_i b dd z hF
    by_cases hb : (16 ≤ c ∧ (b : Int) = (a.1 : Int)) ∧ (dd : Int) = (a.2 : Int)
    · have e : b = a.1 := Int.ofNat.inj hb.1.2
      have e2 : dd = a.2 := Int.ofNat.inj hb.2
      have q : P (if (16 ≤ c ∧ (b : Int) = (a.1 : Int)) ∧ (dd : Int) = (a.2 : Int) then g (.dict [(.int (b : Int), .int (dd : Int)), (.int z, .none)]) else .fail) := q
      rw [if_pos hb] at q
      rw [e2] at hF
      exact ⟨by rw [e], .inr ⟨a.2, _, if_neg (by omega), hF⟩, q, .inr ⟨hb.1.1, _, _, z, rfl, hF⟩⟩
    · have q : P (if (16 ≤ c ∧ (b : Int) = (a.1 : Int)) ∧ (dd : Int) = (a.2 : Int) then g (.dict [(.int (b : Int), .int (dd : Int)), (.int z, .none)]) else .fail) := q
      rw [if_neg hb] at q
      exact absurd q no
theorem DOk.mono {F H : Hp} {d : Option Addr} (s : Same F H) (h : PXI.DOk F d) : PXI.DOk H d := h.imp id fun ⟨dd, fs, e1, e2⟩ => ⟨dd, fs, e1, s _ _ e2⟩
theorem s_eis (cs : List Nat) {a : Ex} (ha : SoundE G cl k a) : SoundE G cl k (.eis a cs) := fun C x X W O h => by
  unfold isE at h
  split at h
  case h_2 => cases h
  rename_i f p1 e y pos
  simp only [Bool.and_eq_true, decide_eq_true_eq] at h
  obtain ⟨⟨⟨⟨⟨hh, rfl⟩, h1⟩, h2⟩, h3⟩, h4⟩ := h
  obtain ⟨g1, g2, g3⟩ := O.bl h1
  obtain ⟨n1, _, n3⟩ := okName_ok g3
  obtain ⟨c, a0, D, oe, e0, hp, hz, hf, hh2, hD, hX, y0, hc, hc0⟩ := (O.hotx hh).ex
  have tokv : ∀ {d : PyData} {v : V} {F1 H1 : Hp} {σ : L2.St} {Q : VK}, Rp X.K F1 d v → PR W cl σ (eisD G.hot cs d) (PV X.K Q) F1 H1 → v = .ref a0.1 ∧ PXI.DOk F1 (dOf c a0) ∧ PV X.K Q (.val (.bool (catches c cs))) F1 H1 := fun {d v F1 H1 σ Q} p1 q1 => by
    rw [e0] at q1
    obtain ⟨r1, r2, r3, _⟩ := tok_at (P := fun r => PR W cl σ r (PV X.K Q) F1 H1) (g := fun _ => .ok (.val (.bool (catches c cs)))) p1 q1 (fun z => z)
    exact ⟨r1, r2, r3⟩
  refine both (PE_to (f := fun r => vof (ev G a r) fun x => eisD G.hot cs x) ?_ fun r => by rw [ev]) fun _ => rfl
  cases y <;> try cases h4
  case Name yn yp =>
    have h4' : (isClss C cs [.Name yn yp] && decide (cs.length = 1)) = true := h4
    rw [Bool.and_eq_true, decide_eq_true_eq] at h4'
    obtain ⟨hk, hlen⟩ := h4'
    rcases cs with _ | ⟨c1, _ | ⟨c2, cs⟩⟩ <;> simp at hlen
    have hk' : (isCls C c1 yn && true) = true := hk
    rw [Bool.and_true] at hk'
    obtain ⟨v, u, a1, a2, a3⟩ := cls_ok O hc hc0 hD (p := yp) hk'
    refine PE_weak (pe_callB (call_isX hX hp hz.zc hf) g1 g2 (by decide +kernel) (pa_cons (ha C _ X W O h2).1 (pa_cons a1 pa_nil rfl) (star_ok h3)) n3 n1 (star_ok h3) rfl) fun σ H Q ⟨r, F, hs, hr, q⟩ => useE PV.monoP hs hr q fun x v1 F1 H1 s1 r1 gg p1 q1 => ?_
    obtain ⟨rfl, dk, q2⟩ := tokv p1 q1
    have e : catches c [c1] = subC (c % 16) c1 := by unfold catches; simp
    rw [e] at q2
    exact ⟨DOk.mono s1 dk, v, u, subC (c % 16) c1, rfl, fun w hw => a2.eq hw, a3, PV.now q2 s1 (.bl _)⟩
  case Tuple ys kk yp =>
    have h4' : (isClss C cs ys && decide (cs.length ≤ 100)) = true := h4
    rw [Bool.and_eq_true, decide_eq_true_eq] at h4'
    obtain ⟨vs, us, b1, b2, b3, b4⟩ := clss_ok O hc hc0 hD cs ys h4'.1
    refine PE_weak (pe_callB (call_isXT hX hp hz.zc hf) g1 g2 (by decide +kernel) (pa_cons (ha C _ X W O h2).1 (pa_cons (pe_tup b1) pa_nil rfl) (star_ok h3)) n3 n1 (star_ok h3) rfl) fun σ H Q ⟨r, F, hs, hr, q⟩ => useE PV.monoP hs hr q fun x v1 F1 H1 s1 r1 gg p1 q1 => ?_
    obtain ⟨rfl, dk, q2⟩ := tokv p1 q1
    exact tCl_use (vs := vs) ⟨by rw [b4, sizeLine_eq]; omega, fun p hp2 => ⟨DOk.mono (s1.trans (same_upd hp2)) dk, p, vs, us, catches c cs, rfl, upd_same, b2, b3, q2 _ _ _ (Grow.new s1 hp2) (.bl _)⟩⟩
/-- e.place -/
theorem pe_plc {X : Cx} {a D : Addr} {d : Option Addr} {oe : Obj} {e : Expr} {te : TE} {pos : Pos} (hX : ExcC X.K D) (hno : PySem.W.findIn X.K (.ref D) "place" = some none) (hp : (a, oe) ∈ X.pn) (hz : Zc (.ref D) d oe) (hf : ∃ vs, oe.data = .fields vs) (he : PE X e te)
    (hb : attributeBase e "place" X.env (eval e X.env) = eval e X.env) : PE X (.Attribute e "place" pos) (fun σ H Q => te σ H fun x H1 => x = .ref a ∧ ∃ (dd : Addr) (z : Int), d = some dd ∧ H1 dd = some (.xd [("place", .int z)]) ∧ Q (.int z) H1) := by
  refine ⟨fun pins s σ H Q I h => ?_⟩
  refine attr_of hb (thn (he.run pins s σ H _ I h) fun u s1 hh => ?_)
  obtain ⟨x, H1, I1, rx, ex, dd, z, rfl, ea, q⟩ := hh
  subst ex
  obtain rfl : u = Value.ref a := rx
  obtain ⟨ha, _⟩ := I1.pin (a, oe) (List.mem_append_left _ hp)
  obtain ⟨vs, hd⟩ := hf
  have hx : ObjOk X.prog X.w H1 s1.heap dd (.xd [("place", .int z)]) := I1.hok dd _ ea
  obtain ⟨mA, hns, hr⟩ := hx
  obtain ⟨od, ho, hl⟩ := lookIn_ns hns
  have hr1 : RelO (some (V.int z)) (mA "place") := hr "place"
  obtain ⟨u, hu, ru⟩ := RelO.some_of hr1
  have J : PySem.W.InstAt s1.heap a oe D (some od) := ⟨ha, hz.1, by unfold PySem.W.notCls; rw [hd] <;> rfl, by rw [hz.2]; exact ho⟩
  exact HandSPX.exc_get I1.kIn J hX.hg hX.hk hX.hs (PySem.W.findObj_own hX.hd hno rfl (by rw [hl, hu])) (handed_of ru) ⟨.int z, H1, I1.tok _, ru, q⟩
theorem s_plc {a : Ex} (ha : SoundE G cl k a) : SoundE G cl k (.plc a) := fun C x X W O h => by
  unfold isE at h
  split at h
  case h_2 => cases h
  rename_i x m p1
  simp only [Bool.and_eq_true, decide_eq_true_eq] at h
  obtain ⟨⟨⟨hh, rfl⟩, h2⟩, h3⟩ := h
  obtain ⟨c, a0, D, oe, e0, hp, hz, hf, hh2, hD, hX, y0, hc, hc0⟩ := (O.hotx hh).ex
  refine both (PE_to (f := fun r => vof (ev G a r) fun x => plcD G.hot x) ?_ fun r => by rw [ev]) fun _ => rfl
  refine PE_weak (pe_plc hX (O.cls.plc _ _ _ hc hc0 hD) hp hz.zc hf (ha C _ X W O h2).1 (base_ok h3)) fun σ H Q ⟨r, F, hs, hr, q⟩ => useE PV.monoP hs hr q fun x v1 F1 H1 s1 r1 gg p1 q1 => ?_
  rw [e0] at q1
  obtain ⟨rfl, _, q3, q4⟩ := tok_at (P := fun r => PR W cl σ r (PV X.K Q) F1 H1) (g := plcG) p1 q1 (fun z => z)
  rcases q4 with ⟨_, i, ed⟩ | ⟨hc16, i, j, z, ed, ea⟩
  · rw [ed] at q3
    exact False.elim q3
  · rw [ed] at q3
    exact ⟨rfl, a0.2, z, if_neg (by omega), s1 _ _ ea, PV.now q3 s1 (.int _)⟩
/-! ### calls where an exception is handled -/
theorem run_fnX {X : Cx} {cl : Nat → Value} {k : Nat} {fa : Addr} {fd : FuncData} {ps : List Str} {g : Nat × Tk → List PyData → Rr} {np c D : Nat} {dd : Addr} {p : Addr × Obj} {exc : List Str} (F : FnX X.prog X.w X.K X.mg X.base exc cl k fa fd ps g np) (hr : L2H.RoomH k X.A) (hot : L2H.Hot1 X.A p) (hp : p ∈ X.pn) (hD : cl (c % 16) = .ref D) (hz : L2N.Zn (.ref D) (dOf c (p.1, dd)) p.2) (hX : ExcC X.K D) (hy : ∃ y, exc[c % 16]? = some y ∧ y ≠ ("" : Str))
    (hb : Binds X.K fd ps []) {pins : List (Addr × Obj)} {σ : L2.St} {H : Hp} {s : Shared} {Q : VK} {us : List Value} {vs : List V} (I : Inv X pins σ H s) (r : Vals vs us) (h : spD X.K cl (g (c, (p.1, dd))) np vs H Q (fun _ _ _ => False)) : wpAny (model X.prog X.w) X.A (call (.ref fa) us) (EP X pins σ Q) X.xe s := by
  have hl : us.length = ps.length := by rw [← r.length, F.len]; exact h.1
  have b := hb s us I.kIn (by rw [List.append_nil]; exact hl)
  rw [List.append_nil] at b
  have P1 := I.pin p (List.mem_append_left _ hp)
  have hpin : L2H.PinOk X.stack H s p := ⟨P1.1, P1.2.1, fun hm => (List.mem_cons.mp (I.stkSub p.1 hm)).elim P1.2.2.1 P1.2.2.2.1, P1.2.2.2.2⟩
  refine wpAny_call (codeAny_mono (F.run X.A X.stack s H ⟨us, []⟩ us vs Q p c D dd hr hot hpin I.env0 b r hD hz hX hy h) fun r s' hq => ?_)
  cases r with
  | error e =>
    obtain ⟨_, _, _, _, _, _, _, _, _, _, _, _, z⟩ := hq
    exact z.elim
  | ok fl =>
    cases fl with
    | ret u => exact I.after hq
    | next => exact False.elim hq
    | brk => exact False.elim hq
    | cont => exact False.elim hq
theorem s_callh (f : Nat) {es : Exs} (he : SoundL G cl k es) : SoundE G cl k (.callh f es) := fun C x X W O h => by
  unfold isE at h
  split at h
  case h_2 => cases h
  rename_i fn p1 xs pos
  cases e0 : C.fnh[f]? with
  | none => rw [e0] at h; cases h
  | some q =>
    obtain ⟨y, np⟩ := q
    rw [e0] at h
    simp only [Bool.and_eq_true, decide_eq_true_eq] at h
    obtain ⟨⟨⟨⟨⟨⟨hh, rfl⟩, h1⟩, h2⟩, h3⟩, h4⟩, h5⟩ := h
    obtain ⟨n1, _, _⟩ := okName_ok h2
    obtain ⟨fa, fd, ps, F, mg, kp, bs⟩ := O.hfn f _ _ e0
    obtain ⟨c, a0, D, oe, e1, hp, hz, hf, hh2, hD, hX, y0, hc, hc0⟩ := (O.hotx hh).ex
    have hot : L2H.Hot1 X.A (a0.1, oe) := ⟨hh2, by obtain ⟨vs, e⟩ := hf; exact ⟨vs, e, hz.2.2 vs e⟩⟩
    have hA := (he C _ X W O h3).1
    have hlen : ∀ r ds, evs G es r = .ok ds → ds.length + ([] : List PyData).length = np := fun r ds q => by rw [evs_len es r ds q]; exact h4
    refine both (PE_to (f := fun r => (evs G es r).bind fun ds => callhD G.hot (G.fnh f) (ds ++ [])) ?_ fun r => by rw [ev]; simp only [List.append_nil]) fun _ => rfl
    cases xs with
    | nil =>
      cases es with
      | cons e es => unfold isL at h3; cases h3
      | nil => exact absurd h4.symm h5
    | cons a as =>
      cases es with
      | nil => unfold isL at h3; cases h3
      | cons e es =>
        have h3' := h3
        unfold isL at h3'
        simp only [Bool.and_eq_true] at h3'
        refine c_call (dfl := []) rfl hlen ⟨fun pins s σ H Q I h => ?_⟩
        refine wpAny_Call_Name_kw (ld_glob I (O.gl h1) mg ?_ n1)
        refine PySem.W.callWith_K (h₀ := X.base) I.ok.mod.kin kp (thn (hA.run pos pins s σ H _ I h) fun us s1 ⟨vs, H1, I1, r, q⟩ => ⟨I1.kIn, ?_⟩) (star_ok h3'.1.2) (isL_star es as h3'.2)
        refine run_fnX F O.roomh hot hp hD hz hX ⟨y0, hc, hc0⟩ bs I1 r ?_
        obtain ⟨hl, ds, F1, hs, rs, pc⟩ := q
        simp only [List.map_nil, List.append_nil] at hl rs
        refine ⟨hl, ds, F1, hs, rs, ?_⟩
        have pc : PC X.K cl (callhD G.hot (G.fnh f) ds) Q (WE W σ) F1 H1 := pc
        rw [e1] at pc
        have pc : PC X.K cl (match G.fnh f (c, a0) ds with
          | .ok x => .ok x
          | _ => .fail) Q (WE W σ) F1 H1 := pc
        cases eg : G.fnh f (c, a0) ds with
        | ok x => rw [eg] at pc; exact pc
        | exc c => rw [eg] at pc; exact False.elim pc
        | fail => rw [eg] at pc; exact False.elim pc

/-! ### texts joined; a call by a keyword -/
theorem strs_of {K : PySem.W.Frag} {F : Hp} : ∀ {ds : List PyData} {zs : List Str} {vs : List V}, strs? ds = some zs → Rps K F ds vs → vs = zs.map V.str
  | [], zs, vs, h, r => by
    cases h
    cases r
    rfl
  | d :: ds, zs, vs, h, r => by
    cases d <;> try cases h
    rename_i z
    have h : (strs? ds).map (z :: ·) = some zs := h
    cases e : strs? ds with
    | none => rw [e] at h; cases h
    | some ys =>
      rw [e] at h
      cases h
      cases r with
      | cons a b =>
        cases a
        rw [strs_of e b]
        rfl
theorem s_join {a b : Ex} (ha : SoundE G cl k a) (hb : SoundE G cl k b) : SoundE G cl k (.join a b) := fun C x X W O h => by
  unfold isE at h
  split at h
  case h_2 => cases h
  rename_i x m p1 y p
  simp only [Bool.and_eq_true, decide_eq_true_eq] at h
  obtain ⟨⟨⟨⟨⟨rfl, h1⟩, h2⟩, h3⟩, h4⟩, h5⟩ := h
  have st : starEach [y] X.env = [(false, eval y X.env)] := by rw [star_ok h4]; rfl
  refine both (PE_to (f := fun r => vof (ev G a r) fun x => strK x fun z => vof (ev G b r) fun y => ofO (joinD z y)) (PE_weak (pe_join (ha C _ X W O h1).1 (hb C _ X W O h3).1 st (base_ok h2) h5) fun σ H Q ⟨r, F, hs, hr, q⟩ => ?_) fun r => by rw [ev]) fun _ => rfl
  refine useE PV.monoP hs hr q fun x v F1 H1 s1 r1 g1 p1 q1 => ?_
  have q1 : PR W cl σ (strK x.d fun z => vof (ev G b r) fun y => ofO (joinD z y)) (PV X.K Q) F1 H1 := q1
  cases e : x.d <;> rw [e] at p1 q1 <;> try exact False.elim q1
  rename_i z
  cases p1
  refine ⟨⟨z, rfl⟩, ?_⟩
  refine useE PV.monoP s1 r1 (show PR W cl σ (vof (ev G b r) fun y => ofO (joinD z y)) (PV X.K Q) F1 H1 from q1) fun y u F2 H2 s2 r2 g2 p2 q2 => ?_
  have q3 := PR.ofO q2
  cases e2 : y.d <;> rw [e2] at p2 q3 <;> try exact False.elim q3
  rename_i l
  have q3 : PN (match strs? l with
    | some ys => if lineB ((ys.map (·.length)).sum + ys.length * z.length) = true then rv (.str (Txt.join z ys)) else none
    | none => none) (PV X.K Q) F2 H2 := q3
  cases e3 : strs? l with
  | none => rw [e3] at q3; exact False.elim q3
  | some ys =>
    rw [e3] at q3
    dsimp only at q3
    cases p2 with
    | lst s rs =>
      have ev := strs_of e3 rs
      subst ev
      by_cases hz : lineB ((ys.map (·.length)).sum + ys.length * z.length) = true
      · rw [if_pos hz] at q3
        exact ⟨_, _, ys, rfl, rfl, .inl (sqL_mono s2 s), of_decide_eq_true hz, PV.now q3 s2 (.str _)⟩
      · rw [if_neg hz] at q3
        exact False.elim q3
theorem s_sfind {a b : Ex} (ha : SoundE G cl k a) (hb : SoundE G cl k b) : SoundE G cl k (.sfind a b) := fun C x X W O h => by
  unfold isE at h
  split at h
  case h_2 => cases h
  rename_i x m p1 y p
  simp only [Bool.and_eq_true, decide_eq_true_eq] at h
  obtain ⟨⟨⟨⟨⟨rfl, h1⟩, h2⟩, h3⟩, h4⟩, h5⟩ := h
  have st : starEach [y] X.env = [(false, eval y X.env)] := by rw [star_ok h4]; rfl
  refine both (PE_to (f := fun r => vof (ev G a r) fun x => strK x fun z => vof (ev G b r) fun y => strK y fun t => .ok (.val (.int (Txt.find z t)))) (PE_weak (pe_m1 PySem.F.slot_str_find PySem.F.type_str_find mt_find (ha C _ X W O h1).1 (hb C _ X W O h3).1 st (base_ok h2) h5) fun σ H Q ⟨r, F, hs, hr, q⟩ => ?_) fun r => by rw [ev]) fun _ => rfl
  refine useE PV.monoP hs hr q fun x v F1 H1 s1 r1 g1 p1 q1 => ?_
  have q1 : PR W cl σ (strK x.d fun z => vof (ev G b r) fun y => strK y fun t => .ok (.val (.int (Txt.find z t)))) (PV X.K Q) F1 H1 := q1
  cases e : x.d <;> rw [e] at p1 q1 <;> try exact False.elim q1
  rename_i z
  cases p1
  refine ⟨⟨z, rfl⟩, ?_⟩
  refine useE PV.monoP s1 r1 (show PR W cl σ (vof (ev G b r) fun y => strK y fun t => .ok (.val (.int (Txt.find z t)))) (PV X.K Q) F1 H1 from q1) fun y u F2 H2 s2 r2 g2 p2 q2 => ?_
  have q2 : PR W cl σ (strK y.d fun t => .ok (.val (.int (Txt.find z t)))) (PV X.K Q) F2 H2 := q2
  cases e2 : y.d <;> rw [e2] at p2 q2 <;> try exact False.elim q2
  rename_i t
  cases p2
  exact ⟨z, t, rfl, rfl, PV.now (show PV X.K Q (.val (.int (Txt.find z t))) F2 H2 from q2) s2 (.int _)⟩
theorem s_sstart {a b : Ex} (ha : SoundE G cl k a) (hb : SoundE G cl k b) : SoundE G cl k (.sstart a b) := fun C x X W O h => by
  unfold isE at h
  split at h
  case h_2 => cases h
  rename_i x m p1 y p
  simp only [Bool.and_eq_true, decide_eq_true_eq] at h
  obtain ⟨⟨⟨⟨⟨rfl, h1⟩, h2⟩, h3⟩, h4⟩, h5⟩ := h
  have st : starEach [y] X.env = [(false, eval y X.env)] := by rw [star_ok h4]; rfl
  refine both (PE_to (f := fun r => vof (ev G a r) fun x => strK x fun z => vof (ev G b r) fun y => strK y fun t => .ok (.val (.bool (Txt.startswith z t)))) (PE_weak (pe_m1 PySem.F.slot_str_startswith PySem.F.type_str_startswith mt_startswith (ha C _ X W O h1).1 (hb C _ X W O h3).1 st (base_ok h2) h5) fun σ H Q ⟨r, F, hs, hr, q⟩ => ?_) fun r => by rw [ev]) fun _ => rfl
  refine useE PV.monoP hs hr q fun x v F1 H1 s1 r1 g1 p1 q1 => ?_
  have q1 : PR W cl σ (strK x.d fun z => vof (ev G b r) fun y => strK y fun t => .ok (.val (.bool (Txt.startswith z t)))) (PV X.K Q) F1 H1 := q1
  cases e : x.d <;> rw [e] at p1 q1 <;> try exact False.elim q1
  rename_i z
  cases p1
  refine ⟨⟨z, rfl⟩, ?_⟩
  refine useE PV.monoP s1 r1 (show PR W cl σ (vof (ev G b r) fun y => strK y fun t => .ok (.val (.bool (Txt.startswith z t)))) (PV X.K Q) F1 H1 from q1) fun y u F2 H2 s2 r2 g2 p2 q2 => ?_
  have q2 : PR W cl σ (strK y.d fun t => .ok (.val (.bool (Txt.startswith z t)))) (PV X.K Q) F2 H2 := q2
  cases e2 : y.d <;> rw [e2] at p2 q2 <;> try exact False.elim q2
  rename_i t
  cases p2
  exact ⟨z, t, rfl, rfl, PV.now (show PV X.K Q (.val (.bool (Txt.startswith z t))) F2 H2 from q2) s2 (.bl _)⟩
theorem s_stuck : SoundE G cl k .stuck := fun C x X W O h => by
  refine ⟨PE_to can_failE fun r => ?_, PT_to (f := fun _ => .fail) can_failT fun r => ?_⟩ <;> rw [ev]
theorem noCX' {P : Program} {w : World} {o : List Env} {H : Hp} {s : Shared} {e : Value} {s' : Shared} (h : L2N.CX P w o H s (fun _ _ _ => False) e s') : False := by
  obtain ⟨_, _, _, _, _, _, _, _, _, _, _, _, q⟩ := h
  exact q
theorem s_callk (n : Nat) (mid : List PyData) {es : Exs} {e : Ex} (he : SoundL G cl k es) (hw : SoundE G cl k e) : SoundE G cl k (.callk n es mid e) := fun C x X W O h => by
  unfold isE at h
  split at h
  case h_2 => cases h
  rename_i f p1 x1 xs kw y p2 pos
  cases e0 : C.kfn[n]? with
  | none => rw [e0] at h; cases h
  | some q =>
    obtain ⟨g, np, kn, m, df⟩ := q
    rw [e0] at h
    simp only [Bool.and_eq_true, decide_eq_true_eq, Bool.not_eq_true'] at h
    obtain ⟨⟨⟨⟨⟨⟨⟨⟨⟨⟨⟨hh, rfl⟩, h1⟩, h2⟩, h3⟩, h4⟩, h5⟩, rfl⟩, h6⟩, h7⟩, h8⟩, h9⟩ := h
    have em := sameAll_eq h8
    subst em
    obtain ⟨fa, fd, ps, its, F, mg, kp, kb⟩ := (O.kfns n _ _ _ _ _ e0).1 (of_decide_eq_false h9)
    obtain ⟨n1, _, _⟩ := okName_ok h2
    have h3' := h3
    cases es with
    | nil => unfold isL at h3'; cases h3'
    | cons a as =>
    unfold isL at h3'
    simp only [Bool.and_eq_true] at h3'
    refine both (PE_to (f := fun r => (evs G (.cons a as) r).bind fun ds => vof (ev G e r) fun x => noX (G.kfn n (ds ++ (mid ++ [x])))) (PE_weak (pe_callN (E := fun _ _ _ => False) F (O.room hh) (O.gl h1) mg kp kb (fun pins σ H s ev s' I z => (noCX' z).elim) (he C _ X W O h3).1 (pk_cons (hw C _ X W O h6).1 pk_nil) rfl rfl n1 (star_ok h3'.1.2) (by rw [show (backToKw pos (keywordEach [⟨some kw, y, p2⟩] X.env)).any (·.1.isNone) = false from rfl, Bool.or_false]; exact isL_star (.cons a as) (x1 :: xs) h3)) fun σ H Q ⟨r, F, hs, hr, q⟩ => ?_) fun r => by rw [ev]) fun _ => rfl
    refine ⟨r, F, hs, hr, ?_⟩
    have q2 := PR.bind q
    cases e1 : evs G (.cons a as) r with
    | exc c => rw [e1] at q2; exact q2
    | fail => rw [e1] at q2; exact q2
    | ok ds =>
    rw [e1] at q2
    intro vs F1 H1 g1 p1
    have q3 := PR.mono PV.monoP g1 q2
    refine useE PV.monoP g1.fh (hr.mono g1.ff) q3 fun z v F2 H2 s2 r2 g2 p2 q4 => ?_
    have rd : ∀ dfl : List PyData, dfl.all scalD = true → Rps X.K F2 dfl (dfl.map dV) := fun dfl => by
      induction dfl with
      | nil => exact fun _ => .nil
      | cons d ds ih =>
        intro hh
        rw [List.all_cons, Bool.and_eq_true] at hh
        exact .cons (dV_rp hh.1) (ih hh.2)
    have hl : ds.length = m := by rw [evs_len (.cons a as) r ds e1]; exact h4
    have rr : Rps X.K F2 (ds ++ (mid ++ [z.d])) (vs ++ (mid.map dV ++ [v])) := (Rps.mono g2.ff _ _ p1).app ((rd mid h7).app (.cons p2 .nil))
    refine ⟨by rw [← p1.len]; exact hl, rfl, by rw [← rr.len, List.length_append, List.length_append, hl, List.length_singleton]; omega, ds ++ (mid ++ [z.d]), F2, s2, rr, ?_⟩
    have q4 : PR W cl σ (noX (G.kfn n (ds ++ (mid ++ [z.d])))) (PV X.K Q) F2 H2 := q4
    show PR _ cl [] (G.kfn n (ds ++ (mid ++ [z.d]))) (PV X.K Q) F2 H2
    cases e2 : G.kfn n (ds ++ (mid ++ [z.d])) with
    | ok x => rw [e2] at q4; exact q4
    | exc c => rw [e2] at q4; exact False.elim q4
    | fail => rw [e2] at q4; exact q4
theorem scal_rps {K : PySem.W.Frag} {F F' : Hp} : ∀ {ds : List PyData} {vs : List V}, Rps K F ds vs → ds.all scalD = true → Rps K F' ds vs
  | [], _, h, _ => by cases h; exact .nil
  | d :: ds, _, h, hh => by
    rw [List.all_cons, Bool.and_eq_true] at hh
    cases h with
    | cons r t =>
      refine .cons ?_ (scal_rps t hh.2)
      cases r <;> first | exact .non | exact .bl _ | exact .int _ | exact .str _ | exact absurd hh.1 (by simp [scalD])
theorem keys_len {f : List PyData → Rr} : ∀ {l : List PyData} {ks : List Int}, keysK f l = some ks → ks.length = l.length ∧ ∀ (i : Nat) d k, l[i]? = some d → ks[i]? = some k → tupS d = true ∧ f [d] = .ok (.val (.int k))
  | [], ks, h => by
    cases h
    exact ⟨rfl, fun i d k e => by simp at e⟩
  | d :: l, ks, h => by
    unfold keysK at h
    split at h
    · rename_i k ks' h1 h2 h3
      cases h
      obtain ⟨a, b⟩ := keys_len h3
      refine ⟨by rw [List.length_cons, List.length_cons, a], fun i d' k' e1 e2 => ?_⟩
      cases i with
      | zero =>
        simp at e1 e2
        subst e1 e2
        exact ⟨h1, h2⟩
      | succ i => exact b i d' k' (by simpa using e1) (by simpa using e2)
    · cases h
theorem rps_zip {K : PySem.W.Frag} {F : Hp} : ∀ {l : List PyData} {xs : List V}, Rps K F l xs → ∀ p ∈ l.zip xs, Rp K F p.1 p.2
  | _, _, .nil, p, hp => by simp at hp
  | _, _, .cons r t, p, hp => by
    rw [List.zip_cons_cons] at hp
    rcases List.mem_cons.1 hp with rfl | hp
    · exact r
    · exact rps_zip t p hp
theorem sort_rps {K : PySem.W.Frag} {F : Hp} {ks : List Int} {l : List PyData} {xs : List V} (h : Rps K F l xs) (hl : ks.length = l.length) : Rps K F (sortP ks l) (sortP ks xs) := by
  have lx := h.len
  have e1 : sortP ks l = ((ks.zip (l.zip xs)).mergeSort fun p q => decide (p.1 ≤ q.1)).map fun p => p.2.1 := by
    have z : (ks.zip l) = (ks.zip (l.zip xs)).map fun p => (p.1, p.2.1) := by
      rw [← List.map_fst_zip (l₁ := l) (l₂ := xs) (by omega), List.zip_map_right]
      rw [List.map_fst_zip (by omega)]
      rfl
    unfold sortP
    rw [z, ← List.map_mergeSort (r := fun p q => decide (p.1 ≤ q.1)) (fun _ _ _ _ => rfl), List.map_map]
    rfl
  have e2 : sortP ks xs = ((ks.zip (l.zip xs)).mergeSort fun p q => decide (p.1 ≤ q.1)).map fun p => p.2.2 := by
    have z : (ks.zip xs) = (ks.zip (l.zip xs)).map fun p => (p.1, p.2.2) := by
      rw [← List.map_snd_zip (l₁ := l) (l₂ := xs) (by omega), List.zip_map_right]
      rw [List.map_snd_zip (by omega)]
      rfl
    unfold sortP
    rw [z, ← List.map_mergeSort (r := fun p q => decide (p.1 ≤ q.1)) (fun _ _ _ _ => rfl), List.map_map]
    rfl
  rw [e1, e2]
  have all : ∀ p ∈ (ks.zip (l.zip xs)).mergeSort fun p q => decide (p.1 ≤ q.1), Rp K F p.2.1 p.2.2 := fun p hp => by
    have hp := List.mem_mergeSort.1 hp
    exact rps_zip h p.2 (List.of_mem_zip hp).2
  generalize (ks.zip (l.zip xs)).mergeSort (fun p q => decide (p.1 ≤ q.1)) = Z at all
  induction Z with
  | nil => exact .nil
  | cons a Z ih => exact .cons (all a List.mem_cons_self) (ih fun p hp => all p (List.mem_cons_of_mem a hp))
theorem s_sortk (n : Nat) {a : Ex} (ha : SoundE G cl k a) : SoundE G cl k (.sortk n a) := fun C x X W O h => by
  unfold isE at h
  split at h
  case h_2 => cases h
  rename_i f p1 y kw g p2 p3 pos
  cases e0 : C.kfn[n]? with
  | none => rw [e0] at h; cases h
  | some q =>
    obtain ⟨g', np, kn, m, df⟩ := q
    rw [e0] at h
    simp only [Bool.and_eq_true, decide_eq_true_eq, Bool.not_eq_true'] at h
    obtain ⟨⟨⟨⟨⟨⟨⟨⟨⟨hh, rfl⟩, h1⟩, rfl⟩, rfl⟩, h2⟩, h3⟩, rfl⟩, h4⟩, h5⟩ := h
    obtain ⟨fa, fd, ps, j, hj, F, mg, kp, bd⟩ := (O.kfns n _ _ _ _ _ e0).2 rfl
    obtain ⟨g1, g2, _⟩ := O.bl h1
    obtain ⟨n1, _, _⟩ := okName_ok h3
    refine both (PE_to (f := fun r => vof (ev G a r) fun x => ofO (sortD (G.kfn n) x)) (PE_weak (pe_callBK (PXK.cr_sortK ((O.room hh).mono hj) F bd) g1 g2 rfl (pa_cons (ha C _ X W O h4).1 pa_nil (star_ok h5)) (pk_cons (pe_glob (O.gl h2) mg (v := .ref fa) rfl n1) pk_nil) (by decide) (by decide) (by rw [star_ok h5]; rfl) (by rw [star_ok h5]; rfl) rfl rfl rfl) fun σ H Q ⟨r, F0, hs, hr, q⟩ => ?_) fun r => by rw [ev]) fun _ => rfl
    refine useE PV.monoP hs hr q fun x v F1 H1 s1 r1 g1 p1 q1 => ?_
    have q2 := PR.ofO q1
    cases e : x.d <;> rw [e] at p1 q2 <;> try exact False.elim q2
    cases p1
    rename_i l a' xs sq rs
    cases e2 : keysK (G.kfn n) l with
    | none =>
      rw [show sortD (G.kfn n) (.list l) = none from congrArg (fun o : Option (List Int) => o.bind fun ks => some (RV.own (sortP ks l))) e2] at q2
      exact False.elim q2
    | some ks =>
      rw [show sortD (G.kfn n) (.list l) = some (.own (sortP ks l)) from congrArg (fun o : Option (List Int) => o.bind fun ks => some (RV.own (sortP ks l))) e2] at q2
      obtain ⟨hl, hk⟩ := keys_len e2
      have lx := rs.len
      refine ⟨_, xs, ks, rfl, rfl, sqL_mono s1 sq, by omega, fun i x' k' hx hk' => ?_, fun p hp => PV.newL q2 s1 (sort_rps rs hl) hp⟩
      obtain ⟨d, hd⟩ : ∃ d, l[i]? = some d := ⟨_, List.getElem?_eq_getElem (by have := (List.getElem?_eq_some_iff.mp hx).1; omega)⟩
      obtain ⟨h6, h7⟩ := hk i d k' hd hk'
      obtain ⟨w, hw, rw_⟩ := rs.get hd
      rw [hx] at hw
      cases hw
      refine ⟨rfl, [d], PXK.tupsOf F1, PXK.tupsOf_same s1, .cons ?_ .nil, ?_⟩
      · cases rw_ with
        | tup s r => exact .tup (PXK.tupsOf_sqT s) (scal_rps r h6)
        | _ => cases h6
      · rw [h7]
        show PV X.K _ (.val (.int k')) _ _
        intro v F' H' g r
        cases r
        rfl
mutual
theorem soundE : ∀ e : Ex, SoundE G cl k e
  | .v i => s_v i
  | .c d => s_c d
  | .g x => s_g x
  | .bop o a b => s_bop o (soundE a) (soundE b)
  | .neg a => s_neg (soundE a)
  | .cmp o a b => s_cmp o (soundE a) (soundE b)
  | .chain o p a b c => s_chain o p (soundE a) (soundE b) (soundE c)
  | .band es => s_band (soundL es)
  | .bor es => s_bor (soundL es)
  | .bnot a => s_bnot (soundE a)
  | .tup es => s_tup (soundL es)
  | .lst es => s_lst (soundL es)
  | .ix a b => s_ix (soundE a) (soundE b)
  | .sl a lo hi => s_sl (soundE a) (soundO lo) (soundO hi)
  | .isi a t => s_isi t (soundE a)
  | .bf f es => s_bf f (soundL es)
  | .bits a => s_bits (soundE a)
  | .call f es dfl => s_call f dfl (soundL es)
  | .comp own elt t it cond => s_comp own t (soundE elt) (soundI it) (soundO cond)
  | .dict0 => s_dict0
  | .tget n a d => s_tget n d (soundE a)
  | .nset a => s_nset (soundE a)
  | .lrng1 a => s_lrng1 (soundE a)
  | .lrev a => s_lrev (soundE a)
  | .sortk n a => s_sortk n (soundE a)
  | .dget a es => s_dget (soundE a) (soundL es)
  | .dix a es => s_dix (soundE a) (soundL es)
  | .dgv a k => s_dgv (soundE a) (soundE k)
  | .sl3 a lo hi st => s_sl3 lo hi st (soundE a)
  | .lrng2 a b => s_lrng2 (soundE a) (soundE b)
  | .rep es b => s_rep (soundL es) (soundE b)
  | .eis a cs => s_eis cs (soundE a)
  | .plc a => s_plc (soundE a)
  | .callh f es => s_callh f (soundL es)
  | .join a b => s_join (soundE a) (soundE b)
  | .sfind a b => s_sfind (soundE a) (soundE b)
  | .sstart a b => s_sstart (soundE a) (soundE b)
  | .callk f es mid e => s_callk f mid (soundL es) (soundE e)
  | .stuck => s_stuck
theorem soundL : ∀ es : Exs, SoundL G cl k es
  | .nil => l_nil
  | .cons e es => l_cons (soundE e) (soundL es)
theorem soundO : ∀ o : Ox, SoundO G cl k o
  | .no => o_no
  | .yes e => o_yes (soundE e)
theorem soundI : ∀ i : Itx, SoundI G cl k i
  | .seq e => i_seq (soundE e)
  | .rng1 a => i_rng1 (soundE a)
  | .rng2 a b => i_rng2 (soundE a) (soundE b)
  | .rng3 a b c => i_rng3 (soundE a) (soundE b) (soundE c)
  | .enum e => i_enum (soundE e)
  | .zip a b => i_zip (soundE a) (soundE b)
  | .zip3 a b c => i_zip3 (soundE a) (soundE b) (soundE c)
  | .rev e => i_rev (soundE e)
end
end PX

/-! PX12: slots with owned lists; the readings of statements. -/
namespace PX
open PySem PySem.Spec PyProof.Rows L2

/-- a dict's pairs as they stand -/
def wsD (l : Dic) : List (List L2.Key × V) := l.map fun p => (p.1, dVS p.2)
structure RelS (K : PySem.W.Frag) (F0 H0 F H : Hp) (r : CE) (σ : L2.St) : Prop where
  g : Grow F0 H0 F H
  len : r.length = σ.length
  val : ∀ (i : Nat) (d : PyData), r[i]? = some (.val d) → ∃ v, σ[i]? = some (some v) ∧ Rp K F d v
  own : ∀ (i : Nat) (l : List PyData), r[i]? = some (.own l) → ∃ a vs, σ[i]? = some (some (.ref a)) ∧ F a = none ∧ H0 a = none ∧ H a = some (.lst vs) ∧ Rps K F l vs
  ap : ∀ (i j : Nat) (l m : List PyData) (a : Addr), r[i]? = some (.own l) → r[j]? = some (.own m) → σ[i]? = some (some (.ref a)) → σ[j]? = some (some (.ref a)) → i = j
  dic : ∀ (i : Nat) (l : Dic), r[i]? = some (.dic l) → ∃ a, σ[i]? = some (some (.ref a)) ∧ F a = none ∧ H0 a = none ∧ H a = some (.dT (wsD l)) ∧ l ≠ [] ∧ ∀ p ∈ l, scalD p.2 = true
  apd : ∀ (i j : Nat) (l m : Dic) (a : Addr), r[i]? = some (.dic l) → r[j]? = some (.dic m) → σ[i]? = some (some (.ref a)) → σ[j]? = some (some (.ref a)) → i = j
section
variable {K : PySem.W.Frag} {F0 H0 F H F' H' : Hp} {r : CE} {σ : L2.St}
theorem RelS.grow (R : RelS K F0 H0 F H r σ) (g : Grow F H F' H') : RelS K F0 H0 F' H' r σ where
  g := R.g.trans g
  len := R.len
  val := fun i d e => let ⟨v, a, b⟩ := R.val i d e; ⟨v, a, Rp.mono g.ff _ _ b⟩
  own := fun i l e => by
    obtain ⟨a, vs, h1, h2, h3, h4, h5⟩ := R.own i l e
    exact ⟨a, vs, h1, (g.nw a (NT.lst h4)).trans h2, h3, g.hh _ _ h4, Rps.mono g.ff _ _ h5⟩
  ap := R.ap
  dic := fun i l e => by
    obtain ⟨a, h1, h2, h3, h4, h5⟩ := R.dic i l e
    exact ⟨a, h1, (g.nw a (NT.dT h4)).trans h2, h3, g.hh _ _ h4, h5⟩
  apd := R.apd
theorem set_get {A : Type} {l : List A} {i j : Nat} {a b : A} (h : (l.set i a)[j]? = some b) : (i = j ∧ i < l.length ∧ b = a) ∨ (i ≠ j ∧ l[j]? = some b) := by
  by_cases hj : i = j
  · subst hj
    by_cases hi : i < l.length
    · rw [List.getElem?_set_self hi] at h
      exact .inl ⟨rfl, hi, (Option.some.inj h).symm⟩
    · rw [List.getElem?_eq_none (by rw [List.length_set]; omega)] at h
      cases h
  · rw [List.getElem?_set_ne hj] at h
    exact .inr ⟨hj, h⟩
theorem RelS.setval (R : RelS K F0 H0 F H r σ) {i : Nat} {d : PyData} {v : V} (rp : Rp K F d v) : RelS K F0 H0 F H (r.set i (.val d)) (σ.set i (some v)) where
  g := R.g
  len := by rw [List.length_set, List.length_set]; exact R.len
  val := fun j d' e => by
    rcases set_get e with ⟨rfl, hi, q⟩ | ⟨hj, q⟩
    · cases q
      exact ⟨v, by rw [List.getElem?_set_self (by rw [← R.len]; exact hi)], rp⟩
    · obtain ⟨u, a, b⟩ := R.val j d' q
      exact ⟨u, by rw [List.getElem?_set_ne hj]; exact a, b⟩
  own := fun j l e => by
    rcases set_get e with ⟨rfl, hi, q⟩ | ⟨hj, q⟩
    · cases q
    · obtain ⟨a, vs, h1, h2⟩ := R.own j l q
      exact ⟨a, vs, by rw [List.getElem?_set_ne hj]; exact h1, h2⟩
  ap := fun p q l m a e1 e2 s1 s2 => by
    rcases set_get e1 with ⟨rfl, hi, z⟩ | ⟨hp, z1⟩
    · cases z
    · rcases set_get e2 with ⟨rfl, hi, z⟩ | ⟨hq, z2⟩
      · cases z
      · rw [List.getElem?_set_ne hp] at s1
        rw [List.getElem?_set_ne hq] at s2
        exact R.ap p q l m a z1 z2 s1 s2
  dic := fun j l e => by
    rcases set_get e with ⟨rfl, hi, q⟩ | ⟨hj, q⟩
    · cases q
    · obtain ⟨a, h1, h2⟩ := R.dic j l q
      exact ⟨a, by rw [List.getElem?_set_ne hj]; exact h1, h2⟩
  apd := fun p q l m a e1 e2 s1 s2 => by
    rcases set_get e1 with ⟨rfl, hi, z⟩ | ⟨hp, z1⟩
    · cases z
    · rcases set_get e2 with ⟨rfl, hi, z⟩ | ⟨hq, z2⟩
      · cases z
      · rw [List.getElem?_set_ne hp] at s1
        rw [List.getElem?_set_ne hq] at s2
        exact R.apd p q l m a z1 z2 s1 s2
theorem RelS.setAll : ∀ (l : List Nat) {ds : List PyData} {xs : List V} {r : CE} {σ : L2.St}, RelS K F0 H0 F H r σ → Rps K F ds xs → RelS K F0 H0 F H (PX.setAll Cell.val l ds r) (PX.setAll some l xs σ)
  | [], ds, xs, r, σ, h, q => by cases ds <;> cases xs <;> exact h
  | i :: is, [], xs, r, σ, h, q => by cases q; exact h
  | i :: is, d :: ds, xs, r, σ, h, q => by
    cases q with
    | cons h1 h2 => exact RelS.setAll is (h.setval h1) h2
theorem RelS.tgs {t : Tg} {d : PyData} {v : V} {σ' : L2.St} {r2 : CE} (h : RelS K F0 H0 F H r σ) (rp : Rp K F d v) (e : PX.tgs Cell.val t d r = some r2) (q : tgV K F t d v σ σ') : RelS K F0 H0 F H r2 σ' := by
  cases t with
  | nm i =>
    have e' : r.set i (.val d) = r2 := by cases d <;> exact Option.some.inj e
    have q' : σ' = σ.set i (some v) := by cases d <;> exact q
    rw [q', ← e']
    exact h.setval rp
  | tp l =>
    cases d <;> try exact q.elim
    · rename_i ds
      obtain ⟨xs, rs, hl, rfl⟩ := q
      rw [show PX.tgs Cell.val (.tp l) (.list ds) r = some (PX.setAll Cell.val l ds r) from if_pos hl] at e
      cases e
      exact RelS.setAll l h rs
    · rename_i ds
      obtain ⟨xs, rs, hl, rfl⟩ := q
      rw [show PX.tgs Cell.val (.tp l) (.tuple ds) r = some (PX.setAll Cell.val l ds r) from if_pos hl] at e
      cases e
      exact RelS.setAll l h rs
/-- a new list, owned -/
theorem RelS.setown (R : RelS K F0 H0 F H r σ) {i : Nat} {l : List PyData} {a : Addr} {vs : List V} (hf : F a = none) (h0 : H0 a = none) (ha : H a = some (.lst vs)) (rs : Rps K F l vs)
    (new : ∀ j m b, j ≠ i → r[j]? = some (.own m) → σ[j]? = some (some (.ref b)) → b ≠ a) : RelS K F0 H0 F H (r.set i (.own l)) (σ.set i (some (.ref a))) where
  g := R.g
  len := by rw [List.length_set, List.length_set]; exact R.len
  val := fun j d' e => by
    rcases set_get e with ⟨rfl, hi, q⟩ | ⟨hj, q⟩
    · cases q
    · obtain ⟨u, a, b⟩ := R.val j d' q
      exact ⟨u, by rw [List.getElem?_set_ne hj]; exact a, b⟩
  own := fun j l' e => by
    rcases set_get e with ⟨rfl, hi, q⟩ | ⟨hj, q⟩
    · cases q
      exact ⟨a, vs, by rw [List.getElem?_set_self (by rw [← R.len]; exact hi)], hf, h0, ha, rs⟩
    · obtain ⟨b, us, h1, h2⟩ := R.own j l' q
      exact ⟨b, us, by rw [List.getElem?_set_ne hj]; exact h1, h2⟩
  ap := fun p q l1 m a1 e1 e2 s1 s2 => by
    rcases set_get e1 with ⟨rfl, hi, z⟩ | ⟨hp, z1⟩
    · rcases set_get e2 with ⟨rfl, _, _⟩ | ⟨hq, z2⟩
      · rfl
      · rw [List.getElem?_set_self (by rw [← R.len]; exact hi)] at s1
        rw [List.getElem?_set_ne hq] at s2
        cases s1
        exact absurd rfl (new q m _ (Ne.symm hq) z2 s2)
    · rcases set_get e2 with ⟨rfl, hi, z⟩ | ⟨hq, z2⟩
      · rw [List.getElem?_set_self (by rw [← R.len]; exact hi)] at s2
        rw [List.getElem?_set_ne hp] at s1
        cases s2
        exact absurd rfl (new p l1 _ (Ne.symm hp) z1 s1)
      · rw [List.getElem?_set_ne hp] at s1
        rw [List.getElem?_set_ne hq] at s2
        exact R.ap p q l1 m a1 z1 z2 s1 s2
  dic := fun j l e => by
    rcases set_get e with ⟨rfl, hi, q⟩ | ⟨hj, q⟩
    · cases q
    · obtain ⟨a, h1, h2⟩ := R.dic j l q
      exact ⟨a, by rw [List.getElem?_set_ne hj]; exact h1, h2⟩
  apd := fun p q l m a e1 e2 s1 s2 => by
    rcases set_get e1 with ⟨rfl, hi, z⟩ | ⟨hp, z1⟩
    · cases z
    · rcases set_get e2 with ⟨rfl, hi, z⟩ | ⟨hq, z2⟩
      · cases z
      · rw [List.getElem?_set_ne hp] at s1
        rw [List.getElem?_set_ne hq] at s2
        exact R.apd p q l m a z1 z2 s1 s2
/-- a new dict, owned -/
theorem RelS.setdic (R : RelS K F0 H0 F H r σ) {i : Nat} {l : Dic} {a : Addr} (hf : F a = none) (h0 : H0 a = none) (ha : H a = some (.dT (wsD l))) (hl : l ≠ []) (hs : ∀ p ∈ l, scalD p.2 = true)
    (new : ∀ j m b, j ≠ i → r[j]? = some (.dic m) → σ[j]? = some (some (.ref b)) → b ≠ a) : RelS K F0 H0 F H (r.set i (.dic l)) (σ.set i (some (.ref a))) where
  g := R.g
  len := by rw [List.length_set, List.length_set]; exact R.len
  val := fun j d' e => by
    rcases set_get e with ⟨rfl, hi, q⟩ | ⟨hj, q⟩
    · cases q
    · obtain ⟨u, a, b⟩ := R.val j d' q
      exact ⟨u, by rw [List.getElem?_set_ne hj]; exact a, b⟩
  own := fun j l e => by
    rcases set_get e with ⟨rfl, hi, q⟩ | ⟨hj, q⟩
    · cases q
    · obtain ⟨a, vs, h1, h2⟩ := R.own j l q
      exact ⟨a, vs, by rw [List.getElem?_set_ne hj]; exact h1, h2⟩
  ap := fun p q l m a e1 e2 s1 s2 => by
    rcases set_get e1 with ⟨rfl, hi, z⟩ | ⟨hp, z1⟩
    · cases z
    · rcases set_get e2 with ⟨rfl, hi, z⟩ | ⟨hq, z2⟩
      · cases z
      · rw [List.getElem?_set_ne hp] at s1
        rw [List.getElem?_set_ne hq] at s2
        exact R.ap p q l m a z1 z2 s1 s2
  dic := fun j l' e => by
    rcases set_get e with ⟨rfl, hi, q⟩ | ⟨hj, q⟩
    · cases q
      exact ⟨a, by rw [List.getElem?_set_self (by rw [← R.len]; exact hi)], hf, h0, ha, hl, hs⟩
    · obtain ⟨b, h1, h2⟩ := R.dic j l' q
      exact ⟨b, by rw [List.getElem?_set_ne hj]; exact h1, h2⟩
  apd := fun p q l1 m a1 e1 e2 s1 s2 => by
    rcases set_get e1 with ⟨rfl, hi, z⟩ | ⟨hp, z1⟩
    · rcases set_get e2 with ⟨rfl, _, _⟩ | ⟨hq, z2⟩
      · rfl
      · rw [List.getElem?_set_self (by rw [← R.len]; exact hi)] at s1
        rw [List.getElem?_set_ne hq] at s2
        cases s1
        exact absurd rfl (new q m _ (Ne.symm hq) z2 s2)
    · rcases set_get e2 with ⟨rfl, hi, z⟩ | ⟨hq, z2⟩
      · rw [List.getElem?_set_self (by rw [← R.len]; exact hi)] at s2
        rw [List.getElem?_set_ne hp] at s1
        cases s2
        exact absurd rfl (new p l1 _ (Ne.symm hp) z1 s1)
      · rw [List.getElem?_set_ne hp] at s1
        rw [List.getElem?_set_ne hq] at s2
        exact R.apd p q l1 m a1 z1 z2 s1 s2
/-- more is frozen -/
theorem RelS.more (R : RelS K F0 H0 F H r σ) {a : Addr} {vs : List V} (hf : F a = none) (h0 : H0 a = none) (ha : H a = some (.lst vs)) (no : ∀ (j : Nat) (m : List PyData), r[j]? = some (Cell.own m) → σ[j]? ≠ some (some (V.ref a))) : RelS K F0 H0 (upd F a (.lst vs)) H r σ where
  g := R.g.freeze h0 hf ha
  len := R.len
  val := fun i d e => let ⟨v, x, y⟩ := R.val i d e; ⟨v, x, Rp.mono (same_upd hf) _ _ y⟩
  own := fun i l e => by
    obtain ⟨b, us, h1, h2, h3, h4, h5⟩ := R.own i l e
    refine ⟨b, us, h1, ?_, h3, h4, Rps.mono (same_upd hf) _ _ h5⟩
    rw [upd_ne (fun z => by subst z; exact no i l e h1)]
    exact h2
  ap := R.ap
  dic := fun i l e => by
    obtain ⟨b, h1, h2, h3, h4, h5⟩ := R.dic i l e
    refine ⟨b, h1, ?_, h3, h4, h5⟩
    rw [upd_ne (fun z => by subst z; rw [ha] at h4; cases h4)]
    exact h2
  apd := R.apd
theorem RelS.moreD (R : RelS K F0 H0 F H r σ) {a : Addr} {ws : List (List L2.Key × V)} (hf : F a = none) (h0 : H0 a = none) (ha : H a = some (.dT ws)) (no : ∀ (j : Nat) (m : Dic), r[j]? = some (Cell.dic m) → σ[j]? ≠ some (some (V.ref a))) : RelS K F0 H0 (upd F a (.dT ws)) H r σ where
  g := R.g.freeze h0 hf ha
  len := R.len
  val := fun i d e => let ⟨v, x, y⟩ := R.val i d e; ⟨v, x, Rp.mono (same_upd hf) _ _ y⟩
  own := fun i l e => by
    obtain ⟨b, us, h1, h2, h3, h4, h5⟩ := R.own i l e
    refine ⟨b, us, h1, ?_, h3, h4, Rps.mono (same_upd hf) _ _ h5⟩
    rw [upd_ne (fun z => by subst z; rw [ha] at h4; cases h4)]
    exact h2
  ap := R.ap
  dic := fun i l e => by
    obtain ⟨b, h1, h2, h3, h4, h5⟩ := R.dic i l e
    refine ⟨b, h1, ?_, h3, h4, h5⟩
    rw [upd_ne (fun z => by subst z; exact no i l e h1)]
    exact h2
  apd := R.apd
theorem RelS.frz1 (R : RelS K F0 H0 F H r σ) (i : Nat) : ∃ F', Same F F' ∧ RelS K F0 H0 F' H (PX.frz1 r i) σ := by
  unfold PX.frz1
  cases e : r[i]? with
  | none => exact ⟨F, Same.refl _, R⟩
  | some c =>
    cases c with
    | no => exact ⟨F, Same.refl _, R⟩
    | val d => exact ⟨F, Same.refl _, R⟩
    | dic l =>
      obtain ⟨a, h1, h2, h3, h4, h5, h6⟩ := R.dic i l e
      have hi : i < r.length := (List.getElem?_eq_some_iff.mp e).1
      have same : σ.set i (some (V.ref a)) = σ := by
        apply List.ext_getElem?
        intro j
        by_cases hj : i = j
        · subst hj
          rw [List.getElem?_set_self (by rw [← R.len]; exact hi), h1]
        · rw [List.getElem?_set_ne hj]
      -- the slot is given up, the list frozen, the slot set anew
      have R1 : RelS K F0 H0 F H (r.set i .no) σ := by
        refine ⟨R.g, by rw [List.length_set]; exact R.len, fun j d q => ?_, fun j m q => ?_, fun p q l1 m a1 e1 e2 s1 s2 => ?_, fun j m q => ?_, fun p q l1 m a1 e1 e2 s1 s2 => ?_⟩
        · rcases set_get q with ⟨_, _, z⟩ | ⟨_, z⟩
          · cases z
          · exact R.val j d z
        · rcases set_get q with ⟨_, _, z⟩ | ⟨_, z⟩
          · cases z
          · exact R.own j m z
        · rcases set_get e1 with ⟨_, _, z⟩ | ⟨_, z1⟩
          · cases z
          · rcases set_get e2 with ⟨_, _, z⟩ | ⟨_, z2⟩
            · cases z
            · exact R.ap p q l1 m a1 z1 z2 s1 s2
        · rcases set_get q with ⟨_, _, z⟩ | ⟨_, z⟩
          · cases z
          · exact R.dic j m z
        · rcases set_get e1 with ⟨_, _, z⟩ | ⟨_, z1⟩
          · cases z
          · rcases set_get e2 with ⟨_, _, z⟩ | ⟨_, z2⟩
            · cases z
            · exact R.apd p q l1 m a1 z1 z2 s1 s2
      have R2 := R1.moreD h2 h3 h4 fun j m q s => by
        rcases set_get q with ⟨_, _, z⟩ | ⟨hj, z⟩
        · cases z
        · exact hj (R.apd i j l m a e z h1 s)
      have R3 := R2.setval (i := i) (Rp.dtk (K := K) (a := a) l rfl h5 h6 upd_same)
      rw [List.set_set, same] at R3
      exact ⟨_, same_upd h2, R3⟩
    | own l =>
      obtain ⟨a, vs, h1, h2, h3, h4, h5⟩ := R.own i l e
      have hi : i < r.length := (List.getElem?_eq_some_iff.mp e).1
      have same : σ.set i (some (V.ref a)) = σ := by
        apply List.ext_getElem?
        intro j
        by_cases hj : i = j
        · subst hj
          rw [List.getElem?_set_self (by rw [← R.len]; exact hi), h1]
        · rw [List.getElem?_set_ne hj]
      -- the slot is given up, the list frozen, the slot set anew
      have R1 : RelS K F0 H0 F H (r.set i .no) σ := by
        refine ⟨R.g, by rw [List.length_set]; exact R.len, fun j d q => ?_, fun j m q => ?_, fun p q l1 m a1 e1 e2 s1 s2 => ?_, fun j m q => ?_, fun p q l1 m a1 e1 e2 s1 s2 => ?_⟩
        · rcases set_get q with ⟨_, _, z⟩ | ⟨_, z⟩
          · cases z
          · exact R.val j d z
        · rcases set_get q with ⟨_, _, z⟩ | ⟨_, z⟩
          · cases z
          · exact R.own j m z
        · rcases set_get e1 with ⟨_, _, z⟩ | ⟨_, z1⟩
          · cases z
          · rcases set_get e2 with ⟨_, _, z⟩ | ⟨_, z2⟩
            · cases z
            · exact R.ap p q l1 m a1 z1 z2 s1 s2
        · rcases set_get q with ⟨_, _, z⟩ | ⟨_, z⟩
          · cases z
          · exact R.dic j m z
        · rcases set_get e1 with ⟨_, _, z⟩ | ⟨_, z1⟩
          · cases z
          · rcases set_get e2 with ⟨_, _, z⟩ | ⟨_, z2⟩
            · cases z
            · exact R.apd p q l1 m a1 z1 z2 s1 s2
      have R2 := R1.more h2 h3 h4 fun j m q s => by
        rcases set_get q with ⟨_, _, z⟩ | ⟨hj, z⟩
        · cases z
        · exact hj (R.ap i j l m a e z h1 s)
      have R3 := R2.setval (i := i) (Rp.lst (K := K) (a := a) (.inl (.inl upd_same)) (Rps.mono (same_upd h2) _ _ h5))
      rw [List.set_set, same] at R3
      exact ⟨_, same_upd h2, R3⟩
theorem RelS.frz : ∀ (is : List Nat) {F : Hp} {r : CE}, RelS K F0 H0 F H r σ → ∃ F', Same F F' ∧ RelS K F0 H0 F' H (PX.frz r is) σ
  | [], F, r, R => ⟨F, Same.refl _, R⟩
  | i :: is, F, r, R => by
    obtain ⟨F1, s1, R1⟩ := R.frz1 i
    obtain ⟨F2, s2, R2⟩ := RelS.frz is R1
    exact ⟨F2, s1.trans s2, R2⟩
theorem RelS.plain (R : RelS K F0 H0 F H r σ) : RelR K F (r.map rdP) σ := by
  refine ⟨by rw [List.length_map]; exact R.len, fun i d e => ?_⟩
  rw [List.getElem?_map] at e
  cases q : r[i]? with
  | none => rw [q] at e; cases e
  | some c =>
    rw [q] at e
    cases c with
    | no => cases e
    | own l => cases e
    | dic l => cases e
    | val d' => cases e; exact R.val i _ q
/-- an owned list or dict stands there -/
def OwnAt (r : CE) (σ : L2.St) (b : Addr) : Prop := (∃ (i : Nat) (l : List PyData), r[i]? = some (Cell.own l) ∧ σ[i]? = some (some (V.ref b))) ∨ ∃ (i : Nat) (l : Dic), r[i]? = some (Cell.dic l) ∧ σ[i]? = some (some (V.ref b))
open Classical in
noncomputable def withOwn (F H : Hp) (r : CE) (σ : L2.St) : Hp := fun b => if OwnAt r σ b then H b else F b
open Classical in
noncomputable def sansOwn (F : Hp) (r : CE) (σ : L2.St) : Hp := fun b => if OwnAt r σ b then none else F b
theorem RelS.ownAt (R : RelS K F0 H0 F H r σ) {b : Addr} (h : OwnAt r σ b) : F b = none ∧ H0 b = none ∧ Loose H b := by
  rcases h with ⟨i, l, e1, e2⟩ | ⟨i, l, e1, e2⟩
  · obtain ⟨a, vs, h1, h2, h3, h4, _⟩ := R.own i l e1
    rw [e2] at h1
    cases h1
    exact ⟨h2, h3, .inl ⟨vs, h4⟩⟩
  · obtain ⟨a, h1, h2, h3, h4, _⟩ := R.dic i l e1
    rw [e2] at h1
    cases h1
    exact ⟨h2, h3, .inr ⟨_, h4⟩⟩
theorem Loose.nt {b : Addr} (h : Loose H b) : NT H b := h.elim (fun ⟨_, e⟩ => NT.lst e) fun ⟨_, e⟩ => NT.dT e
theorem Loose.nn {b : Addr} (h : Loose H b) : H b ≠ none := h.nt.nn
theorem Loose.mono {b : Addr} (e : Same H H') (h : Loose H b) : Loose H' b := h.imp (fun ⟨l, q⟩ => ⟨l, e _ _ q⟩) fun ⟨l, q⟩ => ⟨l, e _ _ q⟩
theorem withOwn_pos {b : Addr} (h : OwnAt r σ b) : withOwn F H r σ b = H b := by unfold withOwn; rw [if_pos h]
theorem withOwn_neg {b : Addr} (h : ¬ OwnAt r σ b) : withOwn F H r σ b = F b := by unfold withOwn; rw [if_neg h]
theorem sansOwn_pos {b : Addr} (h : OwnAt r σ b) : sansOwn F r σ b = none := by unfold sansOwn; rw [if_pos h]
theorem sansOwn_neg {b : Addr} (h : ¬ OwnAt r σ b) : sansOwn F r σ b = F b := by unfold sansOwn; rw [if_neg h]
theorem RelS.withFF (R : RelS K F0 H0 F H r σ) : Same F (withOwn F H r σ) := fun b o e => by
  by_cases h : OwnAt r σ b
  · rw [(R.ownAt h).1] at e; cases e
  · rw [withOwn_neg h]; exact e
theorem RelS.withFH (R : RelS K F0 H0 F H r σ) : Same (withOwn F H r σ) H := fun b o e => by
  by_cases h : OwnAt r σ b
  · rw [withOwn_pos h] at e; exact e
  · rw [withOwn_neg h] at e; exact R.g.fh b o e
theorem RelS.borrow (R : RelS K F0 H0 F H r σ) : RelR K (withOwn F H r σ) (r.map rdB) σ := by
  refine ⟨by rw [List.length_map]; exact R.len, fun i d e => ?_⟩
  rw [List.getElem?_map] at e
  cases q : r[i]? with
  | none => rw [q] at e; cases e
  | some c =>
    rw [q] at e
    cases c with
    | no => cases e
    | own l =>
      cases e
      obtain ⟨a, vs, h1, h2, h3, h4, h5⟩ := R.own i l q
      exact ⟨_, h1, .lst (.inl (.inl (by rw [withOwn_pos (.inl ⟨i, l, q, h1⟩)]; exact h4))) (Rps.mono R.withFF _ _ h5)⟩
    | dic l =>
      cases e
      obtain ⟨a, h1, h2, h3, h4, h5, h6⟩ := R.dic i l q
      exact ⟨_, h1, .dtk l rfl h5 h6 (by rw [withOwn_pos (.inr ⟨i, l, q, h1⟩)]; exact h4)⟩
    | val d' =>
      cases e
      obtain ⟨v, h1, h2⟩ := R.val i _ q
      exact ⟨v, h1, Rp.mono R.withFF _ _ h2⟩
/-- behind an expression that read owned lists -/
theorem RelS.back (R : RelS K F0 H0 F H r σ) (g : Grow (withOwn F H r σ) H F' H') : Grow F H (sansOwn F' r σ) H' ∧ ∀ b, Loose F' b ∨ sansOwn F' r σ b = F' b := by
  have own : ∀ b, OwnAt r σ b → Loose F' b := fun b h => by
    obtain ⟨_, _, l⟩ := R.ownAt h
    exact (show Loose (withOwn F H r σ) b from l.imp (fun ⟨v, e⟩ => ⟨v, by rw [withOwn_pos h]; exact e⟩) fun ⟨v, e⟩ => ⟨v, by rw [withOwn_pos h]; exact e⟩).mono g.ff
  refine ⟨⟨fun b o e => ?_, fun b o e => ?_, g.hh, fun b e => ?_⟩, fun b => ?_⟩
  · have h : ¬ OwnAt r σ b := fun h => by rw [(R.ownAt h).1] at e; cases e
    rw [sansOwn_neg h]
    exact g.ff b o (by rw [withOwn_neg h]; exact e)
  · by_cases h : OwnAt r σ b
    · rw [sansOwn_pos h] at e; cases e
    · rw [sansOwn_neg h] at e; exact g.fh b o e
  · by_cases h : OwnAt r σ b
    · rw [sansOwn_pos h, (R.ownAt h).1]
    · rw [sansOwn_neg h, g.nw b e, withOwn_neg h]
  · by_cases h : OwnAt r σ b
    · exact .inl (own b h)
    · exact .inr (sansOwn_neg h)
theorem RelS.payBack (R : RelS K F0 H0 F H r σ) (g : Grow (withOwn F H r σ) H F' H') {c : Nat} {d : Option Addr} (pay : Pay c F' d) : Pay c (sansOwn F' r σ) d := by
  rcases pay with p | ⟨q, dd, e1, e2⟩
  · exact .inl p
  · refine .inr ⟨q, dd, e1, ?_⟩
    rcases (R.back g).2 dd with l | e
    · exact (l.not e2 (fun _ z => nomatch z) fun _ z => nomatch z).elim
    · rw [e]; exact e2
end

/-! ### readings of statements -/
section
variable (K : PySem.W.Frag) (W : WX) (cl : Nat → Value)
def PostS (F0 H0 : Hp) (o : Out) (D : Ends) : Prop := match o with
  | .nx r => ∀ σ F H, RelS K F0 H0 F H r σ → D.nx σ H
  | .brk r => ∀ σ F H, RelS K F0 H0 F H r σ → D.bk σ H
  | .cnt r => ∀ σ F H, RelS K F0 H0 F H r σ → D.ct σ H
  | .ret x => PV K D.rt x F0 H0
  | .exc c r => ∀ σ F H, RelS K F0 H0 F H r σ → ∀ d, Pay c F d → W (cl (c % 16)) d σ H
  | .fail => False
def canS (s : CE → Out) : TS := fun D σ H => ∃ r F F0 H0, RelS K F0 H0 F H r σ ∧ PostS K W cl F0 H0 (s r) D
/-- what came of an expression -/
def IsV (H F' H' : Hp) : RV → V → Prop
  | .val d, v => Rp K F' d v
  | .own l, v => ∃ a vs, v = .ref a ∧ H a = none ∧ F' a = none ∧ H' a = some (.lst vs) ∧ Rps K F' l vs
end
section
variable {K : PySem.W.Frag} {W : WX} {cl : Nat → Value} {F0 H0 F H : Hp} {r : CE} {σ : L2.St} {D : Ends}
theorem useM {m : Md} {f : RE → Rr} {kk : RV → CE → Out} (R : RelS K F0 H0 F H r σ) (h : PostS K W cl F0 H0 (evM m f r kk) D) {Q : VK}
    (hq : ∀ x v F' H', RelS K F0 H0 F' H' (frz r m.fz) σ → IsV K H F' H' x v → Same H H' → Same F F' → PostS K W cl F0 H0 (kk x (frz r m.fz)) D → Q v H') : canE K W cl f σ H Q := by
  obtain ⟨F1, sF, R1⟩ := RelS.frz m.fz R
  unfold evM at h
  cases hb : m.bw with
  | false =>
    have er : rdM m r = (frz r m.fz).map rdP := by unfold rdM; rw [hb]; rfl
    refine ⟨rdM m r, F1, R1.g.fh, by rw [er]; exact R1.plain, ?_⟩
    cases e : f (rdM m r) with
    | ok x =>
      rw [e] at h
      have h : PostS K W cl F0 H0 (if (m.bw && !x.flat) = true then .fail else kk x (frz r m.fz)) D := h
      rw [hb, if_neg (by simp)] at h
      cases x with
      | val d => exact fun v F' H' g rp => hq (.val d) v F' H' (R1.grow g) rp g.hh (sF.trans g.ff) h
      | own l => exact fun a vs F' H' g n1 n2 e1 rs => hq (.own l) _ F' H' (R1.grow g) ⟨a, vs, rfl, n1, n2, e1, rs⟩ g.hh (sF.trans g.ff) h
    | exc c =>
      rw [e] at h
      exact fun F' H' g => (show ∀ σ F H, RelS K F0 H0 F H (frz r m.fz) σ → ∀ d, Pay c F d → W (cl (c % 16)) d σ H from h) σ F' H' (R1.grow g)
    | fail => rw [e] at h; exact h
  | true =>
    have er : rdM m r = (frz r m.fz).map rdB := by unfold rdM; rw [hb]; rfl
    refine ⟨rdM m r, withOwn F1 H (frz r m.fz) σ, R1.withFH, by rw [er]; exact R1.borrow, ?_⟩
    cases e : f (rdM m r) with
    | ok x =>
      rw [e] at h
      have h : PostS K W cl F0 H0 (if (m.bw && !x.flat) = true then .fail else kk x (frz r m.fz)) D := h
      rw [hb] at h
      by_cases hf : x.flat = true
      case neg =>
        rw [if_pos (by simp [hf])] at h
        exact False.elim h
      rw [if_neg (by simp [hf])] at h
      cases x with
      | val d =>
        intro v F' H' g rp
        obtain ⟨g2, hG⟩ := R1.back g
        exact hq (.val d) v _ H' (R1.grow g2) (Rp.cut hG d v hf rp) g.hh (sF.trans g2.ff) h
      | own l =>
        intro a vs F' H' g n1 n2 e1 rs
        obtain ⟨g2, hG⟩ := R1.back g
        refine hq (.own l) _ _ H' (R1.grow g2) ⟨a, vs, rfl, n1, ?_, e1, Rps.cut hG l vs hf rs⟩ g.hh (sF.trans g2.ff) h
        rcases hG a with l' | z
        · exact (l'.nn n2).elim
        · rw [z]; exact n2
    | exc c =>
      rw [e] at h
      exact fun F' H' g d pay => (show ∀ σ F H, RelS K F0 H0 F H (frz r m.fz) σ → ∀ d, Pay c F d → W (cl (c % 16)) d σ H from h) σ _ H' (R1.grow (R1.back g).1) d (R1.payBack g pay)
    | fail => rw [e] at h; exact h
/-- .. of some expressions, from the left -/
theorem useMs {m : Md} {f : RE → Res (List PyData)} {kk : List PyData → CE → Out} (R : RelS K F0 H0 F H r σ) (h : PostS K W cl F0 H0 (match f (rdM m r) with
    | .ok ds => if (m.bw && !flats ds) = true then .fail else kk ds (frz r m.fz)
    | .exc c => .exc c (frz r m.fz)
    | .fail => .fail) D) {Q : List V → Hp → Prop}
    (hq : ∀ ds vs F' H', RelS K F0 H0 F' H' (frz r m.fz) σ → Rps K F' ds vs → PostS K W cl F0 H0 (kk ds (frz r m.fz)) D → Q vs H') : canA K W cl f σ H Q := by
  obtain ⟨F1, sF, R1⟩ := RelS.frz m.fz R
  cases hb : m.bw with
  | false =>
    have er : rdM m r = (frz r m.fz).map rdP := by unfold rdM; rw [hb]; rfl
    refine ⟨rdM m r, F1, R1.g.fh, by rw [er]; exact R1.plain, ?_⟩
    cases e : f (rdM m r) with
    | ok ds =>
      rw [e] at h
      have h : PostS K W cl F0 H0 (if (m.bw && !flats ds) = true then .fail else kk ds (frz r m.fz)) D := h
      rw [hb, if_neg (by simp)] at h
      exact fun vs F' H' g rp => hq ds vs F' H' (R1.grow g) rp h
    | exc c =>
      rw [e] at h
      exact fun F' H' g => (show ∀ σ F H, RelS K F0 H0 F H (frz r m.fz) σ → ∀ d, Pay c F d → W (cl (c % 16)) d σ H from h) σ F' H' (R1.grow g)
    | fail => rw [e] at h; exact h
  | true =>
    have er : rdM m r = (frz r m.fz).map rdB := by unfold rdM; rw [hb]; rfl
    refine ⟨rdM m r, withOwn F1 H (frz r m.fz) σ, R1.withFH, by rw [er]; exact R1.borrow, ?_⟩
    cases e : f (rdM m r) with
    | ok ds =>
      rw [e] at h
      have h : PostS K W cl F0 H0 (if (m.bw && !flats ds) = true then .fail else kk ds (frz r m.fz)) D := h
      rw [hb] at h
      by_cases hf : flats ds = true
      case neg =>
        rw [if_pos (by simp [hf])] at h
        exact False.elim h
      rw [if_neg (by simp [hf])] at h
      intro vs F' H' g rp
      obtain ⟨g2, hG⟩ := R1.back g
      exact hq ds vs _ H' (R1.grow g2) (Rps.cut hG ds vs hf rp) h
    | exc c =>
      rw [e] at h
      exact fun F' H' g d pay => (show ∀ σ F H, RelS K F0 H0 F H (frz r m.fz) σ → ∀ d, Pay c F d → W (cl (c % 16)) d σ H from h) σ _ H' (R1.grow (R1.back g).1) d (R1.payBack g pay)
    | fail => rw [e] at h; exact h
/-- a test -/
theorem useT {f : RE → Rr} {kk : Bool → Out} (R : RelS K F0 H0 F H r σ) (h : PostS K W cl F0 H0 (evT f r kk) D) {Q : Bool → Hp → Prop}
    (hq : ∀ b F' H', RelS K F0 H0 F' H' r σ → PostS K W cl F0 H0 (kk b) D → Q b H') : canT K W cl (fun r => asB (f r)) σ H Q := by
  refine ⟨r.map rdB, withOwn F H r σ, R.withFH, R.borrow, ?_⟩
  unfold evT evB at h
  dsimp only
  cases e : asB (f (r.map rdB)) with
  | ok b =>
    rw [e] at h
    exact fun F' H' g => hq b _ H' (R.grow (R.back g).1) h
  | exc c =>
    rw [e] at h
    exact fun F' H' g d pay => (show ∀ σ F H, RelS K F0 H0 F H r σ → ∀ d, Pay c F d → W (cl (c % 16)) d σ H from h) σ _ H' (R.grow (R.back g).1) d (R.payBack g pay)
  | fail => rw [e] at h; exact h
/-- what came of an expression, as data -/
theorem RelS.asData {F' H' : Hp} {x : RV} {v : V} (R0 : RelS K F0 H0 F H r σ) (R : RelS K F0 H0 F' H' r σ) (hh : Same H H') (iv : IsV K H F' H' x v) : ∃ F2, Same F' F2 ∧ RelS K F0 H0 F2 H' r σ ∧ Rp K F2 x.d v := by
  cases x with
  | val d => exact ⟨F', Same.refl _, R, iv⟩
  | own l =>
    obtain ⟨a, vs, rfl, n1, n2, e, rs⟩ := iv
    refine ⟨_, same_upd n2, R.more n2 (Same.free R0.g.hh n1) e fun j m e1 e2 => ?_, .lst (.inl (.inl upd_same)) (Rps.mono (same_upd n2) _ _ rs)⟩
    exact (R0.ownAt (.inl ⟨j, m, e1, e2⟩)).2.2.nn n1
/-- an owned list is written -/
theorem RelS.poke (R : RelS K F0 H0 F H r σ) {i : Nat} {l l' : List PyData} {a : Addr} {vs' : List V} (e : r[i]? = some (.own l)) (s : σ[i]? = some (some (.ref a))) (rs : Rps K F l' vs') : RelS K F0 H0 F (upd H a (.lst vs')) (r.set i (.own l')) σ := by
  obtain ⟨a', us, q1, q2, q3, q4, q5⟩ := R.own i l e
  rw [s] at q1
  cases q1
  refine ⟨⟨R.g.ff, fun b o h => ?_, fun b o h => ?_, R.g.nw⟩, by rw [List.length_set]; exact R.len, fun j d h => ?_, fun j m h => ?_, fun p q m1 m2 b e1 e2 s1 s2 => ?_, fun j m h => ?_, fun p q m1 m2 b e1 e2 s1 s2 => ?_⟩
  · rw [upd_ne (fun z => by subst z; rw [q2] at h; cases h)]
    exact R.g.fh b o h
  · rw [upd_ne (fun z => by subst z; rw [q3] at h; cases h)]
    exact R.g.hh b o h
  · rcases set_get h with ⟨_, _, z⟩ | ⟨_, z⟩
    · cases z
    · exact R.val j d z
  · rcases set_get h with ⟨rfl, _, z⟩ | ⟨hj, z⟩
    · cases z
      exact ⟨a, vs', s, q2, q3, upd_same, rs⟩
    · obtain ⟨b, ws, h1, h2, h3, h4, h5⟩ := R.own j m z
      refine ⟨b, ws, h1, h2, h3, ?_, h5⟩
      rw [upd_ne (fun y => hj (R.ap i j l m a e z s (by rw [← y]; exact h1)))]
      exact h4
  · have g : ∀ {p : Nat} {m1 : List PyData}, (r.set i (.own l'))[p]? = some (.own m1) → ∃ m, r[p]? = some (.own m) := fun {p m1} h => by
      rcases set_get h with ⟨rfl, _, _⟩ | ⟨_, z⟩
      · exact ⟨l, e⟩
      · exact ⟨m1, z⟩
    obtain ⟨n1, z1⟩ := g e1
    obtain ⟨n2, z2⟩ := g e2
    exact R.ap p q n1 n2 b z1 z2 s1 s2
  · rcases set_get h with ⟨_, _, z⟩ | ⟨hj, z⟩
    · cases z
    · obtain ⟨b, h1, h2, h3, h4, h5⟩ := R.dic j m z
      refine ⟨b, h1, h2, h3, ?_, h5⟩
      rw [upd_ne (fun y => by subst y; rw [q4] at h4; cases h4)]
      exact h4
  · rcases set_get e1 with ⟨_, _, z⟩ | ⟨_, z1⟩
    · cases z
    · rcases set_get e2 with ⟨_, _, z⟩ | ⟨_, z2⟩
      · cases z
      · exact R.apd p q m1 m2 b z1 z2 s1 s2
/-- an owned dict is written -/
theorem RelS.dpoke (R : RelS K F0 H0 F H r σ) {i : Nat} {l l' : Dic} {a : Addr} (e : r[i]? = some (.dic l)) (s : σ[i]? = some (some (.ref a))) (ne : l' ≠ []) (sc : ∀ p ∈ l', scalD p.2 = true) : RelS K F0 H0 F (upd H a (.dT (wsD l'))) (r.set i (.dic l')) σ := by
  obtain ⟨a', q1, q2, q3, q4, q5⟩ := R.dic i l e
  rw [s] at q1
  cases q1
  refine ⟨⟨R.g.ff, fun b o h => ?_, fun b o h => ?_, R.g.nw⟩, by rw [List.length_set]; exact R.len, fun j d h => ?_, fun j m h => ?_, fun p q m1 m2 b e1 e2 s1 s2 => ?_, fun j m h => ?_, fun p q m1 m2 b e1 e2 s1 s2 => ?_⟩
  · rw [upd_ne (fun z => by subst z; rw [q2] at h; cases h)]
    exact R.g.fh b o h
  · rw [upd_ne (fun z => by subst z; rw [q3] at h; cases h)]
    exact R.g.hh b o h
  · rcases set_get h with ⟨_, _, z⟩ | ⟨_, z⟩
    · cases z
    · exact R.val j d z
  · rcases set_get h with ⟨_, _, z⟩ | ⟨hj, z⟩
    · cases z
    · obtain ⟨b, ws, h1, h2, h3, h4, h5⟩ := R.own j m z
      refine ⟨b, ws, h1, h2, h3, ?_, h5⟩
      rw [upd_ne (fun y => by subst y; rw [q4] at h4; cases h4)]
      exact h4
  · rcases set_get e1 with ⟨_, _, z⟩ | ⟨_, z1⟩
    · cases z
    · rcases set_get e2 with ⟨_, _, z⟩ | ⟨_, z2⟩
      · cases z
      · exact R.ap p q m1 m2 b z1 z2 s1 s2
  · rcases set_get h with ⟨rfl, _, z⟩ | ⟨hj, z⟩
    · cases z
      exact ⟨a, s, q2, q3, upd_same, ne, sc⟩
    · obtain ⟨b, h1, h2, h3, h4, h5⟩ := R.dic j m z
      refine ⟨b, h1, h2, h3, ?_, h5⟩
      rw [upd_ne (fun y => hj (R.apd i j l m a e z s (by rw [← y]; exact h1)))]
      exact h4
  · have g : ∀ {p : Nat} {m1 : Dic}, (r.set i (.dic l'))[p]? = some (.dic m1) → ∃ m, r[p]? = some (.dic m) := fun {p m1} h => by
      rcases set_get h with ⟨rfl, _, _⟩ | ⟨_, z⟩
      · exact ⟨l, e⟩
      · exact ⟨m1, z⟩
    obtain ⟨n1, z1⟩ := g e1
    obtain ⟨n2, z2⟩ := g e2
    exact R.apd p q n1 n2 b z1 z2 s1 s2
/-- what is owned after some slots froze was owned before -/
theorem frz_own : ∀ (is : List Nat) {r : CE} {i : Nat} {l : List PyData}, (frz r is)[i]? = some (.own l) → r[i]? = some (.own l)
  | [], r, i, l, h => h
  | j :: is, r, i, l, h => by
    have h1 := frz_own is (show (frz (frz1 r j) is)[i]? = some (.own l) from h)
    unfold frz1 at h1
    cases e : r[j]? with
    | none => rw [e] at h1; exact h1
    | some c =>
      rw [e] at h1
      cases c with
      | no => exact h1
      | val d => exact h1
      | dic m =>
        rcases set_get h1 with ⟨_, _, z⟩ | ⟨_, z⟩
        · cases z
        · exact z
      | own m =>
        rcases set_get h1 with ⟨_, _, z⟩ | ⟨_, z⟩
        · cases z
        · exact z
/-- the base moves up -/
structure Up (F0 H0 F1 : Hp) : Prop where
  ff : Same F0 F1
  nw : ∀ b, NT H0 b → F1 b = F0 b
theorem RelS.upB (R : RelS K F0 H0 F H r σ) : Up F0 H0 F ∧ RelS K F H0 F H r σ := ⟨⟨R.g.ff, R.g.nw⟩, ⟨⟨Same.refl _, R.g.fh, R.g.hh, fun _ _ => rfl⟩, R.len, R.val, R.own, R.ap, R.dic, R.apd⟩⟩
theorem Grow.down {F0 H0 F1 F' H' : Hp} (u : Up F0 H0 F1) (g : Grow F1 H0 F' H') : Grow F0 H0 F' H' := ⟨u.ff.trans g.ff, g.fh, g.hh, fun b h => (g.nw b h).trans (u.nw b h)⟩
theorem RelS.down {F1 : Hp} (u : Up F0 H0 F1) (R : RelS K F1 H0 F H r σ) : RelS K F0 H0 F H r σ := ⟨R.g.down u, R.len, R.val, R.own, R.ap, R.dic, R.apd⟩
theorem PostS.up {F1 : Hp} {o : Out} (u : Up F0 H0 F1) (h : PostS K W cl F0 H0 o D) : PostS K W cl F1 H0 o D := by
  cases o with
  | nx r => exact fun σ F H R => (show ∀ σ F H, RelS K F0 H0 F H r σ → D.nx σ H from h) σ F H (R.down u)
  | brk r => exact fun σ F H R => (show ∀ σ F H, RelS K F0 H0 F H r σ → D.bk σ H from h) σ F H (R.down u)
  | cnt r => exact fun σ F H R => (show ∀ σ F H, RelS K F0 H0 F H r σ → D.ct σ H from h) σ F H (R.down u)
  | exc c r => exact fun σ F H R => (show ∀ σ F H, RelS K F0 H0 F H r σ → ∀ d, Pay c F d → W (cl (c % 16)) d σ H from h) σ F H (R.down u)
  | ret x =>
    have h : PV K D.rt x F0 H0 := h
    show PV K D.rt x F1 H0
    cases x with
    | val d => exact fun v F' H' g p => h v F' H' (g.down u) p
    | own l => exact fun a vs F' H' g n1 n2 e rs => h a vs F' H' (g.down u) n1 n2 e rs
  | fail => exact h
end
end PX

/-! PX13: statements, their check and soundness. -/
namespace PX
open PySem PySem.Spec PyProof.Rows L2

def isComp : Expr → Bool
  | .ListComp .. => true
  | .SetComp .. => true
  | .DictComp .. => true
  | _ => false
def isLC : Expr → Bool
  | .ListComp .. => true
  | _ => false
def nLen : Expr → Nat → Bool
  | .Tuple .., n => !(n == 2 || n == 3)
  | _, _ => true
def isDoc : Stmt → Bool
  | .Pass _ => true
  | .Expr (.Constant (.str _) _ _) _ => true
  | _ => false
mutual
def isS : Sx → Chk → Stmt → Bool
  | .asg i own m e, C, st => match st with
    | .Assign [.Name y _] x _ => decide (C.N[i]? = some y) && C.loc y && isE e C x && (!isComp x || isLC x && !C.hot)
    | _ => false
  | .unp l m e, C, st => match st with
    | .Assign [.Tuple ts _ _] x _ => !C.hot && tgN C l ts && isE e C x && nLen x l.length
    | _ => false
  | .par2 i j m es, C, st => match st with
    | .Assign [.Tuple [.Name x px, .Name y py] _ _] (.Tuple [a, b] _ _) _ => !C.hot && decide (C.N[i]? = some x) && decide (C.N[j]? = some y) && decide (i ≠ j) && decide (C.nm.lookup x = some .local) && decide (C.nm.lookup y = some .local) &&
      decide (px.line = py.line) && isL es C [a, b] && okX a && okX b && !(foldedForSure 8 a && foldedForSure 8 b) && !(constantsAlone 8 a && constantsAlone 8 b)
    | _ => false
  | .setix i m k e, C, st => match st with
    | .Assign [.Subscript (.Name y _) ix _] x _ => decide (C.N[i]? = some y) && C.vis y && okName y && isE k C ix && okX ix && isE e C x
    | _ => false
  | .app i m e, C, st => match st with
    | .Expr (.Call (.Attribute (.Name y _) f ap) [x] [] cp) _ => decide (f = ("append" : Str)) && decide (C.N[i]? = some y) && C.vis y && okName y && isE e C x && okX x && (ap.endLine == cp.line)
    | _ => false
  | .aug i o e, C, st => match st with
    | .AugAssign (.Name y _) p x _ => decide (C.N[i]? = some y) && C.loc y && decide (p = o.op) && (match o with
      | .pow => false
      | _ => true) && isE e C x
    | _ => false
  | .ret m e, C, st => match st with
    | .Return (some x) _ => isE e C x
    | _ => false
  | .reto i, C, st => match st with
    | .Return (some (.Name y _)) _ => decide (C.N[i]? = some y) && C.vis y && okName y
    | _ => false
  | .retn, C, st => match st with
    | .Return none _ => true
    | _ => false
  | .drop m e, C, st => match st with
    | .Expr x _ => isE e C x && !isComp x
    | _ => false
  | .ite c a b, C, st => match st with
    | .If x p q _ => isE c C x && isB a C p && isB b C q
    | _ => false
  | .whl c b, C, st => match st with
    | .While x p [] _ => isE c C x && isB b C p
    | _ => false
  | .for_ t fz it b, C, st => match st with
    | .For tg x p [] _ => !C.hot && isT C t tg && isI it C tg x && isB b C p && okX x
    | _ => false
  | .rais c, C, st => match st with
    | .Raise (some (.Call (.Name x _) [.Constant (.str _) _ _] [] _)) none _ => !C.hot && decide (c < 9) && decide (C.exc[c]? = some x) && C.gl x && (okName x && !(x == ("" : Str)))
    | _ => false
  | .raisp c e, C, st => match st with
    | .Raise (some (.Call (.Name x _) [y] [] _)) none _ => !C.hot && (decide (c = 9) || decide (c = 10)) && decide (C.exc[c]? = some x) && C.gl x && (okName x && !(x == ("" : Str))) && isE e C y && okX y
    | _ => false
  | .pass, C, st => isDoc st
  | .callio f i es, C, st => match st with
    | .Expr (.Call (.Name g _) (.Name y yp :: xs) [] _) _ => match C.fns[f]? with
      | some (z, np, df) => !C.hot && decide (g = z) && C.gl g && okName g && decide (C.N[i]? = some y) && C.vis y && okName y && isL es C xs && decide (np = es.len + 1 + 1000) && okX (.Name y yp) && df.isEmpty
      | none => false
    | _ => false
  | .popx i j e, C, st => match st with
    | .Assign [.Name x _] (.Call (.Attribute (.Name y _) f ap) [a] [] cp) _ => decide (f = ("pop" : Str)) && decide (C.N[i]? = some y) && C.vis y && okName y && decide (C.N[j]? = some x) && C.loc x && isE e C a && okX a && (ap.endLine == cp.line) && decide (i ≠ j)
    | _ => false
  | .dnew i ks e, C, st => match st with
    | .Assign [.Name y _] (.Dict [some (.Tuple es _ _)] [x] _) _ => !C.hot && decide (C.N[i]? = some y) && C.loc y && isL ks C es && isE e C x
    | _ => false
  | .dput i m es e, C, st => match st with
    | .Assign [.Subscript (.Name y _) (.Tuple ks _ _) _] x _ => !C.hot && decide (C.N[i]? = some y) && C.vis y && okName y && isL es C ks && isE e C x
    | _ => false
  | .forb t e b, C, st => match st with
    | .For tg x p [] _ => !C.hot && isT C t tg && isE e C x && isB b C p && okX x
    | _ => false
  | .stuck, C, st => true
  | .swp i m kx ky es, C, st => match st with
    | .Assign [.Tuple [.Subscript (.Name y _) ix _, .Subscript (.Name z _) iz _] _ _] x _ => !C.hot && decide (C.N[i]? = some y) && C.vis y && okName y && decide (z = y) && isE kx C ix && okX ix && isE ky C iz && okX iz && isE (.tup es) C x && isTup x
    | _ => false
  | .try_ i cs al b s e, C, st => match st with
    | .Try body [.ExceptHandler (some (.Name x _)) nm (b₀ :: suite) _] els [] _ => !C.hot && isB b C body && isB s { C with hot := true } (b₀ :: suite) && isB e C els && (match els with
      | [] => true
      | _ => false) && al.all (fun c => match C.exc[c]? with
      | some x => !(x == ("" : Str))
      | none => false) && (match cs with
      | [c] => decide (c ≠ 99) && isCls C c x
      | _ => false) && (match i, nm with
      | some i, some n => decide (C.N[i]? = some n) && decide (C.nm.lookup n = some .local)
      | none, none => true
      | _, _ => false)
    | _ => false
  | .brk, C, st => match st with
    | .Break _ => true
    | _ => false
  | .cnt, C, st => match st with
    | .Continue _ => true
    | _ => false
def isB : Sxs → Chk → List Stmt → Bool
  | .nil, C, sts => match sts with
    | [] => true
    | _ => false
  | .cons s ss, C, sts => match sts with
    | st :: rest => isS s C st && isB ss C rest
    | _ => false
end

/-- .. of a def's own frame -/
structure CtxOkS (X : Cx) (C : Chk) (W : WX) (G : Gd) (cl : Nat → Value) (k : Nat) : Prop extends CtxOk X C W G cl k where
  stk : X.stack = X.env :: X.outer
  frm : X.env.frame = some X.env.locals
def SoundS (G : Gd) (cl : Nat → Value) (k : Nat) (s : Sx) : Prop := ∀ (C : Chk) (st : Stmt) (X : Cx) (W : WX), CtxOkS X C W G cl k → isS s C st = true → PS X st (canS X.K W cl (sx G s))
def SoundB (G : Gd) (cl : Nat → Value) (k : Nat) (s : Sxs) : Prop := ∀ (C : Chk) (sts : List Stmt) (X : Cx) (W : WX), CtxOkS X C W G cl k → isB s C sts = true → PSs X sts (canS X.K W cl (sxs G s))

section
variable {G : Gd} {cl : Nat → Value} {k : Nat} {X : Cx} {C : Chk} {W : WX}
theorem sw_not {x : Expr} {t : Option Expr} {l : Nat} {env : Env} (h : isComp x = false) : swapsWith x t l env = pure false := by
  cases x <;> first | rfl | cases h
theorem sw_tup {x : Expr} {es : List Expr} {kk : Nat} {p : Pos} {l : Nat} {env : Env} : swapsWith x (some (.Tuple es kk p)) l env = pure false := by
  cases x <;> rfl
theorem sw_sub {x o i : Expr} {p : Pos} {l : Nat} {env : Env} : swapsWith x (some (.Subscript o i p)) l env = pure false := by
  cases x <;> rfl
theorem st_sub {x o i : Expr} {p : Pos} {env : Env} : swappedStores [.Subscript o i p] x env = pure none := by
  cases x <;> rfl
theorem st_tup {x : Expr} {ts : List Expr} {kk : Nat} {p : Pos} {env : Env} (h : nLen x ts.length = true) : swappedStores [.Tuple ts kk p] x env = pure none := by
  cases x
  case Tuple vs k2 p2 =>
    have h' : (!(ts.length == 2 || ts.length == 3)) = true := h
    unfold swappedStores
    simp only [h', Bool.true_or, if_true]
  all_goals rfl
theorem tgN_len {C : Chk} : ∀ {l : List Nat} {es : List Expr}, tgN C l es = true → es.length = l.length
  | [], [], _ => rfl
  | [], e :: es, h => by cases e <;> cases h
  | i :: is, [], h => by cases h
  | i :: is, e :: es, h => by
    cases e <;> try cases h
    rename_i x pos
    have h' : (decide (C.N[i]? = some x) && C.loc x && tgN C is es) = true := h
    simp only [Bool.and_eq_true] at h'
    show es.length + 1 = is.length + 1
    rw [tgN_len h'.2]
theorem PS_to {st : Stmt} {f g : CE → Out} (h : PS X st (canS X.K W cl f)) (q : ∀ r, g r = f r) : PS X st (canS X.K W cl g) := by
  have : g = f := funext q
  rw [this]
  exact h
/-- stored in a name -/
theorem asg_core {i : Nat} {own : Bool} {m : Md} {f : RE → Rr} {D : Ends} {σ : L2.St} {H : Hp} (q : canS X.K W cl (fun r => evM m f r fun x r' => .nx (r'.set i (cellOf own x))) D σ H) : tAsg (canE X.K W cl f) (gName i) D σ H := by
  obtain ⟨r, F, F0, H0, R, post⟩ := q
  obtain ⟨F1, _, R1⟩ := RelS.frz m.fz R
  refine useM R post fun x v F' H' R2 iv hh _ post2 => ?_
  show D.nx (σ.set i (some v)) H'
  have post2 : ∀ σ F H, RelS X.K F0 H0 F H ((frz r m.fz).set i (cellOf own x)) σ → D.nx σ H := post2
  cases x with
  | val d => exact post2 _ F' H' (R2.setval iv)
  | own l =>
    cases own with
    | true =>
      obtain ⟨a, vs, rfl, n1, n2, e, rs⟩ := iv
      refine post2 _ F' H' (R2.setown n2 (Same.free R1.g.hh n1) e rs fun j mm b hj e1 e2 => ?_)
      intro z
      subst z
      exact (R1.ownAt (.inl ⟨j, mm, e1, e2⟩)).2.2.nn n1
    | false =>
      obtain ⟨F2, _, R3, rp⟩ := R1.asData R2 hh iv
      exact post2 _ F2 H' (R3.setval rp)

theorem sw_false {elt : Expr} {gs : List Comprehension} {scope : Scope} {pos py : Pos} {y : Str} {l : Nat} {env : Env} (h : ¬ (env.scope.names.lookup y = some .local ∧ (py.line == pos.line) = true ∧ (scope.names.any fun (n, k) => n == y && (k == .local || k == .cell)) = false)) : swapsWith (.ListComp elt gs scope pos) (some (.Name y py)) l env = pure false := by
  have ky : env.kindOf y = env.scope.names.lookup y := rfl
  unfold swapsWith
  simp only [ky, Expr.pos]
  by_cases h1 : (py.line == pos.line) = true
  · by_cases h2 : (scope.names.any fun (n, k) => n == y && (k == .local || k == .cell)) = true
    · simp only [h2, Bool.not_true, Bool.and_false]
    · have h3 : ¬ env.scope.names.lookup y = some .local := fun z => h ⟨z, h1, by simpa using h2⟩
      have h4 : (env.scope.names.lookup y == some NameKind.local) = false := by
        cases e : env.scope.names.lookup y with
        | none => rfl
        | some kd => cases kd <;> first | rfl | exact absurd e h3
      simp only [h4, Bool.and_false, Bool.false_and]
  · have h4 : (py.line == pos.line) = false := by simpa using h1
    simp only [h4, Bool.and_false, Bool.false_and]
theorem t_asg (i : Nat) (own : Bool) (m : Md) (e : Ex) : SoundS G cl k (.asg i own m e) := fun C st X W O h => by
  unfold isS at h
  cases st <;> try cases h
  rename_i ts x pos
  rcases ts with _ | ⟨t, _ | ⟨t2, ts⟩⟩ <;> try (first | cases h | (cases t <;> cases h; done))
  cases t <;> try cases h
  rename_i y py
  simp only [Bool.and_eq_true, decide_eq_true_eq, Bool.or_eq_true, Bool.not_eq_true'] at h
  obtain ⟨⟨⟨h1, h2⟩, h3⟩, h4⟩ := h
  have hN : X.N[i]? = some y := by rw [O.nN]; exact h1
  refine PS_to (f := fun r => evM m (ev G e) r fun x r' => .nx (r'.set i (cellOf own x))) ?_ fun r => by rw [sx]
  rcases h4 with h4 | h4
  · exact PS_weak (ps_set O.nd hN (O.loc h2) (soundE e C x X W O.toCtxOk h3).1 (sw_not h4) (O.fnok y h2)) fun D σ H q => asg_core q
  · obtain ⟨h4, hh0⟩ := h4
    cases x <;> try cases h4
    rename_i ex gs sc p2
    by_cases hw : X.env.scope.names.lookup y = some .local ∧ (py.line == p2.line) = true ∧ (sc.names.any fun (n, k) => n == y && (k == .local || k == .cell)) = false
    · obtain ⟨w1, w2, w3⟩ := hw
      cases e <;> try (unfold isE at h3; cases h3)
      rotate_left
      · exact ⟨fun pins s σ H D I ⟨r, F, F0, H0, R, post⟩ => by
        have e0 : ev G Ex.stuck = fun _ => .fail := funext fun r => by rw [ev]
        rw [e0] at post
        exact False.elim post⟩
      rename_i own2 elt t it cond
      unfold isE at h3
      rcases gs with _ | ⟨⟨tx, ix, ifs, n⟩, _ | ⟨g2, gs⟩⟩ <;> try cases h3
      obtain ⟨hh, rfl, a1, a2, a3, a4, a5, a6, a7⟩ := comp_all (soundE elt) (soundI it) (soundO cond) O.toCtxOk h3
      refine PS_weak (ps_setLc (O.calm hh) O.nd hN w1 (sw_true O.kind w1 w2 w3) a1 a2 a3 a4 a5 a6) fun D σ H q => ?_
      have q2 := asg_core q
      have q3 : canE X.K W cl (ev G (.comp own2 elt t it cond)) σ H (fun x H1 => gName i x σ H1 D.nx) := q2
      show tLc _ _ _ _ _ σ H (fun x H1 => gName i x σ H1 D.nx)
      refine tLc_can a7 ?_
      have e : ev G (.comp own2 elt t it cond) = fun r => (evi G it r).bind fun ds => if lineB ds.length = true then ownL (compL (stepC own2 t (evc G cond) (ev G elt) r) ds) else .fail := funext ev_comp
      rw [e] at q3
      exact q3
    · exact PS_weak (ps_set O.nd hN (O.loc h2) (soundE e C _ X W O.toCtxOk h3).1 (sw_false hw) (O.fnok y h2)) fun D σ H q => asg_core q
theorem t_unp (l : List Nat) (m : Md) (e : Ex) : SoundS G cl k (.unp l m e) := fun C st X W O h => by
  unfold isS at h
  cases st <;> try cases h
  rename_i ts x pos
  rcases ts with _ | ⟨t, _ | ⟨t2, ts⟩⟩ <;> try (first | cases h | (cases t <;> cases h; done))
  cases t <;> try cases h
  rename_i es kk p2
  simp only [Bool.and_eq_true, Bool.not_eq_true'] at h
  obtain ⟨⟨⟨hh, h1⟩, h2⟩, h3⟩ := h
  refine PS_weak (ps_asg (soundE e C x X W O.toCtxOk h2).1 (pg_ok O.toCtxOk hh (t := .tp l) h1) (show swapsWithSole [.Tuple es kk p2] x pos.line X.env = pure false from sw_tup (es := es) (kk := kk) (p := p2) (l := pos.line) (env := X.env)) (st_tup (by rw [tgN_len h1]; exact h3)) rfl) fun D σ H q => ?_
  obtain ⟨r, F, F0, H0, R, post⟩ := q
  rw [sx] at post
  obtain ⟨F1, _, R1⟩ := RelS.frz m.fz R
  refine useM R post fun v u F' H' R2 iv hh _ post2 => ?_
  obtain ⟨F2, _, R3, rp⟩ := R1.asData R2 hh iv
  cases e1 : tgs Cell.val (.tp l) v.d (frz r m.fz) with
  | none => rw [e1] at post2; exact False.elim post2
  | some r2 =>
    rw [e1] at post2
    exact gT_run R3.g.fh rp e1 fun σ' tv => (show ∀ σ F H, RelS X.K F0 H0 F H r2 σ → D.nx σ H from post2) σ' F2 H' (R3.tgs rp e1 tv)
theorem sws_two {x y : Str} {px py pt pt2 : Pos} {kt k2 : Nat} {a b : Expr} {env : Env} (hb : env.scope.kind = .function) (hx : env.scope.names.lookup x = some .local) (hy : env.scope.names.lookup y = some .local) (hl : px.line = py.line) (hne : x ≠ y)
    (sa : okX a = true) (sb : okX b = true) (f1 : (foldedForSure 8 a && foldedForSure 8 b) = false) (f2 : (constantsAlone 8 a && constantsAlone 8 b) = false) : swappedStores [.Tuple [.Name x px, .Name y py] kt pt] (.Tuple [a, b] k2 pt2) env = pure (some [x, y]) := by
  have kx : env.kindOf x = some .local := hx
  have ky : env.kindOf y = some .local := hy
  have bk : env.blockKind = .function := by unfold Env.blockKind; rw [hb]; rfl
  have e1 : ([a, b].all (foldedForSure 8)) = false := by simpa using f1
  have e2 : ([a, b].all (constantsAlone 8)) = false := by simpa using f2
  have dd : ([x, y] : List Str).eraseDups = [x, y] := by
    have q : (x == y) = false := by simpa using hne
    have q2 : (y == x) = false := by simpa using Ne.symm hne
    simp [List.eraseDups, List.eraseDupsBy, List.eraseDupsBy.loop, q, q2]
  unfold swappedStores
  simp only [e1, e2, List.any_cons, List.any_nil, bk, kx, ky, hl, List.head?_cons, Option.map_some, Option.getD_some, Expr.pos, List.filterMap_cons, List.filterMap_nil, List.length_cons, List.length_nil, beq_self_eq_true, Bool.and_self, if_true, dd, Bool.or_false, bne_self_eq_false, Bool.or_self]
  rw [if_neg (by decide), if_neg]
  · rfl
  · rw [Bool.or_eq_true]
    rintro (z | z)
    · cases a <;> first | (cases sa; done) | cases z
    · cases b <;> first | (cases sb; done) | cases z

theorem t_par2 (i j : Nat) (m : Md) (es : Exs) : SoundS G cl k (.par2 i j m es) := fun C st X W O h => by
  unfold isS at h
  split at h
  case h_2 => cases h
  rename_i y py z pz kk p2 a b k2 p3 pos
  simp only [Bool.and_eq_true, decide_eq_true_eq, Bool.not_eq_true'] at h
  obtain ⟨⟨⟨⟨⟨⟨⟨⟨⟨⟨⟨hh, h1⟩, h2⟩, h3⟩, h4⟩, h5⟩, h6⟩, h7⟩, h8⟩, h9⟩, h10⟩, h11⟩ := h
  have hx : X.N[i]? = some y := by rw [O.nN]; exact h1
  have hy : X.N[j]? = some z := by rw [O.nN]; exact h2
  have lx : X.env.scope.names.lookup y = some .local := (O.sr y _ h4).elim id fun q => by cases q.1
  have ly : X.env.scope.names.lookup z = some .local := (O.sr z _ h5).elim id fun q => by cases q.1
  have ne : y ≠ z := fun q => by
    subst q
    obtain ⟨l1, e1⟩ := (List.getElem?_eq_some_iff.mp hx)
    obtain ⟨l2, e2⟩ := (List.getElem?_eq_some_iff.mp hy)
    rcases Nat.lt_or_gt_of_ne h3 with q | q
    · exact List.pairwise_iff_getElem.mp O.nd i j l1 l2 q (e1.trans e2.symm)
    · exact List.pairwise_iff_getElem.mp O.nd j i l2 l1 q (e2.trans e1.symm)
  refine PS_weak (ps_par (O.calm hh) O.nd hx hy h3 lx ly (soundL es C _ X W O.toCtxOk h7).1 (sws_two O.kind lx ly h6 ne h8 h9 h10 h11) (show swapsWithSole [.Tuple [.Name y py, .Name z pz] kk p2] (.Tuple [a, b] k2 p3) pos.line X.env = pure false from sw_tup (x := .Tuple [a, b] k2 p3) (es := [.Name y py, .Name z pz]) (kk := kk) (p := p2) (l := pos.line) (env := X.env))) fun D σ H q => ?_
  obtain ⟨r, F, F0, H0, R, post⟩ := q
  rw [sx] at post
  refine useMs (kk := fun ds r' => if ds.length = 2 then .nx (setAll Cell.val [i, j] ds r') else .fail) R post fun ds vs F' H' R2 rs post2 => ?_
  by_cases hl : ds.length = 2
  · rw [if_pos hl] at post2
    have hv : vs.length = 2 := by rw [← rs.len]; exact hl
    rcases vs with _ | ⟨v, _ | ⟨w, _ | ⟨_, _⟩⟩⟩ <;> simp at hv
    exact ⟨v, w, rfl, (show ∀ σ F H, RelS X.K F0 H0 F H _ σ → D.nx σ H from post2) _ F' H' (RelS.setAll [i, j] R2 rs)⟩
  · rw [if_neg hl] at post2
    exact False.elim post2
theorem c_vis (O : CtxOk X C W G cl k) {i : Nat} {y : Str} {py : Pos} (h1 : C.N[i]? = some y) (h2 : C.vis y = true) (h3 : okName y = true) : PE X (.Name y py) (tVar i) := by
  obtain ⟨a, b, _⟩ := okName_ok h3
  exact pe_var (by rw [O.nN]; exact h1) (O.vis h2) a b
theorem t_setix (i : Nat) (m : Md) (kx e : Ex) : SoundS G cl k (.setix i m kx e) := fun C st X W O h => by
  unfold isS at h
  split at h
  case h_2 => cases h
  rename_i y py ix p2 x pos
  simp only [Bool.and_eq_true, decide_eq_true_eq] at h
  obtain ⟨⟨⟨⟨⟨h1, h2⟩, h3⟩, h4⟩, h5⟩, h6⟩ := h
  refine PS_weak (ps_asg (soundE e C x X W O.toCtxOk h6).1 (pg_sub (c_vis O.toCtxOk h1 h2 h3) (soundE kx C ix X W O.toCtxOk h4).1 set_list (by intro v; cases ix <;> first | rfl | cases h5)) (show swapsWithSole [.Subscript (.Name y py) ix p2] x pos.line X.env = pure false from sw_sub (x := x) (o := .Name y py) (i := ix) (p := p2) (l := pos.line) (env := X.env)) st_sub rfl) fun D σ H q => ?_
  obtain ⟨r, F, F0, H0, R, post⟩ := q
  rw [sx] at post
  obtain ⟨F1, _, R1⟩ := RelS.frz m.fz R
  refine useM R post fun v u F' H' R2 iv hh _ post2 => ?_
  obtain ⟨F2, _, R3, rp⟩ := R1.asData R2 hh iv
  show tVar i σ H' _
  cases e1 : (frz r m.fz)[i]? with
  | none => rw [e1] at post2; exact False.elim post2
  | some cc =>
    rw [e1] at post2
    cases cc with
    | no => exact False.elim post2
    | val d => exact False.elim post2
    | dic l => exact False.elim post2
    | own l =>
      obtain ⟨a, vs, g1, g2, g3, g4, g5⟩ := R3.own i l e1
      refine ⟨_, g1, ?_⟩
      refine useM R3 post2 fun kd w F3 H3 R4 iv3 hh3 sF post3 => ?_
      obtain ⟨a', ws, q1, q2, q3, q4, q5⟩ := R4.own i l e1
      rw [g1] at q1
      cases q1
      cases kd with
      | own l2 => exact False.elim post3
      | val kd =>
        cases kd <;> try exact False.elim post3
        rename_i z
        cases iv3
        have post3 : PostS X.K W cl F0 H0 (match ixN l.length z with
          | some j => .nx ((frz r m.fz).set i (.own (l.set j v.d)))
          | none => .fail) D := post3
        cases e3 : ixN l.length z with
        | none => rw [e3] at post3; exact False.elim post3
        | some j =>
          rw [e3] at post3
          exact ⟨_, ws, z, j, rfl, rfl, q4, by rw [← q5.len]; exact e3, (show ∀ σ F H, RelS X.K F0 H0 F H _ σ → D.nx σ H from post3) _ F3 _ (R4.poke e1 g1 (Rps.set (Rp.mono sF _ _ rp) j q5))⟩
theorem t_app (i : Nat) (m : Md) (e : Ex) : SoundS G cl k (.app i m e) := fun C st X W O h => by
  unfold isS at h
  cases st <;> try cases h
  rename_i x pos
  cases x <;> try cases h
  rename_i fn as ks cp
  cases fn <;> try cases h
  rename_i o f ap
  cases o <;> try cases h
  rename_i y py
  rcases as with _ | ⟨x, _ | ⟨x2, as⟩⟩ <;> try cases h
  cases ks <;> try cases h
  simp only [Bool.and_eq_true, decide_eq_true_eq] at h
  obtain ⟨⟨⟨⟨⟨⟨rfl, h1⟩, h2⟩, h3⟩, h4⟩, h5⟩, h6⟩ := h
  have st1 : starEach [x] X.env = (false, eval x X.env) :: starEach [] X.env := star_ok h5
  refine PS_weak (ps_expr (pe_bm PySem.F.plainAttrs_list PySem.F.slot_list_append PySem.F.type_list_append mt_append (c_vis O.toCtxOk h1 h2 h3) (pa_cons (soundE e C x X W O.toCtxOk h4).1 pa_nil st1) rfl (by rw [st1]; rfl) h6 st1 rfl) rfl) fun D σ H q => ?_
  obtain ⟨r, F, F0, H0, R, post⟩ := q
  rw [sx] at post
  obtain ⟨F1, _, R1⟩ := RelS.frz m.fz R
  cases e1 : (frz r m.fz)[i]? with
  | none => rw [e1] at post; exact False.elim post
  | some cc =>
  rw [e1] at post
  cases cc with
  | no => exact False.elim post
  | val d => exact False.elim post
  | dic l => exact False.elim post
  | own l =>
  obtain ⟨a, vs, g1, g2, g3, g4, g5⟩ := R1.own i l e1
  refine ⟨_, g1, .inl ⟨rfl, vs, .inl (.inl g4)⟩, ?_⟩
  refine useM R post fun v u F' H' R2 iv hh _ post2 => ?_
  obtain ⟨F2, _, R3, rp⟩ := R1.asData R2 hh iv
  obtain ⟨a', ws, q1, q2, q3, q4, q5⟩ := R3.own i l e1
  rw [g1] at q1
  cases q1
  by_cases hl : l.length < 16777216
  · have post2 : PostS X.K W cl F0 H0 (if l.length < 16777216 then .nx ((frz r m.fz).set i (.own (l ++ [v.d]))) else .fail) D := post2
    rw [if_pos hl] at post2
    refine ⟨_, ws, u, rfl, rfl, q4, by rw [← q5.len, sizeLine_eq]; exact hl, (show ∀ σ F H, RelS X.K F0 H0 F H _ σ → D.nx σ H from post2) _ F2 _ (R3.poke e1 g1 (q5.app (.cons rp .nil)))⟩
  · have post2 : PostS X.K W cl F0 H0 (if l.length < 16777216 then .nx ((frz r m.fz).set i (.own (l ++ [v.d]))) else .fail) D := post2
    rw [if_neg hl] at post2
    exact False.elim post2
end
end PX

/-! PX14: statements, their soundness. -/
namespace PX
open PySem PySem.Spec PyProof.Rows L2
section
variable {G : Gd} {cl : Nat → Value} {k : Nat} {X : Cx} {C : Chk} {W : WX}
theorem t_aug (i : Nat) (o : Bop) (e : Ex) : SoundS G cl k (.aug i o e) := fun C st X W O h => by
  unfold isS at h
  split at h
  case h_2 => cases h
  rename_i y py p x pos
  simp only [Bool.and_eq_true, decide_eq_true_eq] at h
  obtain ⟨⟨⟨⟨h1, h2⟩, rfl⟩, h3⟩, h4⟩ := h
  have np : o ≠ .pow := fun z => by subst z; cases h3
  refine PS_weak (ps_aug O.nd (by rw [O.nN]; exact h1) (O.loc h2) (soundE e C x X W O.toCtxOk h4).1 (iop_bop o) (O.fnok y h2)) fun D σ H q => ?_
  obtain ⟨r, F, F0, H0, R, post⟩ := q
  rw [sx] at post
  cases e1 : r[i]? with
  | none => rw [e1] at post; exact False.elim post
  | some cc =>
    rw [e1] at post
    cases cc with
    | no => exact False.elim post
    | own l => exact False.elim post
    | dic l => exact False.elim post
    | val d =>
      obtain ⟨v, g1, g2⟩ := R.val i d e1
      refine ⟨v, g1, ?_⟩
      refine useM R post fun b u F' H' R2 iv hh sF post2 => ?_
      obtain ⟨F2, s2, R3, rp⟩ := R.asData R2 hh iv
      have post2 : PostS X.K W cl F0 H0 (match bop o d b.d with
        | some (.val z) => if tupD z = true then .fail else .nx (r.set i (.val z))
        | _ => .fail) D := post2
      cases e2 : bop o d b.d with
      | none => rw [e2] at post2; exact False.elim post2
      | some zz =>
        rw [e2] at post2
        cases zz with
        | own l => exact False.elim post2
        | val z =>
          have post2 : PostS X.K W cl F0 H0 (if tupD z = true then .fail else .nx (r.set i (.val z))) D := post2
          by_cases ht : tupD z = true
          · rw [if_pos ht] at post2; exact False.elim post2
          · rw [if_neg ht] at post2
            have post2 : ∀ σ F H, RelS X.K F0 H0 F H (r.set i (.val z)) σ → D.nx σ H := post2
            refine ⟨F2, d, b.d, R3.g.fh, Rp.mono (sF.trans s2) _ _ g2, rp, z, e2, fun xs q => ht (by rw [q]; rfl), ?_, np⟩
            exact fun w F4 H4 g4 rw4 => post2 _ F4 H4 ((R3.grow g4).setval rw4)
theorem t_ret (m : Md) (e : Ex) : SoundS G cl k (.ret m e) := fun C st X W O h => by
  unfold isS at h
  split at h
  case h_2 => cases h
  refine PS_weak (ps_ret (soundE e C _ X W O.toCtxOk h).1) fun D σ H q => ?_
  obtain ⟨r, F, F0, H0, R, post⟩ := q
  rw [sx] at post
  obtain ⟨F1, _, R1⟩ := RelS.frz m.fz R
  refine useM R post fun v u F' H' R2 iv hh _ post2 => ?_
  have post2 : PV X.K D.rt v F0 H0 := post2
  cases v with
  | val d => exact post2 u F' H' R2.g iv
  | own l =>
    obtain ⟨a, vs, rfl, n1, n2, e, rs⟩ := iv
    exact post2 a vs F' H' R2.g (Same.free R1.g.hh n1) n2 e rs
theorem t_reto (i : Nat) : SoundS G cl k (.reto i) := fun C st X W O h => by
  unfold isS at h
  split at h
  case h_2 => cases h
  simp only [Bool.and_eq_true, decide_eq_true_eq] at h
  refine PS_weak (ps_ret (c_vis O.toCtxOk h.1.1 h.1.2 h.2)) fun D σ H q => ?_
  obtain ⟨r, F, F0, H0, R, post⟩ := q
  rw [sx] at post
  cases e1 : r[i]? with
  | none => rw [e1] at post; exact False.elim post
  | some cc =>
    rw [e1] at post
    cases cc with
    | no => exact False.elim post
    | val d => exact False.elim post
    | dic l => exact False.elim post
    | own l =>
      obtain ⟨a, vs, g1, g2, g3, g4, g5⟩ := R.own i l e1
      exact ⟨_, g1, (show PV X.K D.rt (.own l) F0 H0 from post) a vs F H R.g g3 g2 g4 g5⟩
theorem t_retn : SoundS G cl k .retn := fun C st X W O h => by
  unfold isS at h
  split at h
  case h_2 => cases h
  refine PS_weak ps_retN fun D σ H q => ?_
  obtain ⟨r, F, F0, H0, R, post⟩ := q
  rw [sx] at post
  exact (show PV X.K D.rt (.val .none) F0 H0 from post) .non F H R.g .non
theorem t_drop (m : Md) (e : Ex) : SoundS G cl k (.drop m e) := fun C st X W O h => by
  unfold isS at h
  split at h
  case h_2 => cases h
  simp only [Bool.and_eq_true, Bool.not_eq_true'] at h
  refine PS_weak (ps_expr (soundE e C _ X W O.toCtxOk h.1).1 (sw_not h.2)) fun D σ H q => ?_
  obtain ⟨r, F, F0, H0, R, post⟩ := q
  rw [sx] at post
  refine useM R post fun v u F' H' R2 iv hh _ post2 => ?_
  exact (show ∀ σ F H, RelS X.K F0 H0 F H (frz r m.fz) σ → D.nx σ H from post2) σ F' H' R2
theorem t_pass : SoundS G cl k .pass := fun C st X W O h => by
  unfold isS at h
  have go : PS X st tNext := by
    cases st <;> try cases h
    · rename_i x pos
      cases x <;> try cases h
      rename_i c kk p
      cases c <;> first | exact ps_doc | cases h
    · exact ps_pass
  refine PS_weak go fun D σ H q => ?_
  obtain ⟨r, F, F0, H0, R, post⟩ := q
  rw [sx] at post
  exact (show ∀ σ F H, RelS X.K F0 H0 F H r σ → D.nx σ H from post) σ F H R
theorem t_brk : SoundS G cl k .brk := fun C st X W O h => by
  unfold isS at h
  split at h
  case h_2 => cases h
  refine PS_weak ps_break fun D σ H q => ?_
  obtain ⟨r, F, F0, H0, R, post⟩ := q
  rw [sx] at post
  exact (show ∀ σ F H, RelS X.K F0 H0 F H r σ → D.bk σ H from post) σ F H R
theorem t_cnt : SoundS G cl k .cnt := fun C st X W O h => by
  unfold isS at h
  split at h
  case h_2 => cases h
  refine PS_weak ps_continue fun D σ H q => ?_
  obtain ⟨r, F, F0, H0, R, post⟩ := q
  rw [sx] at post
  exact (show ∀ σ F H, RelS X.K F0 H0 F H r σ → D.ct σ H from post) σ F H R
theorem t_rais (c : Nat) : SoundS G cl k (.rais c) := fun C st X W O h => by
  unfold isS at h
  split at h
  case h_2 => cases h
  simp only [Bool.and_eq_true, decide_eq_true_eq, Bool.not_eq_true'] at h
  obtain ⟨⟨⟨⟨hh, h9⟩, hc⟩, hg⟩, hq⟩ := h
  obtain ⟨h1, h2, _⟩ := okName_ok hq.1
  obtain ⟨Ca, gC, kC, rs, e1, x9⟩ := O.exc c _ hc (by simpa using hq.2)
  obtain ⟨bmB, B, nid, iid, fF, fq⟩ := x9 h9
  refine PS_weak (L2N.ps_raise (O.calm hh) O.tk (L2N.pmk_own fF fq gC kC rs (O.gl hg) h1)) fun D σ H q => ?_
  obtain ⟨r, F, F0, H0, R, post⟩ := q
  rw [sx] at post
  have post : ∀ σ F H, RelS X.K F0 H0 F H r σ → ∀ d, Pay c F d → W (cl (c % 16)) d σ H := post
  rw [Nat.mod_eq_of_lt (show c < 16 by omega), e1] at post
  exact post σ F H R none (Pay.small (by omega))
theorem t_raisp (c : Nat) (e : Ex) : SoundS G cl k (.raisp c e) := fun C st X W O h => by
  unfold isS at h
  split at h
  case h_2 => cases h
  rename_i x p1 y p2 p3
  simp only [Bool.and_eq_true, decide_eq_true_eq, Bool.not_eq_true', Bool.or_eq_true] at h
  obtain ⟨⟨⟨⟨⟨⟨hh, h9⟩, hc⟩, hg⟩, hq⟩, he⟩, hx⟩ := h
  obtain ⟨h1, h2, _⟩ := okName_ok hq.1
  have hne : x ≠ ("" : Str) := by simpa using hq.2
  obtain ⟨Ca, gC, kC, rs, e1, _⟩ := O.exc c _ hc hne
  obtain ⟨Cb, fI, fd, j, e2, T, iC, tI, hj, F1, bnd⟩ := O.exi c _ hc hne h9 hh
  rw [e1] at e2
  cases e2
  have hA : PA X [y] (tCons (canE X.K W cl (ev G e)) tNil) := pa_cons (soundE e C y X W O.toCtxOk he).1 pa_nil (star_ok hx)
  refine PS_weak (L2N.ps_raise (O.calm hh) O.tk (PXI.pmk_oexN T iC tI F1 ((O.room hh).mono hj) bnd (O.gl hg) gC hA h1 (star_ok hx) rfl)) fun D σ H q => ?_
  obtain ⟨r, F, F0, H0, R, post⟩ := q
  rw [sx] at post
  refine useM (m := ⟨[], false⟩) R post fun v u F' H' R2 iv hh2 _ post2 => ?_
  cases v with
  | own l => exact False.elim post2
  | val d =>
    cases d <;> try exact False.elim post2
    rename_i z
    cases iv
    have post2 : PostS X.K W cl F0 H0 (if 0 ≤ z then .exc (c + 16 * (z.toNat + 1)) r else .fail) D := post2
    by_cases hz : 0 ≤ z
    · rw [if_pos hz] at post2
      refine ⟨by show (1 : Nat) ≤ 1000; omega, fun a ha => ⟨rfl, a, z, rfl, upd_same, fun dx hd ne => ⟨rfl, dx, [("place", .int z)], upd_same, ?_, ?_, ?_⟩⟩⟩
      · rw [upd_ne ne, upd_same]
      · rw [upd_ne ne] at hd; exact hd
      · have hdx : H' dx = none := by rw [upd_ne ne] at hd; exact hd
        have eH : upd (del (upd (upd (upd H' a (exo a Ca none)) dx (exd dx [("place", .int z)])) a (exo a Ca (some dx))) a) dx (.xd [("place", .int z)]) = upd H' dx (.xd [("place", .int z)]) := by
          funext b
          by_cases hb : b = dx
          · rw [hb, upd_same, upd_same]
          · rw [upd_ne hb, upd_ne hb]
            by_cases hb2 : b = a
            · rw [hb2, del_same, ha]
            · rw [del_ne hb2, upd_ne hb2, upd_ne hb, upd_ne hb2]
        rw [eH]
        have gn := Grow.new (o := .xd [("place", .int z)]) R2.g.fh hdx
        have ec : (c + 16 * (z.toNat + 1)) % 16 = c := by omega
        have post3 : ∀ σ F H, RelS X.K F0 H0 F H r σ → ∀ d, Pay (c + 16 * (z.toNat + 1)) F d → W (cl ((c + 16 * (z.toNat + 1)) % 16)) d σ H := post2
        rw [ec, e1] at post3
        refine post3 σ _ _ (R2.grow gn) (some dx) (.inr ⟨by omega, dx, rfl, ?_⟩)
        rw [upd_same]
        have : (c + 16 * (z.toNat + 1)) / 16 - 1 = z.toNat := by omega
        rw [this, Int.toNat_of_nonneg hz]
    · rw [if_neg hz] at post2
      exact False.elim post2
theorem PSs_weak {e : List Stmt} {t t' : TS} (h : PSs X e t) (w : ∀ D σ H, t' D σ H → t D σ H) : PSs X e t' := ⟨fun pins s σ H D I q => h.run pins s σ H D I (w D σ H q)⟩
theorem PostS.seq {F0 H0 : Hp} {o : Out} {s : CE → Out} {D : Ends} (h : PostS X.K W cl F0 H0 (seqO o s) D) : PostS X.K W cl F0 H0 o { D with nx := canS X.K W cl s D } := by
  cases o with
  | nx r => exact fun σ F H R => ⟨r, F, F0, H0, R, h⟩
  | brk r => exact h
  | cnt r => exact h
  | ret x => exact h
  | exc c r => exact h
  | fail => exact h
theorem b_nil : SoundB G cl k .nil := fun C sts X W O h => by
  unfold isB at h
  split at h
  case h_2 => cases h
  refine PSs_weak pss_nil fun D σ H q => ?_
  obtain ⟨r, F, F0, H0, R, post⟩ := q
  rw [sxs] at post
  exact (show ∀ σ F H, RelS X.K F0 H0 F H r σ → D.nx σ H from post) σ F H R
theorem b_cons {s : Sx} {ss : Sxs} (hs : SoundS G cl k s) (hb : SoundB G cl k ss) : SoundB G cl k (.cons s ss) := fun C sts X W O h => by
  unfold isB at h
  split at h
  case h_2 => cases h
  rw [Bool.and_eq_true] at h
  refine PSs_weak (pss_cons (hs C _ X W O h.1) (hb C _ X W O h.2)) fun D σ H q => ?_
  obtain ⟨r, F, F0, H0, R, post⟩ := q
  rw [sxs] at post
  exact ⟨r, F, F0, H0, R, post.seq⟩
theorem t_ite {a b : Sxs} (c : Ex) (ha : SoundB G cl k a) (hb : SoundB G cl k b) : SoundS G cl k (.ite c a b) := fun C st X W O h => by
  unfold isS at h
  split at h
  case h_2 => cases h
  simp only [Bool.and_eq_true] at h
  refine PS_weak (ps_if (soundE c C _ X W O.toCtxOk h.1.1).2 (ha C _ X W O h.1.2) (hb C _ X W O h.2)) fun D σ H q => ?_
  obtain ⟨r, F, F0, H0, R, post⟩ := q
  rw [sx] at post
  refine useT R post fun t F' H' R2 post2 => ?_
  cases t with
  | true => exact ⟨r, F', F0, H0, R2, post2⟩
  | false => exact ⟨r, F', F0, H0, R2, post2⟩
theorem t_whl {b : Sxs} (c : Ex) (hb : SoundB G cl k b) : SoundS G cl k (.whl c b) := fun C st X W O h => by
  unfold isS at h
  split at h
  case h_2 => cases h
  simp only [Bool.and_eq_true] at h
  refine PS_weak (ps_while O.pass (soundE c C _ X W O.toCtxOk h.1).2 (hb C _ X W O h.2)) fun D σ H q => ?_
  obtain ⟨r, F, F0, H0, R, post⟩ := q
  rw [sx] at post
  unfold whl at post
  split at post
  case isFalse => exact False.elim post
  rename_i hx
  have hc := hx.choose_spec.choose_spec
  refine ⟨fun m σ H => ∃ r F, RelS X.K F0 H0 F H r σ ∧ ∃ o, whN (evB (ev G c)) (sxs G b) m r = some o ∧ PostS X.K W cl F0 H0 o D, ⟨_, r, F, R, _, hc, post⟩, ?_⟩
  rintro m σ1 H1 ⟨r1, F1, R1, o, e1, post1⟩
  cases m with
  | zero => rw [whN] at e1; cases e1
  | succ n =>
    rw [whN] at e1
    refine ⟨r1.map rdB, withOwn F1 H1 r1 σ1, R1.withFH, R1.borrow, ?_⟩
    dsimp only
    unfold evB at e1
    cases e2 : asB (ev G c (r1.map rdB)) with
    | exc x =>
      rw [e2] at e1
      cases (Option.some.inj e1)
      exact fun F' H' g d pay => (show ∀ σ F H, RelS X.K F0 H0 F H r1 σ → ∀ d, Pay x F d → W (cl (x % 16)) d σ H from post1) σ1 _ H' (R1.grow (R1.back g).1) d (R1.payBack g pay)
    | fail =>
      rw [e2] at e1
      cases (Option.some.inj e1)
      exact post1
    | ok t =>
      rw [e2] at e1
      intro F' H' g
      have R2 := R1.grow (R1.back g).1
      cases t with
      | false =>
        cases (Option.some.inj e1)
        exact (show ∀ σ F H, RelS X.K F0 H0 F H r1 σ → D.nx σ H from post1) σ1 _ H' R2
      | true =>
        refine ⟨fun σ H => ∃ r F, RelS X.K F0 H0 F H r σ ∧ ∃ o, whN (evB (ev G c)) (sxs G b) n r = some o ∧ PostS X.K W cl F0 H0 o D, fun σ' H' hN => ⟨n, Nat.lt_succ_self n, hN⟩, r1, _, F0, H0, R2, ?_⟩
        dsimp only at e1
        cases e3 : sxs G b r1 with
        | nx r' => rw [e3] at e1; exact fun σ F H R => ⟨r', F, R, o, e1, post1⟩
        | cnt r' => rw [e3] at e1; exact fun σ F H R => ⟨r', F, R, o, e1, post1⟩
        | brk r' => rw [e3] at e1; cases (Option.some.inj e1); exact post1
        | ret x => rw [e3] at e1; cases (Option.some.inj e1); exact post1
        | exc x r' => rw [e3] at e1; cases (Option.some.inj e1); exact post1
        | fail => rw [e3] at e1; cases (Option.some.inj e1); exact post1
theorem t_for {it : Itx} {b : Sxs} (t : Tg) (fz : List Nat) (hb : SoundB G cl k b) : SoundS G cl k (.for_ t fz it b) := fun C st X W O h => by
  unfold isS at h
  split at h
  case h_2 => cases h
  simp only [Bool.and_eq_true, Bool.not_eq_true'] at h
  obtain ⟨⟨⟨⟨hh, h1⟩, h2⟩, h3⟩, h4⟩ := h
  refine PS_weak (ps_for O.pass (O.calm hh) (soundI it C _ _ X W O.toCtxOk h2) (pg_ok O.toCtxOk hh h1) (hb C _ X W O h3) (fold_ok h4)) fun D σ H q => ?_
  obtain ⟨r, F, F0, H0, R, post⟩ := q
  rw [sx] at post
  obtain ⟨F1, _, R1⟩ := RelS.frz fz R
  refine ⟨(frz r fz).map rdP, F1, R1.g.fh, R1.plain, ?_⟩
  cases e0 : evi G it ((frz r fz).map rdP) with
  | exc c =>
    rw [e0] at post
    exact fun F' H' g => (show ∀ σ F H, RelS X.K F0 H0 F H (frz r fz) σ → ∀ d, Pay c F d → W (cl (c % 16)) d σ H from post) σ _ H' (R1.grow g)
  | fail => rw [e0] at post; exact post
  | ok ds =>
    rw [e0] at post
    intro J FJ HJ g wk
    obtain ⟨u, R2⟩ := (R1.grow g).upB
    have post2 := PostS.up u post
    refine ⟨fun i m σ H => m = ds.length - i ∧ i ≤ ds.length ∧ ∃ r F, RelS X.K FJ H0 F H r σ ∧ PostS X.K W cl FJ H0 (forL (fun d r' => match tgs Cell.val t d r' with
      | some r2 => sxs G b r2
      | none => .fail) (ds.drop i) r) D, ⟨ds.length, rfl, Nat.zero_le _, _, _, R2, post2⟩, ?_⟩
    rintro i m σ' H' ⟨rfl, hi, r', F', R3, post3⟩
    obtain ⟨w1, w2⟩ := wk F' H' i R3.g.ff R3.g.fh
    by_cases hlt : i < ds.length
    · have ed : ds[i]? = some ds[i] := List.getElem?_eq_getElem hlt
      rw [List.drop_eq_getElem_cons hlt, forL] at post3
      obtain ⟨go, yl⟩ := w1 _ ed
      refine .inr ⟨go, fun σ H => ∃ r F, RelS X.K FJ H0 F H r σ ∧ PostS X.K W cl FJ H0 (forL (fun d r' => match tgs Cell.val t d r' with
        | some r2 => sxs G b r2
        | none => .fail) (ds.drop (i + 1)) r) D, fun σ' H' hN => ⟨ds.length - (i + 1), by omega, rfl, hlt, hN⟩, fun x H2 y => ?_⟩
      obtain ⟨F2, g3, rp⟩ := yl x H2 y
      have R4 := R3.grow g3
      cases e5 : tgs Cell.val t ds[i] r' with
      | none =>
        rw [e5] at post3
        exact False.elim post3
      | some r2 =>
        rw [e5] at post3
        refine gT_run R4.g.fh rp e5 fun σ2 tv => ⟨r2, F2, FJ, H0, R4.tgs rp e5 tv, ?_⟩
        dsimp only at post3
        cases e6 : sxs G b r2 with
        | nx r3 => rw [e6] at post3; exact fun σ F H R => ⟨r3, F, R, post3⟩
        | cnt r3 => rw [e6] at post3; exact fun σ F H R => ⟨r3, F, R, post3⟩
        | brk r3 => rw [e6] at post3; exact post3
        | ret x => rw [e6] at post3; exact post3
        | exc x r3 => rw [e6] at post3; exact post3
        | fail => rw [e6] at post3; exact post3
    · have e : i = ds.length := by omega
      subst e
      rw [List.drop_length, forL] at post3
      exact .inl ⟨w2 (Nat.le_refl _), (show ∀ σ F H, RelS X.K FJ H0 F H r' σ → D.nx σ H from post3) σ' F' H' R3⟩
/-! ### try -/
theorem RelS.setno {K : PySem.W.Frag} {F0 H0 F H : Hp} {r : CE} {σ : L2.St} (R : RelS K F0 H0 F H r σ) (i : Nat) : RelS K F0 H0 F H (r.set i .no) (σ.set i none) where
  g := R.g
  len := by rw [List.length_set, List.length_set]; exact R.len
  val := fun j d e => by
    rcases set_get e with ⟨_, _, q⟩ | ⟨hj, q⟩
    · cases q
    · obtain ⟨u, a, b⟩ := R.val j d q
      exact ⟨u, by rw [List.getElem?_set_ne hj]; exact a, b⟩
  own := fun j l e => by
    rcases set_get e with ⟨_, _, q⟩ | ⟨hj, q⟩
    · cases q
    · obtain ⟨a, vs, h1, h2⟩ := R.own j l q
      exact ⟨a, vs, by rw [List.getElem?_set_ne hj]; exact h1, h2⟩
  ap := fun p q l m a e1 e2 s1 s2 => by
    rcases set_get e1 with ⟨_, _, z⟩ | ⟨hp, z1⟩
    · cases z
    · rcases set_get e2 with ⟨_, _, z⟩ | ⟨hq, z2⟩
      · cases z
      · rw [List.getElem?_set_ne hp] at s1
        rw [List.getElem?_set_ne hq] at s2
        exact R.ap p q l m a z1 z2 s1 s2
  dic := fun j l e => by
    rcases set_get e with ⟨_, _, q⟩ | ⟨hj, q⟩
    · cases q
    · obtain ⟨a, h1, h2⟩ := R.dic j l q
      exact ⟨a, by rw [List.getElem?_set_ne hj]; exact h1, h2⟩
  apd := fun p q l m a e1 e2 s1 s2 => by
    rcases set_get e1 with ⟨_, _, z⟩ | ⟨hp, z1⟩
    · cases z
    · rcases set_get e2 with ⟨_, _, z⟩ | ⟨hq, z2⟩
      · cases z
      · rw [List.getElem?_set_ne hp] at s1
        rw [List.getElem?_set_ne hq] at s2
        exact R.apd p q l m a z1 z2 s1 s2
theorem allA_at (f : Tk → Out) : allA f = .fail ∨ ∀ a, f a = allA f := by
  unfold allA
  by_cases h : ∃ o, ∀ a, f a = o
  · rw [dif_pos h]
    exact .inr h.choose_spec
  · rw [dif_neg h]
    exact .inl rfl
theorem pss_ex {ι : Type} {X : Cx} {sts : List Stmt} {p : ι → Prop} {t : ι → TS} (h : ∀ c, p c → PSs X sts (t c)) : PSs X sts (fun D σ H => ∃ c, p c ∧ t c D σ H) := ⟨fun pins s σ H D I ⟨c, hc, q⟩ => (h c hc).run pins s σ H D I q⟩
theorem CtxOkS.tr (O : CtxOkS X C W G cl k) (hh : C.hot = false) {W' : WX} {pn : List (Addr × Obj)} {xe : Value → Shared → Prop} (tk : L2N.Takes (X.tr pn xe) W') (ps : PassesOwn (model X.prog X.w) X.A X.env xe) : CtxOkS (X.tr pn xe) C W' G cl k where
  calm := O.calm
  nd := O.nd
  nN := O.nN
  kind := O.kind
  sr := O.sr
  fnok := O.fnok
  room := O.room
  roomh := O.roomh
  hotx := fun z => absurd (hh.symm.trans z) Bool.false_ne_true
  tk := tk
  pass := ps
  blt := O.blt
  con := O.con
  exc := O.exc
  tab := O.tab
  kfns := O.kfns
  exi := O.exi
  cls := O.cls
  hfn := O.hfn
  fns := O.fns
  stk := O.stk
  frm := O.frm
theorem CtxOkS.suite (O : CtxOkS X C W G cl k) {c : Nat} {a : Tk} {x : Str} {oe : Obj} {pn : List (Addr × Obj)} (e : C.exc[c % 16]? = some x) (hx : x ≠ ("" : Str)) (hz : L2N.Zn (cl (c % 16)) (dOf c a) oe) (hf : ∃ vs, oe.data = .fields vs) : CtxOkS (X.suite a.1 ((a.1, oe) :: pn)) { C with hot := true } (fun _ _ _ _ => False) (G.seth c a) cl k where
  calm := fun z => absurd (show true = false from z) (by decide)
  nd := O.nd
  nN := O.nN
  kind := O.kind
  sr := O.sr
  fnok := O.fnok
  room := fun z => absurd (show true = false from z) (by decide)
  roomh := ⟨O.roomh.dp, O.roomh.un⟩
  hotx := fun _ => by
    obtain ⟨D, h1, h2⟩ := O.cls.own (c % 16) x e hx
    exact ⟨c, a, D, oe, rfl, List.mem_cons_self, by rw [← h1]; exact hz, hf, rfl, h1, h2, x, e, hx⟩
  tk := takes0N
  pass := PassesOwn.never
  blt := O.blt
  con := O.con
  exc := O.exc
  tab := O.tab
  kfns := O.kfns
  exi := fun n x e hx h z => absurd (show true = false from z) (by decide)
  cls := O.cls
  hfn := O.hfn
  fns := O.fns
  stk := O.stk
  frm := O.frm
theorem post_un {K : PySem.W.Frag} {F0 H0 : Hp} {i : Nat} {D : Ends} {o : Out} (h : PostS K W cl F0 H0 (unE (some i) o) D) : PostS K (fun _ _ _ _ => False) cl F0 H0 o { nx := fun σ' H' => D.nx (σ'.set i none) H', rt := D.rt, bk := fun σ' H' => D.bk (σ'.set i none) H', ct := fun σ' H' => D.ct (σ'.set i none) H' } := by
  cases o with
  | nx r => exact fun σ F H R => (show ∀ σ F H, RelS K F0 H0 F H (r.set i .no) σ → D.nx σ H from h) _ _ _ (R.setno i)
  | brk r => exact fun σ F H R => (show ∀ σ F H, RelS K F0 H0 F H (r.set i .no) σ → D.bk σ H from h) _ _ _ (R.setno i)
  | cnt r => exact fun σ F H R => (show ∀ σ F H, RelS K F0 H0 F H (r.set i .no) σ → D.ct σ H from h) _ _ _ (R.setno i)
  | ret x => exact h
  | exc c r => exact False.elim h
  | fail => exact h
theorem post_un0 {K : PySem.W.Frag} {F0 H0 : Hp} {D : Ends} {o : Out} (h : PostS K W cl F0 H0 (unE none o) D) : PostS K (fun _ _ _ _ => False) cl F0 H0 o D := by
  cases o with
  | exc c r => exact False.elim h
  | _ => exact h
theorem pay_tok {K : PySem.W.Frag} {F : Hp} {c : Nat} {d : Option Addr} (pay : Pay c F d) (a : Addr) : ∃ dd : Addr, d = dOf c (a, dd) ∧ Rp K F (tok c (a, dd)) (.ref a) := by
  unfold dOf tok
  rcases pay with ⟨h, e⟩ | ⟨h, dd, e, hF⟩
  · refine ⟨0, ?_, ?_⟩
    · rw [if_pos h]; exact e
    · rw [if_pos h]; exact .exn
  · refine ⟨dd, ?_, ?_⟩
    · rw [if_neg (by omega)]; exact e
    · rw [if_neg (by omega)]; exact .exp hF
theorem t_try (i : Option Nat) (cs al : List Nat) {b s e : Sxs} (hb : SoundB G cl k b) (hs : ∀ (c : Nat) (a : Tk), SoundB (G.seth c a) cl k s) : SoundS G cl k (.try_ i cs al b s e) := fun C st X W O h => by
  unfold isS at h
  split at h
  case h_2 => cases h
  rename_i body x np nm b₀ suite pos' els pos
  simp only [Bool.and_eq_true, Bool.not_eq_true', List.all_eq_true] at h
  obtain ⟨⟨⟨⟨⟨⟨⟨hh, h1⟩, h2⟩, h3⟩, h4⟩, h5⟩, h6⟩, h7⟩ := h
  cases els with
  | cons _ _ => cases h4
  | nil =>
  cases e with
  | cons _ _ => unfold isB at h3; cases h3
  | nil =>
  rcases cs with _ | ⟨c0, _ | ⟨_, _⟩⟩
  · cases h6
  case cons.cons => cases h6
  simp only [Bool.and_eq_true, decide_eq_true_eq] at h6
  obtain ⟨c1, hc⟩ := h6
  unfold isCls at hc
  rw [if_neg c1] at hc
  simp only [Bool.and_eq_true, decide_eq_true_eq, Bool.not_eq_true', beq_eq_false_iff_ne, ne_eq] at hc
  obtain ⟨⟨e0, g0⟩, n0, x0⟩ := hc
  obtain ⟨n1, _, _⟩ := okName_ok n0
  obtain ⟨Ca, gC, kC, rs, ec, _⟩ := O.exc c0 _ e0 x0
  have nms : Names X x (.ref Ca) := ⟨O.gl g0, n1, .inl gC⟩
  have alOk : ∀ c ∈ al, ∃ y, C.exc[c]? = some y ∧ y ≠ ("" : Str) := fun c hc => by
    have := h5 c hc
    cases q : C.exc[c]? with
    | none => rw [q] at this; cases this
    | some y =>
      rw [q] at this
      exact ⟨y, rfl, by simpa using this⟩
  have exm : ∀ c ∈ al, PySem.W.exmOne X.K (cl c) (.ref Ca) = some (subC c c0) := fun c hc => by
    obtain ⟨y, e1, y0⟩ := alOk c hc
    exact O.cls.exm c c0 Ca y x e1 y0 e0 x0 ec
  have cat : ∀ c, catches c [c0] = subC (c % 16) c0 := fun c => by
    unfold catches
    simp
  have su : ∀ (a : Addr) (oe : Obj) (cls : Value) (d : Option Addr) (pn : List (Addr × Obj)), L2N.Zn cls d oe → (∃ vs, oe.data = .fields vs) → PSs (X.suite a ((a, oe) :: pn)) (b₀ :: suite) (fun D σ H => ∃ z : Nat × Addr, (cl (z.1 % 16) = cls ∧ d = dOf z.1 (a, z.2) ∧ z.1 % 16 ∈ al) ∧ canS X.K (fun _ _ _ _ => False) cl (sxs (G.seth z.1 (a, z.2)) s) D σ H) := fun a oe cls d pn hz hf => by
    refine pss_ex fun z ⟨q1, q2, q3⟩ => ?_
    subst q1 q2
    obtain ⟨y, e1, y0⟩ := alOk (z.1 % 16) q3
    exact hs z.1 (a, z.2) { C with hot := true } _ _ _ (O.suite (a := (a, z.2)) e1 y0 hz hf) h2
  -- what the try's end asks of the body's end
  have ends : ∀ {F0 H0 : Hp} {r : CE} {D : Ends} {W' : WX} (hW : ∀ c r', c % 16 ∈ al → PostS X.K W cl F0 H0 (if catches c [c0] = true then allA fun a => unE i (sxs (G.seth c a) s (setE i c a r')) else .exc c r') D → ∀ σ F H, RelS X.K F0 H0 F H r' σ → ∀ d, Pay c F d → W' (cl (c % 16)) d σ H),
      PostS X.K W cl F0 H0 (sx G (.try_ i [c0] al b s .nil) r) D → PostS X.K W' cl F0 H0 (sxs G b r) D := fun {F0 H0 r D W'} hW post => by
    rw [sx] at post
    cases eo : sxs G b r with
    | nx r' =>
      rw [eo] at post
      have post : PostS X.K W cl F0 H0 (sxs G .nil r') D := post
      rw [sxs] at post
      exact post
    | brk r' => rw [eo] at post; exact post
    | cnt r' => rw [eo] at post; exact post
    | ret v => rw [eo] at post; exact post
    | fail => rw [eo] at post; exact post
    | exc c r' =>
      rw [eo] at post
      have post : PostS X.K W cl F0 H0 (if c % 16 ∈ al then if catches c [c0] = true then allA fun a => unE i (sxs (G.seth c a) s (setE i c a r')) else .exc c r' else .fail) D := post
      by_cases hc : c % 16 ∈ al
      · rw [if_pos hc] at post
        exact hW c r' hc post
      · rw [if_neg hc] at post
        exact False.elim post
  cases nm with
  | some n =>
    cases i with
    | none => cases h7
    | some i =>
      simp only [Bool.and_eq_true, decide_eq_true_eq] at h7
      have kn : X.env.kindOf n = some .local := (O.sr n _ h7.2).elim id fun q => by cases q.1
      refine PS_weak (L2N.ps_try_as (Wout := W) (tb := fun W2 => canS X.K W2 cl (sxs G b)) O.stk O.frm O.nd (by rw [O.nN]; exact h7.1) kn nms O.tk (fun W' pn xe tk ps => hb C body _ W' (O.tr hh tk ps) h1) su) fun D σ H q => ?_
      obtain ⟨r, F, F0, H0, R, post⟩ := q
      refine ⟨r, F, F0, H0, R, ends (fun c r' hc post σ F H R d pay => ?_) post⟩
      refine ⟨subC (c % 16) c0, exm (c % 16) hc, fun hq a na => ?_, fun hq => ?_⟩
      obtain ⟨dd, hdd, htk⟩ := pay_tok (K := X.K) pay a
      · rw [cat, hq, if_pos rfl] at post
        refine ⟨(c, dd), ⟨rfl, hdd, hc⟩, r'.set i (.val (tok c (a, dd))), F, F0, H0, R.setval htk, ?_⟩
        rcases allA_at (fun a => unE (some i) (sxs (G.seth c a) s (setE (some i) c a r'))) with z | z
        · rw [z] at post; exact False.elim post
        · rw [← z (a, dd)] at post
          exact post_un post
      · rw [cat, hq, if_neg (by decide)] at post
        exact (show ∀ σ F H, RelS X.K F0 H0 F H r' σ → ∀ d, Pay c F d → W (cl (c % 16)) d σ H from post) σ F H R d pay
  | none =>
    cases i with
    | some i => cases h7
    | none =>
      refine PS_weak (L2N.ps_try_many (Wout := W) (tb := fun W2 => canS X.K W2 cl (sxs G b)) (l := [(.ref Ca, fun a cls d => fun D σ H => ∃ z : Nat × Addr, (cl (z.1 % 16) = cls ∧ d = dOf z.1 (a, z.2) ∧ z.1 % 16 ∈ al) ∧ canS X.K (fun _ _ _ _ => False) cl (sxs (G.seth z.1 (a, z.2)) s) D σ H)]) O.stk O.frm O.tk (fun W' pn xe tk ps => hb C body _ W' (O.tr hh tk ps) h1) (.cons nms su .nil)) fun D σ H q => ?_
      obtain ⟨r, F, F0, H0, R, post⟩ := q
      refine ⟨r, F, F0, H0, R, ends (fun c r' hc post σ F H R d pay => ?_) post⟩
      refine ⟨subC (c % 16) c0, exm (c % 16) hc, fun hq a na => ?_, fun hq => ?_⟩
      obtain ⟨dd, hdd, htk⟩ := pay_tok (K := X.K) pay a
      · rw [cat, hq, if_pos rfl] at post
        refine ⟨(c, dd), ⟨rfl, hdd, hc⟩, r', F, F0, H0, R, ?_⟩
        rcases allA_at (fun a => unE none (sxs (G.seth c a) s (setE none c a r'))) with z | z
        · rw [z] at post; exact False.elim post
        · rw [← z (a, dd)] at post
          exact post_un0 post
      · rw [cat, hq, if_neg (by decide)] at post
        exact (show ∀ σ F H, RelS X.K F0 H0 F H r' σ → ∀ d, Pay c F d → W (cl (c % 16)) d σ H from post) σ F H R d pay
theorem t_stuck : SoundS G cl k .stuck := fun C st X W O h => ⟨fun pins s σ H D I q => by
  obtain ⟨r, F, F0, H0, R, post⟩ := q
  rw [sx] at post
  exact False.elim post⟩
theorem sws_sub {o1 i1 o2 i2 x : Expr} {p1 p2 p3 : Pos} {kk : Nat} {env : Env} (h : isTup x = true) : swappedStores [.Tuple [.Subscript o1 i1 p1, .Subscript o2 i2 p2] kk p3] x env = pure none := by
  cases x <;> try cases h
  rename_i vs k2 p4
  unfold swappedStores
  simp only [List.filterMap_cons, List.filterMap_nil, List.length_cons, List.length_nil]
  by_cases h1 : (!((0 + 1 + 1 == 2 || 0 + 1 + 1 == 3)) || vs.length != 0 + 1 + 1 || env.blockKind != .function) = true
  · rw [if_pos h1]
  · rw [if_neg h1]
    split
    · rfl
    · rfl
/-- an owned list's item, set anew -/
theorem poke_ok (O : CtxOkS X C W G cl k) {kx : Ex} {i : Nat} {y : Str} {py p2 : Pos} {ix : Expr} (h1 : C.N[i]? = some y) (h2 : C.vis y = true) (h3 : okName y = true) (h4 : isE kx C ix = true) (h5 : okX ix = true) :
    PG X (.Subscript (.Name y py) ix p2) (gSub (tVar i) (canE X.K W cl (ev G kx)) rSetL) := pg_sub (c_vis O.toCtxOk h1 h2 h3) (soundE kx C ix X W O.toCtxOk h4).1 set_list (by intro v; cases ix <;> first | rfl | cases h5)
theorem poke_use {K : PySem.W.Frag} {F0 H0 F H : Hp} {r : CE} {σ : L2.St} {D : Ends} {i : Nat} {f : RE → Rr} {d : PyData} {u : V} {kk : CE → Out} (R : RelS K F0 H0 F H r σ) (rp : Rp K F d u) (h : PostS K W cl F0 H0 (pokeO i f d r kk) D) {Q : L2.St → Hp → Prop}
    (hq : ∀ r' F' H', RelS K F0 H0 F' H' r' σ → Same F F' → PostS K W cl F0 H0 (kk r') D → Q σ H') : gSub (tVar i) (canE K W cl f) rSetL u σ H Q := by
  unfold pokeO at h
  cases e1 : r[i]? with
  | none => rw [e1] at h; exact False.elim h
  | some cc =>
    rw [e1] at h
    cases cc with
    | no => exact False.elim h
    | val d => exact False.elim h
    | dic l => exact False.elim h
    | own l =>
      obtain ⟨a, vs, g1, g2, g3, g4, g5⟩ := R.own i l e1
      refine ⟨_, g1, ?_⟩
      refine useM (m := ⟨[], true⟩) R h fun kd w F3 H3 R4 iv3 hh3 sF post3 => ?_
      obtain ⟨a', ws, q1, q2, q3, q4, q5⟩ := R4.own i l e1
      rw [g1] at q1
      cases q1
      cases kd with
      | own l2 => exact False.elim post3
      | val kd =>
        cases kd <;> try exact False.elim post3
        rename_i z
        cases iv3
        have post3 : PostS K W cl F0 H0 (match ixN l.length z with
          | some j => kk (r.set i (.own (l.set j d)))
          | none => .fail) D := post3
        cases e3 : ixN l.length z with
        | none => rw [e3] at post3; exact False.elim post3
        | some j =>
          rw [e3] at post3
          exact ⟨_, ws, z, j, rfl, rfl, q4, by rw [← q5.len]; exact e3, hq _ F3 _ (R4.poke e1 g1 (Rps.set (Rp.mono sF _ _ rp) j q5)) sF post3⟩
theorem t_swp (i : Nat) (m : Md) (kx ky : Ex) (es : Exs) : SoundS G cl k (.swp i m kx ky es) := fun C st X W O h => by
  unfold isS at h
  split at h
  case h_2 => cases h
  rename_i y py ix p2 z pz iz p3 kk p4 x pos
  simp only [Bool.and_eq_true, decide_eq_true_eq, Bool.not_eq_true'] at h
  obtain ⟨⟨⟨⟨⟨⟨⟨⟨⟨⟨hh, h1⟩, h2⟩, h3⟩, rfl⟩, h4⟩, h5⟩, h6⟩, h7⟩, h8⟩, h9⟩ := h
  refine PS_weak (ps_asg (soundE (.tup es) C x X W O.toCtxOk h8).1 (pg_tup (O.calm hh) (pgs_cons (poke_ok O h1 h2 h3 h4 h5) (pgs_cons (poke_ok O h1 h2 h3 h6 h7) pgs_nil))) (show swapsWithSole [.Tuple [.Subscript (.Name z py) ix p2, .Subscript (.Name z pz) iz p3] kk p4] x pos.line X.env = pure false from sw_tup (es := [.Subscript (.Name z py) ix p2, .Subscript (.Name z pz) iz p3]) (kk := kk) (p := p4) (l := pos.line) (env := X.env)) (sws_sub h9) rfl) fun D σ H q => ?_
  obtain ⟨r, F, F0, H0, R, post⟩ := q
  rw [sx] at post
  refine useM R post fun t w F' H' R2 iv hh _ post2 => ?_
  cases t with
  | own l => exact False.elim post2
  | val d =>
    cases d <;> try exact False.elim post2
    rename_i ds
    rcases ds with _ | ⟨d1, _ | ⟨d2, _ | ⟨_, _⟩⟩⟩ <;> try exact False.elim post2
    cases iv with
    | tup s rs =>
      obtain ⟨v1, v2, e, r1, r2⟩ := rps2 rs
      subst e
      have post2 : PostS X.K W cl F0 H0 (pokeO i (ev G kx) d1 (frz r m.fz) fun r2 => pokeO i (ev G ky) d2 r2 .nx) D := post2
      exact ⟨_, _, rfl, sqT_mono R2.g.fh s, rfl, v1, [v2], rfl, poke_use R2 r1 post2 fun r' F3 H3 R3 sF post3 => ⟨v2, [], rfl, poke_use (kk := .nx) R3 (Rp.mono sF _ _ r2) post3 fun r'' F4 H4 R4 _ post4 => ⟨rfl, (show ∀ σ F H, RelS X.K F0 H0 F H r'' σ → D.nx σ H from post4) σ F4 H4 R4⟩⟩⟩
theorem Rps.erase {K : PySem.W.Frag} {F : Hp} : ∀ {ds : List PyData} {vs : List V} (p : Nat), Rps K F ds vs → Rps K F (ds.eraseIdx p) (vs.eraseIdx p)
  | _, _, p, .nil => by
    rw [List.eraseIdx_nil, List.eraseIdx_nil]
    exact .nil
  | _, _, 0, .cons r rs => rs
  | _, _, p + 1, .cons r rs => .cons r (Rps.erase p rs)
theorem t_popx (i j : Nat) (e : Ex) : SoundS G cl k (.popx i j e) := fun C st X W O h => by
  unfold isS at h
  split at h
  case h_2 => cases h
  rename_i x px y yp f ap a cp pos
  simp only [Bool.and_eq_true, decide_eq_true_eq] at h
  obtain ⟨⟨⟨⟨⟨⟨⟨⟨⟨rfl, h1⟩, h2⟩, h3⟩, h4⟩, h5⟩, h6⟩, h7⟩, h8⟩, hij⟩ := h
  have hN : X.N[j]? = some x := by rw [O.nN]; exact h4
  have st1 : starEach [a] X.env = (false, eval a X.env) :: starEach [] X.env := star_ok h7
  refine PS_weak (ps_set O.nd hN (O.loc h5) (pe_bm PySem.F.plainAttrs_list PySem.F.slot_list_pop PySem.F.type_list_pop mt_popAt (c_vis O.toCtxOk h1 h2 h3) (pa_cons (soundE e C a X W O.toCtxOk h6).1 pa_nil st1) rfl (by rw [st1]; rfl) h8 st1 rfl) rfl (O.fnok x h5)) fun D σ H q => ?_
  obtain ⟨r, F, F0, H0, R, post⟩ := q
  rw [sx] at post
  cases e1 : r[i]? with
  | none => rw [e1] at post; exact False.elim post
  | some cc =>
  rw [e1] at post
  cases cc with
  | no => exact False.elim post
  | val d => exact False.elim post
  | dic l => exact False.elim post
  | own l =>
  obtain ⟨b, vs, g1, g2, g3, g4, g5⟩ := R.own i l e1
  refine ⟨_, g1, .inl ⟨rfl, vs, .inl (.inl g4)⟩, ?_⟩
  refine useM (m := ⟨[], true⟩) R post fun kd w F3 H3 R4 iv3 hh3 sF post3 => ?_
  obtain ⟨b', ws, q1, q2, q3, q4, q5⟩ := R4.own i l e1
  rw [g1] at q1
  cases q1
  cases kd with
  | own l2 => exact False.elim post3
  | val kd =>
    cases kd <;> try exact False.elim post3
    rename_i z
    cases iv3
    have post3 : PostS X.K W cl F0 H0 (if small62 z = true then match ixN l.length z with
      | some p => match l[p]? with
        | some x => .nx ((r.set i (.own (l.eraseIdx p))).set j (.val x))
        | none => .fail
      | none => .fail else .fail) D := post3
    by_cases hz : small62 z = true
    · rw [if_pos hz] at post3
      obtain ⟨a1, a2⟩ := small62_ok hz
      cases e3 : ixN l.length z with
      | none => rw [e3] at post3; exact False.elim post3
      | some p =>
        rw [e3] at post3
        cases e4 : l[p]? with
        | none => simp only [e4] at post3; exact False.elim post3
        | some d =>
          simp only [e4] at post3
          obtain ⟨v, e5, rp⟩ := q5.get e4
          have R5 := (R4.poke e1 g1 (Rps.erase p q5)).setval (i := j) rp
          exact ⟨_, ws, z, p, v, rfl, rfl, q4, by omega, by omega, (ixN_seq (by rw [← q5.len]; exact e3)).1, e5, (show ∀ σ F H, RelS X.K F0 H0 F H _ σ → D.nx σ H from post3) _ F3 _ R5⟩
    · rw [if_neg hz] at post3
      exact False.elim post3
/-! ### dicts with tuple keys -/
/-- {k: v} -/
def tDisp1 (tk tv : TE) : TE := fun σ H Q => ∀ p, H p = none → tk σ (upd H p (.dT [])) fun x H1 => tv σ H1 fun y H2 => H2 p = some (.dT []) ∧ ∃ (k : List L2.Key) (b : Addr), x = .ref b ∧ H2 b = some (.tup (k.map kV)) ∧ Q (.ref p) (upd H2 p (.dT [(k, y)]))
theorem pe_disp1 {X : Cx} {pos : Pos} {ke ve : Expr} {tk tv : TE} (hu : X.A.units + 1 < cLine) (hk : PE X ke tk) (hv : PE X ve tv) : PE X (.Dict [some ke] [ve] pos) (tDisp1 tk tv) := by
  refine ⟨fun pins s σ H Q I q => ?_⟩
  have hn := I.hok.fresh (Nat.le_refl s.heap.objs.size)
  have I1 := I.laid (a := s.heap.objs.size) (o := .dT []) (h' := s.heap.push { cls := .type "dict", data := .dict #[] }) (t' := s.toks) (fun _ _ q => Heap.get?_push_of_some _ q) (Nat.le_refl _) (dt_empty s.heap I.big)
  have hpl := pairTrees_length [some ke] [ve] X.env pos rfl rfl
  rw [arm_eval_Dict, zip_pairTrees [some ke] [ve] X.env pos rfl rfl, dictDisplay_pairs (pairTrees [some ke] [ve] X.env pos) (fun z => by rw [z] at hpl; cases hpl) (by rw [hpl]; exact (show (1 : Nat) < 17 by decide))]
  refine wpAny_bind (wpAny_standAt (wpAny_bind (wpAny_subDictH (knd := tupleKind (mixKind X.prog X.w)) (Q := fun d s' => wpAny (model X.prog X.w) X.A (pure (Value.ref d)) _ _ s') (show X.A.units < cLine by omega) (by rw [hpl]; exact (show (1 : Nat) ≤ 15 by decide)) ?_)))
  have hp : PPs X pos [some ke] [ve] [(tk, tv)] := pps_cons hk hv pps_nil
  refine thn (hp.run pins _ σ _ (fun ps H2 => match ps with
    | [(x, y)] => H2 s.heap.objs.size = some (.dT []) ∧ ∃ (k : List L2.Key) (b : Addr), x = .ref b ∧ H2 b = some (.tup (k.map kV)) ∧ Q (.ref s.heap.objs.size) (upd H2 s.heap.objs.size (.dT [(k, y)]))
    | _ => False) I1 (q _ hn)) fun ws s2 ⟨ps, H2, I2, rel, qz⟩ => ?_
  split at qz
  case h_2 => exact qz.elim
  rename_i x y
  obtain ⟨e, k, b, ex, eb, qz⟩ := qz
  subst ex
  cases rel with
  | @cons p q2 ps qs h1 h2 =>
    cases h2
    obtain ⟨u, w⟩ := q2
    obtain ⟨ru, rw'⟩ := h1
    cases (show u = Value.ref b from ru)
    obtain ⟨z, hd, xs, rx, dd⟩ := dt_of I2.hok e
    cases rx
    refine ⟨[(k, b, w)], ⟨rfl, rfl, key_of I2.hok eb, trivial⟩, dd, fun h' tk dd' hs => wpAny_pure ⟨.ref s.heap.objs.size, _, ?_, rfl, qz⟩⟩
    have es : storedAllH [] [(k, b, w)] = [(k, b, w)] := rfl
    rw [es] at dd'
    obtain ⟨o, es, ep, ho, h2, h3, h4, _, h5⟩ := dd'
    refine d_write I2 (by rw [e]; exact True.intro) hs ⟨o, ho⟩ ⟨by rw [sizeLine_eq]; exact (show (1 : Nat) ≤ 16777216 by decide), hd, [(k, b, w)], .cons ⟨rfl, ?_, rw'⟩ .nil, o, es, ep, ho, h2, h3, h4, h5⟩
    rw [upd_ne (ne_of eb e (fun z => nomatch z))]
    exact eb
/-- something new stands beside -/
theorem RelS.side {K : PySem.W.Frag} {F0 H0 F H : Hp} {r : CE} {σ : L2.St} (R : RelS K F0 H0 F H r σ) {p : Addr} {o : HO} (hf : F p = none) (h0 : H0 p = none) (no : ¬ OwnAt r σ p) : RelS K F0 H0 F (upd H p o) r σ where
  g := ⟨R.g.ff, fun b u h => by rw [upd_ne (fun z => by subst z; rw [hf] at h; cases h)]; exact R.g.fh b u h, fun b u h => by rw [upd_ne (fun z => by subst z; rw [h0] at h; cases h)]; exact R.g.hh b u h, R.g.nw⟩
  len := R.len
  val := R.val
  own := fun i l e => by
    obtain ⟨a, vs, h1, h2, h3, h4, h5⟩ := R.own i l e
    exact ⟨a, vs, h1, h2, h3, by rw [upd_ne (fun z => by subst z; exact no (.inl ⟨i, l, e, h1⟩))]; exact h4, h5⟩
  ap := R.ap
  dic := fun i l e => by
    obtain ⟨a, h1, h2, h3, h4, h5⟩ := R.dic i l e
    exact ⟨a, h1, h2, h3, by rw [upd_ne (fun z => by subst z; exact no (.inr ⟨i, l, e, h1⟩))]; exact h4, h5⟩
  apd := R.apd
theorem scal_v {K : PySem.W.Frag} {F : Hp} {d : PyData} {v : V} (r : Rp K F d v) (h : scalD d = true) : v = dVS d := by
  cases r <;> first | rfl | cases h
theorem t_dnew (i : Nat) (ks : Exs) (e : Ex) : SoundS G cl k (.dnew i ks e) := fun C st X W O h => by
  unfold isS at h
  split at h
  case h_2 => cases h
  rename_i y py es k2 p2 x p3 pos
  simp only [Bool.and_eq_true, decide_eq_true_eq, Bool.not_eq_true'] at h
  obtain ⟨⟨⟨⟨hh, h1⟩, h2⟩, h3⟩, h4⟩ := h
  have hN : X.N[i]? = some y := by rw [O.nN]; exact h1
  have hu : X.A.units + 1 < cLine := by have := O.toCtxOk.units; omega
  refine PS_weak (ps_set O.nd hN (O.loc h2) (pe_disp1 hu (pe_tup (soundL ks C es X W O.toCtxOk h3).1) (soundE e C x X W O.toCtxOk h4).1) (sw_not rfl) (O.fnok y h2)) fun D σ H q => ?_
  obtain ⟨r, F, F0, H0, R, post⟩ := q
  rw [sx] at post
  intro p hp
  have fp := Same.free R.g.fh hp
  have p0 := Same.free R.g.hh hp
  have R1 := R.grow (Grow.aside (p := p) (o := .dT []) R.g.fh hp)
  have nop : ¬ OwnAt r σ p := fun z => (R.ownAt z).2.2.nn hp
  refine ⟨r.map rdP, F, R1.g.fh, R1.plain, ?_⟩
  cases e1 : evs G ks (r.map rdP) with
  | exc c => rw [e1] at post; exact False.elim post
  | fail => rw [e1] at post; exact False.elim post
  | ok ds =>
    rw [e1] at post
    dsimp only at post
    intro vs F2 H2 g2 rs
    have R2 := R1.grow g2
    cases e2 : ev G e (r.map rdP) with
    | exc c => rw [e2] at post; exact False.elim post
    | fail => rw [e2] at post; exact False.elim post
    | ok xv =>
      rw [e2] at post
      dsimp only at post
      cases e3 : keysD ds with
      | none => rw [e3] at post; exact False.elim post
      | some k =>
        rw [e3] at post
        dsimp only at post
        by_cases hc : scalD xv.d = true ∧ lineB ds.length = true
        case neg => rw [if_neg hc] at post; exact False.elim post
        rw [if_pos hc] at post
        have post : ∀ σ F H, RelS X.K F0 H0 F H (r.set i (.dic [(k, xv.d)])) σ → D.nx σ H := post
        refine ⟨by rw [← rs.len]; exact lineB_ok hc.2, fun q hq => ?_⟩
        have R3 := R2.grow (Grow.aside (p := q) (o := .tup vs) R2.g.fh hq)
        refine ⟨r.map rdP, F2, R3.g.fh, R3.plain, ?_⟩
        rw [e2]
        refine PV.use fun v F4 H4 g4 rp => ?_
        have R4 := R3.grow g4
        have hq2 : upd H2 q (.tup vs) p = some (.dT []) := by
          have : H2 p = some (.dT []) := g2.hh _ _ upd_same
          rw [upd_ne (fun z => by subst z; rw [hq] at this; cases this)]
          exact this
        have hp4 := g4.hh _ _ hq2
        have f2 : F2 p = none := (g2.nw p (NT.dT upd_same)).trans fp
        have f4 : F4 p = none := (g4.nw p (NT.dT hq2)).trans f2
        refine ⟨hp4, k, q, rfl, by rw [← keys_rep rs e3]; exact g4.hh _ _ upd_same, ?_⟩
        have R5 := R4.side (o := .dT [(k, v)]) f4 p0 nop
        have ev := scal_v rp hc.1
        refine post _ F4 _ (R5.setdic f4 p0 (by rw [upd_same, ev]; rfl) (by simp) (fun p hp => by rw [List.mem_singleton.mp hp]; exact hc.1) fun j m b hj w1 w2 z => ?_)
        subst z
        exact nop (.inr ⟨j, m, w1, w2⟩)
theorem dPut_ws (l : Dic) (k : List L2.Key) (d : PyData) : wsD (dPut l k d) = putK (wsD l) k (dVS d) := by
  have e : (wsD l).any (fun kv => decide (kv.1 = k)) = dHas l k := by
    unfold wsD dHas
    rw [List.any_map]
    rfl
  unfold dPut putK
  rw [e]
  by_cases h : dHas l k = true
  · rw [if_pos h, if_pos h]
    unfold wsD
    rw [List.map_map, List.map_map]
    apply List.map_congr_left
    intro p _
    show (fun p => (p.1, dVS p.2)) (if p.1 = k then (p.1, d) else p) = if p.1 = k then (p.1, dVS d) else (p.1, dVS p.2)
    split <;> rfl
  · rw [if_neg h, if_neg h]
    unfold wsD
    rw [List.map_append]
    rfl
theorem dPut_ne {l : Dic} (k : List L2.Key) (d : PyData) (h : l ≠ []) : dPut l k d ≠ [] := by
  unfold dPut
  split
  · exact fun z => h (List.map_eq_nil_iff.mp z)
  · simp
theorem dPut_scal {l : Dic} {k : List L2.Key} {d : PyData} (hd : scalD d = true) (h : ∀ p ∈ l, scalD p.2 = true) : ∀ p ∈ dPut l k d, scalD p.2 = true := by
  intro p hp
  unfold dPut at hp
  split at hp
  · obtain ⟨q, hq, rfl⟩ := List.mem_map.mp hp
    split
    · exact hd
    · exact h q hq
  · rcases List.mem_append.mp hp with q | q
    · exact h p q
    · rw [List.mem_singleton.mp q]; exact hd
theorem t_dput (i : Nat) (m : Md) (es : Exs) (e : Ex) : SoundS G cl k (.dput i m es e) := fun C st X W O h => by
  unfold isS at h
  split at h
  case h_2 => cases h
  rename_i y py ks k2 p2 p3 x pos
  simp only [Bool.and_eq_true, decide_eq_true_eq, Bool.not_eq_true'] at h
  obtain ⟨⟨⟨⟨⟨hh, h1⟩, h2⟩, h3⟩, h4⟩, h5⟩ := h
  have hu : X.A.units + 1 < cLine := by have := O.toCtxOk.units; omega
  refine PS_weak (ps_dput hu (c_vis O.toCtxOk h1 h2 h3) (pe_tup (soundL es C ks X W O.toCtxOk h4).1) (soundE e C x X W O.toCtxOk h5).1 sw_sub) fun D σ H q => ?_
  obtain ⟨r, F, F0, H0, R, post⟩ := q
  rw [sx] at post
  obtain ⟨F1, _, R1⟩ := RelS.frz m.fz R
  refine useM R post fun v u F' H' R2 iv hh _ post2 => ?_
  show tVar i σ H' _
  cases e1 : (frz r m.fz)[i]? with
  | none => rw [e1] at post2; exact False.elim post2
  | some cc =>
    rw [e1] at post2
    cases cc with
    | no => exact False.elim post2
    | val d => exact False.elim post2
    | own l => exact False.elim post2
    | dic kvs =>
      obtain ⟨a, g1, g2, g3, g4, g5, g6⟩ := R2.dic i kvs e1
      refine ⟨_, g1, ?_⟩
      dsimp only at post2
      refine ⟨(frz r m.fz).map rdB, withOwn F' H' (frz r m.fz) σ, R2.withFH, R2.borrow, ?_⟩
      cases e2 : evs G es ((frz r m.fz).map rdB) with
      | exc c =>
        rw [e2] at post2
        exact fun F3 H3 g d pay => (show ∀ σ F H, RelS X.K F0 H0 F H (frz r m.fz) σ → ∀ d, Pay c F d → W (cl (c % 16)) d σ H from post2) σ _ H3 (R2.grow (R2.back g).1) d (R2.payBack g pay)
      | fail => rw [e2] at post2; exact False.elim post2
      | ok ds =>
        rw [e2] at post2
        dsimp only at post2
        intro vs F3 H3 g rs
        obtain ⟨gb, _⟩ := R2.back g
        have R3 := R2.grow gb
        cases e3 : keysD ds with
        | none => rw [e3] at post2; exact False.elim post2
        | some kk =>
          rw [e3] at post2
          dsimp only at post2
          by_cases hc : scalD v.d = true ∧ kvs.length < 16777216 ∧ lineB ds.length = true
          case neg => rw [if_neg hc] at post2; exact False.elim post2
          rw [if_pos hc] at post2
          have post2 : ∀ σ F H, RelS X.K F0 H0 F H ((frz r m.fz).set i (.dic (dPut kvs kk v.d))) σ → D.nx σ H := post2
          refine ⟨by rw [← rs.len]; exact lineB_ok hc.2.2, fun q hq => ?_⟩
          have R4 := R3.grow (Grow.aside (p := q) (o := .tup vs) R3.g.fh hq)
          obtain ⟨a', q1, q2, q3, q4, q5⟩ := R4.dic i kvs e1
          rw [g1] at q1
          cases q1
          cases v with
          | own l => exact absurd hc.1 (by simp [RV.d, scalD])
          | val d =>
            have ev := scal_v iv hc.1
            have eb : upd H3 q (.tup vs) q = some (.tup (kk.map kV)) := by rw [upd_same, keys_rep rs e3]
            have R5 := R4.dpoke e1 g1 (dPut_ne kk d g5) (dPut_scal hc.1 g6)
            rw [dPut_ws, ← ev] at R5
            exact ⟨a, _, rfl, DPut.t q4 eb (by rw [sizeLine_eq]; unfold wsD; rw [List.length_map]; exact hc.2.1), post2 _ _ _ R5⟩
theorem t_forb {b : Sxs} (t : Tg) (e : Ex) (hb : SoundB G cl k b) : SoundS G cl k (.forb t e b) := fun C st X W O h => by
  unfold isS at h
  split at h
  case h_2 => cases h
  simp only [Bool.and_eq_true, Bool.not_eq_true'] at h
  obtain ⟨⟨⟨⟨hh, h1⟩, h2⟩, h3⟩, h4⟩ := h
  refine PS_weak (ps_for O.pass (O.calm hh) (pi_list (soundE e C _ X W O.toCtxOk h2).1) (pg_ok O.toCtxOk hh h1) (hb C _ X W O h3) (fold_ok h4)) fun D σ H q => ?_
  obtain ⟨r, F, F0, H0, R, post⟩ := q
  rw [sx] at post
  refine useM (m := ⟨[], true⟩) R post fun x v F' H' R2 iv hh2 _ post => ?_
  cases x with
  | val d => exact False.elim post
  | own ds =>
    obtain ⟨Fz, _, Rz, rp⟩ := R.asData (r := r) R2 hh2 iv
    cases rp with
    | lst sq rs =>
    rename_i a xs
    refine ⟨a, rfl, ⟨xs, sqL_mono Rz.g.fh sq⟩, ?_⟩
    have wk := walks_list sq rs
    obtain ⟨u, R2⟩ := Rz.upB
    have post : PostS X.K W cl F0 H0 (forL (fun d r' => match tgs Cell.val t d r' with
      | some r2 => sxs G b r2
      | none => .fail) ds r) D := post
    have post2 := PostS.up u post
    refine ⟨fun i m σ H => m = ds.length - i ∧ i ≤ ds.length ∧ ∃ r F, RelS X.K Fz H0 F H r σ ∧ PostS X.K W cl Fz H0 (forL (fun d r' => match tgs Cell.val t d r' with
      | some r2 => sxs G b r2
      | none => .fail) (ds.drop i) r) D, ⟨ds.length, rfl, Nat.zero_le _, _, _, R2, post2⟩, ?_⟩
    rintro i m σ' H1 ⟨rfl, hi, r', F', R3, post3⟩
    obtain ⟨w1, w2⟩ := wk F' H1 i R3.g.ff R3.g.fh
    by_cases hlt : i < ds.length
    · have ed : ds[i]? = some ds[i] := List.getElem?_eq_getElem hlt
      rw [List.drop_eq_getElem_cons hlt, forL] at post3
      obtain ⟨go, yl⟩ := w1 _ ed
      refine .inr ⟨go, fun σ H => ∃ r F, RelS X.K Fz H0 F H r σ ∧ PostS X.K W cl Fz H0 (forL (fun d r' => match tgs Cell.val t d r' with
        | some r2 => sxs G b r2
        | none => .fail) (ds.drop (i + 1)) r) D, fun σ' H' hN => ⟨ds.length - (i + 1), by omega, rfl, hlt, hN⟩, fun x H2 y => ?_⟩
      obtain ⟨F2, g3, rp⟩ := yl x H2 y
      have R4 := R3.grow g3
      cases e5 : tgs Cell.val t ds[i] r' with
      | none =>
        rw [e5] at post3
        exact False.elim post3
      | some r2 =>
        rw [e5] at post3
        refine gT_run R4.g.fh rp e5 fun σ2 tv => ⟨r2, F2, Fz, H0, R4.tgs rp e5 tv, ?_⟩
        dsimp only at post3
        cases e6 : sxs G b r2 with
        | nx r3 => rw [e6] at post3; exact fun σ F H R => ⟨r3, F, R, post3⟩
        | cnt r3 => rw [e6] at post3; exact fun σ F H R => ⟨r3, F, R, post3⟩
        | brk r3 => rw [e6] at post3; exact post3
        | ret x => rw [e6] at post3; exact post3
        | exc x r3 => rw [e6] at post3; exact post3
        | fail => rw [e6] at post3; exact post3
    · have e : i = ds.length := by omega
      subst e
      rw [List.drop_length, forL] at post3
      exact .inl ⟨w2 (Nat.le_refl _), (show ∀ σ F H, RelS X.K Fz H0 F H r' σ → D.nx σ H from post3) σ' F' H1 R3⟩
/-! ### a def that writes into the list handed in first -/
variable {K : PySem.W.Frag} {F0 H0 F H : Hp} {r : CE} {σ : L2.St}
theorem RelS.io (R : RelS K F0 H0 F H r σ) {i : Nat} {l l' : List PyData} {a : Addr} {ws : List V} {F' H' : Hp} (e : r[i]? = some (.own l)) (s : σ[i]? = some (some (.ref a))) (g : Grow F (cutH H a) F' H') (n : F' a = none) (h : H' a = some (.lst ws)) (rs : Rps K F' l' ws) :
    RelS K F0 H0 F' H' (r.set i (.own l')) σ := by
  obtain ⟨a', us, q1, q2, q3, q4, q5⟩ := R.own i l e
  rw [s] at q1
  cases q1
  have na : ∀ {b : Addr} {o : HO}, H0 b = some o → b ≠ a := fun {b o} z y => by rw [y, q3] at z; cases z
  refine ⟨⟨R.g.ff.trans g.ff, g.fh, fun b o z => ?_, fun b z => ?_⟩, by rw [List.length_set]; exact R.len, fun j d z => ?_, fun j m z => ?_, fun p q m1 m2 b e1 e2 s1 s2 => ?_, fun j m z => ?_, fun p q m1 m2 b e1 e2 s1 s2 => ?_⟩
  · exact g.hh b o (by rw [cutH_ne (na z)]; exact R.g.hh b o z)
  · obtain ⟨o, ho, hn⟩ := id z
    exact (g.nw b ⟨o, by rw [cutH_ne (na ho)]; exact R.g.hh b o ho, hn⟩).trans (R.g.nw b z)
  · rcases set_get z with ⟨_, _, y⟩ | ⟨_, y⟩
    · cases y
    · obtain ⟨v, h1, h2⟩ := R.val j d y
      exact ⟨v, h1, Rp.mono g.ff _ _ h2⟩
  · rcases set_get z with ⟨rfl, _, y⟩ | ⟨hj, y⟩
    · cases y
      exact ⟨a, ws, s, n, q3, h, rs⟩
    · obtain ⟨b, xs, h1, h2, h3, h4, h5⟩ := R.own j m y
      have hb : b ≠ a := fun y2 => hj (R.ap i j l m a e y s (by rw [← y2]; exact h1))
      have hc : cutH H a b = some (.lst xs) := by rw [cutH_ne hb]; exact h4
      exact ⟨b, xs, h1, (g.nw b (NT.lst hc)).trans h2, h3, g.hh b _ hc, Rps.mono g.ff _ _ h5⟩
  · have g2 : ∀ {p : Nat} {m1 : List PyData}, (r.set i (.own l'))[p]? = some (.own m1) → ∃ m, r[p]? = some (.own m) := fun {p m1} h => by
      rcases set_get h with ⟨rfl, _, _⟩ | ⟨_, z⟩
      · exact ⟨l, e⟩
      · exact ⟨m1, z⟩
    obtain ⟨n1, z1⟩ := g2 e1
    obtain ⟨n2, z2⟩ := g2 e2
    exact R.ap p q n1 n2 b z1 z2 s1 s2
  · rcases set_get z with ⟨_, _, y⟩ | ⟨_, y⟩
    · cases y
    · obtain ⟨b, h1, h2, h3, h4, h5⟩ := R.dic j m y
      have hb : b ≠ a := fun y2 => by subst y2; rw [q4] at h4; cases h4
      have hc : cutH H a b = some (.dT (wsD m)) := by rw [cutH_ne hb]; exact h4
      exact ⟨b, h1, (g.nw b (NT.dT hc)).trans h2, h3, g.hh b _ hc, h5⟩
  · rcases set_get e1 with ⟨_, _, y⟩ | ⟨_, z1⟩
    · cases y
    · rcases set_get e2 with ⟨_, _, y⟩ | ⟨_, z2⟩
      · cases y
      · exact R.apd p q m1 m2 b z1 z2 s1 s2
theorem t_callio (f i : Nat) (es : Exs) : SoundS G cl k (.callio f i es) := fun C st X W O h => by
  unfold isS at h
  split at h
  case h_2 => cases h
  rename_i g gp y yp xs cp pos
  cases e0 : C.fns[f]? with
  | none => rw [e0] at h; cases h
  | some q =>
    obtain ⟨z, np, df⟩ := q
    rw [e0] at h
    simp only [Bool.and_eq_true, decide_eq_true_eq, Bool.not_eq_true'] at h
    obtain ⟨⟨⟨⟨⟨⟨⟨⟨⟨⟨hh, rfl⟩, h1⟩, h2⟩, h3⟩, h4⟩, h5⟩, h6⟩, rfl⟩, h8⟩, h9⟩ := h
    have hdf : df = [] := List.isEmpty_iff.mp h9
    subst hdf
    obtain ⟨n1, _, _⟩ := okName_ok h2
    obtain ⟨fa, fd, ps, F, mg, kp, bs⟩ := O.fns f _ _ _ e0
    rw [spF_io] at F
    obtain ⟨ds0, b1, b2⟩ := bs 0 (Nat.le_refl _)
    cases b1
    have hA := (soundL es C xs X W O.toCtxOk h6).1
    refine PS_weak (ps_expr (pe_callD F (O.room hh) (O.gl h1) mg kp b2 .nil (E := WE W) (fun σ => L2N.passAt O.tk σ) (pa_cons (c_vis O.toCtxOk h3 h4 h5) hA (star_ok h8)) n1 (star_ok h8) (isL_star es xs h6)) (sw_not rfl)) fun D σ H q => ?_
    obtain ⟨r, F, F0, H0, R, post⟩ := q
    rw [sx] at post
    cases e1 : r[i]? with
    | none => rw [e1] at post; exact False.elim post
    | some cc =>
      rw [e1] at post
      cases cc with
      | no => exact False.elim post
      | val d => exact False.elim post
      | dic l => exact False.elim post
      | own l =>
        dsimp only at post
        cases e2 : evs G es (r.map rdP) with
        | fail => rw [e2] at post; exact False.elim post
        | exc c => rw [e2] at post; exact False.elim post
        | ok ds =>
          rw [e2] at post
          obtain ⟨a, vs, g1, g2, g3, g4, g5⟩ := R.own i l e1
          refine ⟨_, g1, ?_⟩
          refine ⟨r.map rdP, F, R.g.fh, R.plain, ?_⟩
          rw [e2]
          intro us F' H' gg rs
          have R2 := R.grow gg
          obtain ⟨a', ws, q1, q2, q3, q4, q5⟩ := R2.own i l e1
          rw [g1] at q1
          cases q1
          have post : PostS X.K W cl F0 H0 (ioO (G.fn f (.list l :: ds)) fun l' => .nx (r.set i (.own l'))) D := post
          unfold ioO at post
          split at post
          case h_2 => exact False.elim post
          rename_i l' e3
          have hl : us.length = es.len := by rw [← rs.len]; exact evs_len es _ ds e2
          refine ⟨by rw [List.append_nil, List.length_cons, hl], a, us, ws, l, ds, F', l', by rw [List.append_nil], q4, q2, gg.fh, q5, rs, e3, fun F2 H2 ws2 gr n2 h2 rs2 => ?_⟩
          exact (show ∀ σ F H, RelS X.K F0 H0 F H (r.set i (.own l')) σ → D.nx σ H from post) σ F2 H2 (R2.io e1 g1 gr n2 h2 rs2)
/-- the slots stay as they are -/
def Ends.at (D : Ends) (σ : L2.St) : Ends := { D with nx := fun σ' H => σ' = σ → D.nx σ' H }
def canIO (K : PySem.W.Frag) (W : WX) (cl : Nat → Value) (s : CE → Out) : TS := fun D σ H => ∃ r F F0 H0, RelS K F0 H0 F H r σ ∧ PostS K W cl F0 H0 (s r) (Ends.at D σ)
theorem io_setix (i : Nat) (m : Md) (kx e : Ex) {C : Chk} {st : Stmt} {X : Cx} {W : WX} (O : CtxOkS X C W G cl k) (h : isS (.setix i m kx e) C st = true) : PS X st (canIO X.K W cl (sx G (.setix i m kx e))) := by
  unfold isS at h
  split at h
  case h_2 => cases h
  rename_i y py ix p2 x pos
  simp only [Bool.and_eq_true, decide_eq_true_eq] at h
  obtain ⟨⟨⟨⟨⟨h1, h2⟩, h3⟩, h4⟩, h5⟩, h6⟩ := h
  refine PS_weak (ps_asg (soundE e C x X W O.toCtxOk h6).1 (pg_sub (c_vis O.toCtxOk h1 h2 h3) (soundE kx C ix X W O.toCtxOk h4).1 set_list (by intro v; cases ix <;> first | rfl | cases h5)) (show swapsWithSole [.Subscript (.Name y py) ix p2] x pos.line X.env = pure false from sw_sub (x := x) (o := .Name y py) (i := ix) (p := p2) (l := pos.line) (env := X.env)) st_sub rfl) fun D σ H q => ?_
  obtain ⟨r, F, F0, H0, R, post⟩ := q
  rw [sx] at post
  obtain ⟨F1, _, R1⟩ := RelS.frz m.fz R
  refine useM R post fun v u F' H' R2 iv hh _ post2 => ?_
  obtain ⟨F2, _, R3, rp⟩ := R1.asData R2 hh iv
  show tVar i σ H' _
  cases e1 : (frz r m.fz)[i]? with
  | none => rw [e1] at post2; exact False.elim post2
  | some cc =>
    rw [e1] at post2
    cases cc with
    | no => exact False.elim post2
    | val d => exact False.elim post2
    | dic l => exact False.elim post2
    | own l =>
      obtain ⟨a, vs, g1, g2, g3, g4, g5⟩ := R3.own i l e1
      refine ⟨_, g1, ?_⟩
      refine useM R3 post2 fun kd w F3 H3 R4 iv3 hh3 sF post3 => ?_
      obtain ⟨a', ws, q1, q2, q3, q4, q5⟩ := R4.own i l e1
      rw [g1] at q1
      cases q1
      cases kd with
      | own l2 => exact False.elim post3
      | val kd =>
        cases kd <;> try exact False.elim post3
        rename_i z
        cases iv3
        have post3 : PostS X.K W cl F0 H0 (match ixN l.length z with
          | some j => .nx ((frz r m.fz).set i (.own (l.set j v.d)))
          | none => .fail) (Ends.at D σ) := post3
        cases e3 : ixN l.length z with
        | none => rw [e3] at post3; exact False.elim post3
        | some j =>
          rw [e3] at post3
          exact ⟨_, ws, z, j, rfl, rfl, q4, by rw [← q5.len]; exact e3, (show ∀ σ' F H, RelS X.K F0 H0 F H _ σ' → σ' = σ → D.nx σ' H from post3) _ F3 _ (R4.poke e1 g1 (Rps.set (Rp.mono sF _ _ rp) j q5)) rfl⟩
theorem PostS.seqAt {W : WX} {D : Ends} {o : Out} {kk : CE → Out} (h : PostS K W cl F0 H0 (seqO o kk) (Ends.at D σ)) : PostS K W cl F0 H0 o (Ends.at { D with nx := fun σ' H' => canIO K W cl kk D σ' H' } σ) := by
  cases o with
  | nx r =>
    intro σ' F H R e
    subst e
    exact ⟨r, F, F0, H0, R, h⟩
  | brk r => exact h
  | cnt r => exact h
  | ret x => exact h
  | exc c r => exact h
  | fail => exact h
theorem io_sound : ∀ (b : Sxs) {C : Chk} {sts : List Stmt} {X : Cx} {W : WX} (O : CtxOkS X C W G cl k) (h : isB b C sts = true) (hk : okIo b = true), PSs X sts (canIO X.K W cl (sxs G b))
  | .nil, C, sts, X, W, O, h, hk => by
    unfold isB at h
    split at h
    case h_2 => cases h
    refine PSs_weak pss_nil fun D σ H q => ?_
    obtain ⟨r, F, F0, H0, R, post⟩ := q
    rw [sxs] at post
    exact (show ∀ σ' F H, RelS X.K F0 H0 F H r σ' → σ' = σ → D.nx σ' H from post) σ F H R rfl
  | .cons (.setix i m kx e) ss, C, sts, X, W, O, h, hk => by
    unfold isB at h
    split at h
    case h_2 => cases h
    rw [Bool.and_eq_true] at h
    rw [okIo] at hk
    refine PSs_weak (pss_cons (io_setix i m kx e O h.1) (io_sound ss O h.2 hk)) fun D σ H q => ?_
    obtain ⟨r, F, F0, H0, R, post⟩ := q
    rw [sxs] at post
    exact ⟨r, F, F0, H0, R, post.seqAt⟩
  | .cons (.ite c a b) ss, C, sts, X, W, O, h, hk => by
    unfold isB at h
    split at h
    case h_2 => cases h
    rw [Bool.and_eq_true] at h
    rw [okIo, Bool.and_eq_true, Bool.and_eq_true] at hk
    have go : ∀ {st : Stmt}, isS (.ite c a b) C st = true → PS X st (canIO X.K W cl (sx G (.ite c a b))) := fun {st} h => by
      unfold isS at h
      split at h
      case h_2 => cases h
      simp only [Bool.and_eq_true] at h
      refine PS_weak (ps_if (soundE c C _ X W O.toCtxOk h.1.1).2 (io_sound a O h.1.2 hk.1.1) (io_sound b O h.2 hk.1.2)) fun D σ H q => ?_
      obtain ⟨r, F, F0, H0, R, post⟩ := q
      rw [sx] at post
      refine useT R post fun t F' H' R2 post2 => ?_
      cases t with
      | true => exact ⟨r, F', F0, H0, R2, post2⟩
      | false => exact ⟨r, F', F0, H0, R2, post2⟩
    refine PSs_weak (pss_cons (go h.1) (io_sound ss O h.2 hk.2)) fun D σ H q => ?_
    obtain ⟨r, F, F0, H0, R, post⟩ := q
    rw [sxs] at post
    exact ⟨r, F, F0, H0, R, post.seqAt⟩
  | .cons (.asg ..) ss, _, _, _, _, _, _, hk => by cases hk
  | .cons (.unp ..) ss, _, _, _, _, _, _, hk => by cases hk
  | .cons (.par2 ..) ss, _, _, _, _, _, _, hk => by cases hk
  | .cons (.app ..) ss, _, _, _, _, _, _, hk => by cases hk
  | .cons (.aug ..) ss, _, _, _, _, _, _, hk => by cases hk
  | .cons (.ret ..) ss, _, _, _, _, _, _, hk => by cases hk
  | .cons (.reto ..) ss, _, _, _, _, _, _, hk => by cases hk
  | .cons .retn ss, _, _, _, _, _, _, hk => by cases hk
  | .cons (.drop ..) ss, _, _, _, _, _, _, hk => by cases hk
  | .cons (.whl ..) ss, _, _, _, _, _, _, hk => by cases hk
  | .cons (.for_ ..) ss, _, _, _, _, _, _, hk => by cases hk
  | .cons (.dnew ..) ss, _, _, _, _, _, _, hk => by cases hk
  | .cons (.dput ..) ss, _, _, _, _, _, _, hk => by cases hk
  | .cons (.forb ..) ss, _, _, _, _, _, _, hk => by cases hk
  | .cons (.rais ..) ss, _, _, _, _, _, _, hk => by cases hk
  | .cons (.raisp ..) ss, _, _, _, _, _, _, hk => by cases hk
  | .cons .pass ss, _, _, _, _, _, _, hk => by cases hk
  | .cons .stuck ss, _, _, _, _, _, _, hk => by cases hk
  | .cons (.swp ..) ss, _, _, _, _, _, _, hk => by cases hk
  | .cons (.popx ..) ss, _, _, _, _, _, _, hk => by cases hk
  | .cons (.callio ..) ss, _, _, _, _, _, _, hk => by cases hk
  | .cons .brk ss, _, _, _, _, _, _, hk => by cases hk
  | .cons .cnt ss, _, _, _, _, _, _, hk => by cases hk
  | .cons (.try_ ..) ss, _, _, _, _, _, _, hk => by cases hk
mutual
theorem soundS : ∀ (s : Sx) (G : Gd), SoundS G cl k s
  | .asg i own m e, _ => t_asg i own m e
  | .unp l m e, _ => t_unp l m e
  | .par2 i j m es, _ => t_par2 i j m es
  | .setix i m x e, _ => t_setix i m x e
  | .app i m e, _ => t_app i m e
  | .aug i o e, _ => t_aug i o e
  | .ret m e, _ => t_ret m e
  | .reto i, _ => t_reto i
  | .retn, _ => t_retn
  | .drop m e, _ => t_drop m e
  | .ite c a b, G => t_ite c (soundB a G) (soundB b G)
  | .whl c b, G => t_whl c (soundB b G)
  | .for_ t fz it b, G => t_for t fz (soundB b G)
  | .dnew i ks e, _ => t_dnew i ks e
  | .dput i m es e, _ => t_dput i m es e
  | .forb t e b, G => t_forb t e (soundB b G)
  | .rais c, _ => t_rais c
  | .raisp c e, _ => t_raisp c e
  | .pass, _ => t_pass
  | .stuck, _ => t_stuck
  | .swp i m x y es, _ => t_swp i m x y es
  | .popx i j e, _ => t_popx i j e
  | .callio f i es, _ => t_callio f i es
  | .brk, _ => t_brk
  | .cnt, _ => t_cnt
  | .try_ i cs al b s e, G => t_try i cs al (soundB b G) (fun c a => soundB s (G.seth c a))
theorem soundB : ∀ (s : Sxs) (G : Gd), SoundB G cl k s
  | .nil, _ => b_nil
  | .cons s ss, G => b_cons (soundS s G) (soundB ss G)
end
end
end PX

/-! PX15: a def keeps its promise; the end of a law. -/
namespace PX
open PySem PySem.Spec PyProof.Rows L2

/-- what is known of a def of the module -/
structure Kn (P : Program) (w : World) (K : PySem.W.Frag) (mg : Str → Option Value) (base : Heap) (cl : Nat → Value) (k : Nat) (x : Str) (np : Nat) (dfl : List PyData) (f : List PyData → Rr) : Prop where
  ex : ∃ fa fd ps, FnOk P w K mg base (L2N.CX P w) k fa fd ps (spF K cl f np) ∧ mg x = some (.ref fa) ∧ PySem.W.keepIn K (.ref fa) = true ∧ ∀ j, j ≤ dfl.length → ∃ ds, Vals ((dfl.drop j).map dV) ds ∧ Binds K fd ps ds
def allP {A : Type} (p : A → Prop) : List A → Prop
  | [] => True
  | a :: l => p a ∧ allP p l
def allP2 {A B : Type} (p : A → B → Prop) : List A → List B → Prop
  | [], _ => True
  | a :: l, b :: m => p a b ∧ allP2 p l m
  | _ :: _, [] => False
theorem allP_mem {A : Type} {p : A → Prop} : ∀ {l : List A}, allP p l → ∀ x ∈ l, p x
  | [], _, x, h => by cases h
  | a :: l, h, x, hx => (List.mem_cons.mp hx).elim (fun e => by rw [e]; exact h.1) fun q => allP_mem h.2 x q
theorem allP2_get {A B : Type} {p : A → B → Prop} : ∀ {l : List A} {m : List B} {n : Nat} {a : A}, allP2 p l m → l[n]? = some a → ∃ b, m[n]? = some b ∧ p a b
  | [], m, n, a, _, e => by simp at e
  | x :: l, [], n, a, h, e => h.elim
  | x :: l, y :: m, 0, a, h, e => by
    simp at e
    subst e
    exact ⟨y, rfl, h.1⟩
  | x :: l, y :: m, n + 1, a, h, e => by
    obtain ⟨b, h1, h2⟩ := allP2_get (n := n) h.2 (by simpa using e)
    exact ⟨b, by simpa using h1, h2⟩
section
variable {P : Program} {w : World} {K : PySem.W.Frag} {mg : Str → Option Value} {base : Heap} {cl : Nat → Value} {k : Nat}
theorem Kn.mono {j : Nat} {x : Str} {np : Nat} {dfl : List PyData} {f : List PyData → Rr} (h : Kn P w K mg base cl j x np dfl f) (q : j ≤ k) : Kn P w K mg base cl k x np dfl f := by
  obtain ⟨fa, fd, ps, a, b⟩ := h.ex
  exact ⟨fa, fd, ps, a.mono q, b⟩
def ConP (mg : Str → Option Value) (x : Str) (d : PyData) : Prop := scalD d = true ∧ ∃ u, mg x = some u ∧ RelV (dV d) u
def ExcP (K : PySem.W.Frag) (mg : Str → Option Value) (n : Nat) (x : Str) (v : Value) : Prop := ∃ Ca : Addr, mg x = some (.ref Ca) ∧ PySem.W.keepIn K (.ref Ca) = true ∧ PySem.W.subIn K (.ref Ca) (.type "BaseException") = some true ∧ PySem.W.typeIn K (.ref Ca) = some (.type "type") ∧ v = .ref Ca ∧ (n < 9 → ∃ (bmB : List Value) (B newId initId : String), ExcBaseFacts B newId initId bmB ∧ PySem.W.excIn K Ca bmB newId = true)
def FnP (P : Program) (w : World) (K : PySem.W.Frag) (mg : Str → Option Value) (base : Heap) (cl : Nat → Value) (k : Nat) (q : Str × Nat × List PyData) (f : List PyData → Rr) : Prop := Kn P w K mg base cl k q.1 q.2.1 q.2.2 f
def FnXP (P : Program) (w : World) (K : PySem.W.Frag) (mg : Str → Option Value) (base : Heap) (exc : List Str) (cl : Nat → Value) (k : Nat) (q : Str × Nat) (g : Nat × Tk → List PyData → Rr) : Prop := ∃ fa fd ps, FnX P w K mg base exc cl k fa fd ps g q.2 ∧ mg q.1 = some (.ref fa) ∧ PySem.W.keepIn K (.ref fa) = true ∧ Binds K fd ps []
def KfP (P : Program) (w : World) (K : PySem.W.Frag) (mg : Str → Option Value) (base : Heap) (cl : Nat → Value) (k : Nat) (q : Str × Nat × Str × Nat × List PyData) (f : List PyData → Rr) : Prop := KfOk P w K mg base cl k f q.1 q.2.1 q.2.2.1 q.2.2.2.1 q.2.2.2.2
theorem KfP.mono {P : Program} {w : World} {K : PySem.W.Frag} {mg : Str → Option Value} {base : Heap} {cl : Nat → Value} {j k : Nat} {q : Str × Nat × Str × Nat × List PyData} {f : List PyData → Rr} (h : KfP P w K mg base cl j q f) (e : j ≤ k) : KfP P w K mg base cl k q f := by
  refine ⟨fun z => ?_, fun z => ?_⟩
  · obtain ⟨fa, fd, ps, its, a, b⟩ := h.1 z
    exact ⟨fa, fd, ps, its, a.mono e, b⟩
  · obtain ⟨fa, fd, ps, i, hi, b⟩ := h.2 z
    exact ⟨fa, fd, ps, i, Nat.le_trans hi e, b⟩
/-- a def as a key of sorted -/
theorem Kn.key {P : Program} {w : World} {K : PySem.W.Frag} {mg : Str → Option Value} {base : Heap} {cl : Nat → Value} {j k : Nat} {x : Str} {f : List PyData → Rr} (h : Kn P w K mg base cl j x 1 [] f) (e : j + 2 ≤ k) : KfP P w K mg base cl k (x, 1, "", 0, []) f := by
  obtain ⟨fa, fd, ps, a, b, c, d⟩ := h.ex
  obtain ⟨ds, d1, d2⟩ := d 0 (Nat.le_refl _)
  cases d1
  rw [spF_d (by decide)] at a
  exact ⟨fun z => absurd rfl z, fun _ => ⟨fa, fd, ps, j, e, a, b, c, d2⟩⟩
/-- a def called by one keyword, the last parameter -/
theorem FunD.kbinds1 {K : PySem.W.Frag} {x qual : Str} {params : Arguments} {body : List Stmt} {scope : Scope} {dvs : List V} {f : Addr} {fd : FuncData} {ps : List Str} (F : FunD K x qual params body scope dvs [] f fd) (n j : Nat) (kn : Str) (hd : dvs ≠ [])
    (h : ∀ (T : Addr) (kV doc pm : Value) (an : Option Addr) (cdv ct : Value) (us its : List Value) (v : Value), us.length = n → its.length = dvs.length →
      ∃ k, bindArgs (PySem.W.fnOf x qual params body scope (.ref T) kV doc pm an cdv ct) ⟨us, [(kn, v)]⟩ = seqItems? (.ref T) >>= k ∧ k (some its.toArray) = pure (ps.zip (us ++ ((its.drop j).dropLast ++ [v])))) :
    ∃ its : List Value, KBn K fd ps n [kn] (fun us ws => us ++ (its ++ ws)) (fun vs zs => vs ++ ((dvs.drop j).dropLast ++ zs)) := by
  obtain ⟨oc, od, dV, kV, doc, pm, an, cdv, ct, osl, rfl, lk, hcd, hD, hK⟩ := F.ex
  rcases hD with ⟨e, _⟩ | ⟨_, T, o, its, m, rfl, lT, oT, rT⟩
  · exact absurd e hd
  · have dl : ∀ {vs : List V} {us : List Value}, Vals vs us → Vals vs.dropLast us.dropLast := fun {vs us} r => by
      induction r with
      | nil => exact .nil
      | cons a t ih =>
        cases t with
        | nil => exact .nil
        | cons b t => exact .cons a ih
    refine ⟨(its.drop j).dropLast, fun s us ws X l1 l2 => ?_, fun r1 r2 => r1.append ((dl (rT.drop j)).append r2)⟩
    obtain ⟨v, rfl⟩ : ∃ v, ws = [v] := by
      rcases ws with _ | ⟨v, _ | ⟨_, _⟩⟩ <;> simp at l2
      exact ⟨v, rfl⟩
    obtain ⟨k, e1, e2⟩ := h T kV doc pm an cdv ct us its v l1 rT.length.symm
    refine BindsTo.of_looks fun M => ?_
    have e3 : ([kn].zip [v]) = [(kn, v)] := rfl
    rw [e3, e1]
    exact looks_items X lT oT (.of_pure e2)
def TabP (K : PySem.W.Frag) (w : World) (mg : Str → Option Value) (x : Str) (t : List (Str × Int)) : Prop := ∃ a, mg x = some (.ref a) ∧ TabOk K w a t
theorem start_rel {K : PySem.W.Frag} {N : List Str} {ds : List PyData} {vs : List V} {F0 H : Hp} (hs : Same F0 H) (rs : Rps K F0 ds vs) : RelS K F0 H F0 H (ds.map Cell.val ++ List.replicate (N.length - ds.length) Cell.no) (L2.start N vs) := by
  refine ⟨Grow.refl hs, ?_, ?_, ?_, ?_, ?_, ?_⟩
  · unfold L2.start
    rw [List.length_append, List.length_append, List.length_map, List.length_map, List.length_replicate, List.length_replicate, rs.len]
  · intro i d e
    unfold L2.start
    by_cases hi : i < ds.length
    · rw [List.getElem?_append_left (by rw [List.length_map]; exact hi), List.getElem?_map] at e
      cases q : ds[i]? with
      | none => rw [q] at e; cases e
      | some d' =>
        rw [q] at e
        cases e
        obtain ⟨v, h1, h2⟩ := rs.get q
        exact ⟨v, by rw [List.getElem?_append_left (by rw [List.length_map, ← rs.len]; exact hi), List.getElem?_map, h1]; rfl, h2⟩
    · rw [List.getElem?_append_right (by rw [List.length_map]; omega), List.getElem?_replicate] at e
      split at e <;> cases e
  · intro i l e
    by_cases hi : i < ds.length
    · rw [List.getElem?_append_left (by rw [List.length_map]; exact hi), List.getElem?_map] at e
      cases q : ds[i]? with
      | none => rw [q] at e; cases e
      | some d' => rw [q] at e; cases e
    · rw [List.getElem?_append_right (by rw [List.length_map]; omega), List.getElem?_replicate] at e
      split at e <;> cases e
  · intro i j l m a e
    by_cases hi : i < ds.length
    · rw [List.getElem?_append_left (by rw [List.length_map]; exact hi), List.getElem?_map] at e
      cases q : ds[i]? with
      | none => rw [q] at e; cases e
      | some d' => rw [q] at e; cases e
    · rw [List.getElem?_append_right (by rw [List.length_map]; omega), List.getElem?_replicate] at e
      split at e <;> cases e
  · intro i l e
    by_cases hi : i < ds.length
    · rw [List.getElem?_append_left (by rw [List.length_map]; exact hi), List.getElem?_map] at e
      cases q : ds[i]? with
      | none => rw [q] at e; cases e
      | some d' => rw [q] at e; cases e
    · rw [List.getElem?_append_right (by rw [List.length_map]; omega), List.getElem?_replicate] at e
      split at e <;> cases e
  · intro i j l m a e
    by_cases hi : i < ds.length
    · rw [List.getElem?_append_left (by rw [List.length_map]; exact hi), List.getElem?_map] at e
      cases q : ds[i]? with
      | none => rw [q] at e; cases e
      | some d' => rw [q] at e; cases e
    · rw [List.getElem?_append_right (by rw [List.length_map]; omega), List.getElem?_replicate] at e
      split at e <;> cases e
theorem fn_ok {x qual : Str} {params : Arguments} {body : List Stmt} {scope : Scope} {dvs : List V} {f : Addr} {fd : FuncData} {ps : List Str} {b : Sxs} {C : Chk} {fs : List (List PyData → Rr)} {cs : List PyData} {ts : List (List (Str × Int))} {gs : List (Nat × Tk → List PyData → Rr)} {ks : List (List PyData → Rr)}
    (F : FunD K x qual params body scope dvs [] f fd) (S : C8.scC C.N ps scope = true) (hn : C.nm = scope.names) (chk : isB b C body = true)
    (hb : allP (fun x => mg x = none) C.blt) (hc : allP2 (ConP mg) C.cons cs) (he : ∀ (n : Nat) x, C.exc[n]? = some x → x ≠ ("" : Str) → ExcP K mg n x (cl n)) (ht : allP2 (TabP K w mg) C.tabs ts) (hf : allP2 (FnP P w K mg base cl k) C.fns fs) (hk : ClsOk K mg C.exc cl) (hx : allP2 (FnXP P w K mg base C.exc cl k) C.fnh gs) (hkf : allP2 (KfP P w K mg base cl k) C.kfn ks) (h0 : C.hot = false) (hi : ∀ (n : Nat) x, C.exc[n]? = some x → x ≠ ("" : Str) → n = 9 ∨ n = 10 → IniOk P w K mg base cl k n) :
    FnOk P w K mg base (L2N.CX P w) (k + 1) f fd ps (spD K cl (fnD (gdT fs cs ts gs ks) b C.N.length) ps.length) := by
  have S' := C8.fnScope_by S
  refine F.ok S' (fun vs H Q E h => h.1) fun cdv A outer s H vs Q E hr hsp => ?_
  obtain ⟨hl, ds, F0, hs, rs, pc⟩ := hsp
  have O : CtxOkS (cxOf (L2N.CX P w) P w K mg base C.N qual scope f cdv A outer s H E) C (fun cls d _ H => E cls d H) (gdT fs cs ts gs ks) cl k := {
    calm := fun _ => rfl
    nd := S'.nd
    nN := rfl
    kind := S'.kind
    sr := fun x kd e => .inl (by rw [hn] at e; exact e)
    fnok := fun _ _ => .inl rfl
    room := fun _ => hr
    roomh := L2H.roomH_of hr
    hotx := fun z => absurd (h0.symm.trans z) Bool.false_ne_true
    tk := L2N.takes_of rfl rfl rfl rfl
    stk := rfl
    frm := rfl
    cls := hk
    exi := fun n x e hx h _ => hi n x e hx h
    hfn := fun n x np e => by
      obtain ⟨g, h1, fa, fd2, ps2, a1, a2, a3, a4⟩ := allP2_get hx e
      have e2 : (gdT fs cs ts gs ks).fnh n = g := by
        show (gs[n]?).getD _ = g
        rw [h1]
        rfl
      refine ⟨fa, fd2, ps2, ?_, a2, a3, a4⟩
      rw [e2]
      exact a1
    pass := passes_of rfl
    blt := allP_mem hb
    con := fun n x e => by
      obtain ⟨d, h1, h2, u, h3, h4⟩ := allP2_get hc e
      exact ⟨d, u, h1, h2, h3, h4⟩
    exc := fun n x e en => by
      obtain ⟨Ca, f3, f4, f5, f6, f7, f8⟩ := he n x e en
      exact ⟨Ca, f3, f4, raises_own f5 f6, f7, f8⟩
    tab := fun n x e => by
      obtain ⟨t, h1, a, h2, h3⟩ := allP2_get ht e
      exact ⟨t, a, h1, h2, h3⟩
    kfns := fun n x np kn m df e => by
      obtain ⟨g, h1, a1⟩ := allP2_get hkf e
      have e2 : (gdT fs cs ts gs ks).kfn n = g := by
        show (ks[n]?).getD _ = g
        rw [h1]
        rfl
      rw [e2]
      exact a1
    fns := fun n x np dfl e => by
      obtain ⟨g, h1, h2⟩ := allP2_get hf e
      obtain ⟨fa, fd2, ps2, a1, a2, a3, a4⟩ := Kn.ex h2
      have e2 : (gdT fs cs ts gs ks).fn n = g := by
        show (fs[n]?).getD _ = g
        rw [h1]
        rfl
      refine ⟨fa, fd2, ps2, ?_, a2, a3, a4⟩
      rw [e2]
      exact a1 }
  refine ⟨_, soundB b _ C body _ _ O chk, ds.map Cell.val ++ List.replicate (C.N.length - ds.length) Cell.no, F0, F0, H, start_rel hs rs, ?_⟩
  · unfold PC fnD at pc
    cases e : sxs (gdT fs cs ts gs ks) b (ds.map Cell.val ++ List.replicate (C.N.length - ds.length) Cell.no) with
    | nx r =>
      rw [e] at pc
      exact fun σ F H R => (show PV K Q (.val .none) F0 _ from pc) .non F H R.g .non
    | ret x => rw [e] at pc; exact pc
    | brk r => rw [e] at pc; exact False.elim pc
    | cnt r => rw [e] at pc; exact False.elim pc
    | exc c r =>
      rw [e] at pc
      exact fun σ F H R => (show ∀ F' H', Grow F0 _ F' H' → ∀ d, Pay c F' d → E (cl (c % 16)) d H' from pc) F H R.g
    | fail => rw [e] at pc; exact False.elim pc
theorem fn_okIO {x qual : Str} {params : Arguments} {body : List Stmt} {scope : Scope} {dvs : List V} {f : Addr} {fd : FuncData} {ps : List Str} {b : Sxs} {C : Chk} {fs : List (List PyData → Rr)} {cs : List PyData} {ts : List (List (Str × Int))} {gs : List (Nat × Tk → List PyData → Rr)} {ks : List (List PyData → Rr)}
    (F : FunD K x qual params body scope dvs [] f fd) (S : C8.scC C.N ps scope = true) (hn : C.nm = scope.names) (chk : isB b C body = true)
    (hb : allP (fun x => mg x = none) C.blt) (hc : allP2 (ConP mg) C.cons cs) (he : ∀ (n : Nat) x, C.exc[n]? = some x → x ≠ ("" : Str) → ExcP K mg n x (cl n)) (ht : allP2 (TabP K w mg) C.tabs ts) (hf : allP2 (FnP P w K mg base cl k) C.fns fs) (hk : ClsOk K mg C.exc cl) (hx : allP2 (FnXP P w K mg base C.exc cl k) C.fnh gs) (hkf : allP2 (KfP P w K mg base cl k) C.kfn ks) (h0 : C.hot = false) (hi : ∀ (n : Nat) x, C.exc[n]? = some x → x ≠ ("" : Str) → n = 9 ∨ n = 10 → IniOk P w K mg base cl k n) (hio : okIo b = true) :
    FnOk P w K mg base (L2N.CX P w) (k + 1) f fd ps (spIO K (fnIO (gdT fs cs ts gs ks) b C.N.length) ps.length) := by
  have S' := C8.fnScope_by S
  refine F.ok S' (fun vs H Q E h => h.1) fun cdv A outer s H vs Q E hr hsp => ?_
  obtain ⟨hl, a, us, ws, l, ds, F0, l', rfl, ha, hFa, hs, rl, rs, ef, pc⟩ := hsp
  have O : CtxOkS (cxOf (L2N.CX P w) P w K mg base C.N qual scope f cdv A outer s H E) C (fun cls d _ H => E cls d H) (gdT fs cs ts gs ks) cl k := {
    calm := fun _ => rfl
    nd := S'.nd
    nN := rfl
    kind := S'.kind
    sr := fun x kd e => .inl (by rw [hn] at e; exact e)
    fnok := fun _ _ => .inl rfl
    room := fun _ => hr
    roomh := L2H.roomH_of hr
    hotx := fun z => absurd (h0.symm.trans z) Bool.false_ne_true
    tk := L2N.takes_of rfl rfl rfl rfl
    stk := rfl
    frm := rfl
    cls := hk
    exi := fun n x e hx h _ => hi n x e hx h
    hfn := fun n x np e => by
      obtain ⟨g, h1, fa, fd2, ps2, a1, a2, a3, a4⟩ := allP2_get hx e
      have e2 : (gdT fs cs ts gs ks).fnh n = g := by
        show (gs[n]?).getD _ = g
        rw [h1]
        rfl
      refine ⟨fa, fd2, ps2, ?_, a2, a3, a4⟩
      rw [e2]
      exact a1
    pass := passes_of rfl
    blt := allP_mem hb
    con := fun n x e => by
      obtain ⟨d, h1, h2, u, h3, h4⟩ := allP2_get hc e
      exact ⟨d, u, h1, h2, h3, h4⟩
    exc := fun n x e en => by
      obtain ⟨Ca, f3, f4, f5, f6, f7, f8⟩ := he n x e en
      exact ⟨Ca, f3, f4, raises_own f5 f6, f7, f8⟩
    tab := fun n x e => by
      obtain ⟨t, h1, a, h2, h3⟩ := allP2_get ht e
      exact ⟨t, a, h1, h2, h3⟩
    kfns := fun n x np kn m df e => by
      obtain ⟨g, h1, a1⟩ := allP2_get hkf e
      have e2 : (gdT fs cs ts gs ks).kfn n = g := by
        show (ks[n]?).getD _ = g
        rw [h1]
        rfl
      rw [e2]
      exact a1
    fns := fun n x np dfl e => by
      obtain ⟨g, h1, h2⟩ := allP2_get hf e
      obtain ⟨fa, fd2, ps2, a1, a2, a3, a4⟩ := Kn.ex h2
      have e2 : (gdT fs cs ts gs ks).fn n = g := by
        show (fs[n]?).getD _ = g
        rw [h1]
        rfl
      refine ⟨fa, fd2, ps2, ?_, a2, a3, a4⟩
      rw [e2]
      exact a1 }
  have hs2 : Same F0 (cutH H a) := fun b o e => by
    rw [cutH_ne (fun z => by rw [z, hFa] at e; cases e)]
    exact hs b o e
  unfold fnIO at ef
  dsimp only at ef
  split at ef
  case h_2 => cases ef
  rename_i l2 rest e
  cases ef
  have owd : ∀ (i : Nat) (m : Dic), (Cell.own l :: (ds.map Cell.val ++ List.replicate (C.N.length - (ds.length + 1)) Cell.no))[i]? = some (.dic m) → False := fun i m e => by
    cases i with
    | zero => cases e
    | succ i =>
      rw [List.getElem?_cons_succ] at e
      by_cases hi : i < ds.length
      · rw [List.getElem?_append_left (by rw [List.length_map]; exact hi), List.getElem?_map] at e
        cases q : ds[i]? with
        | none => rw [q] at e; cases e
        | some d' => rw [q] at e; cases e
      · rw [List.getElem?_append_right (by rw [List.length_map]; omega), List.getElem?_replicate] at e
        split at e <;> cases e
  have ow : ∀ (i : Nat) (m : List PyData), (Cell.own l :: (ds.map Cell.val ++ List.replicate (C.N.length - (ds.length + 1)) Cell.no))[i]? = some (.own m) → i = 0 ∧ m = l := fun i m e => by
    cases i with
    | zero => cases e; exact ⟨rfl, rfl⟩
    | succ i =>
      rw [List.getElem?_cons_succ] at e
      by_cases hi : i < ds.length
      · rw [List.getElem?_append_left (by rw [List.length_map]; exact hi), List.getElem?_map] at e
        cases q : ds[i]? with
        | none => rw [q] at e; cases e
        | some d' => rw [q] at e; cases e
      · rw [List.getElem?_append_right (by rw [List.length_map]; omega), List.getElem?_replicate] at e
        split at e <;> cases e
  refine ⟨_, io_sound b (G := gdT fs cs ts gs ks) (cl := cl) (k := k) O chk hio, Cell.own l :: (ds.map Cell.val ++ List.replicate (C.N.length - (ds.length + 1)) Cell.no), F0, F0, cutH H a, ⟨⟨Same.refl _, hs, fun b o e => ?_, fun _ _ => rfl⟩, ?_, ?_, ?_, ?_, ?_, ?_⟩, ?_⟩
  · by_cases hb : b = a
    · rw [hb, cutH_same] at e; cases e
    · rw [cutH_ne hb] at e; exact e
  · unfold L2.start
    rw [List.length_cons, List.length_append, List.length_append, List.length_map, List.length_map, List.length_replicate, List.length_replicate, rs.len, List.length_cons]
    omega
  · intro i d e
    unfold L2.start
    cases i with
    | zero => cases e
    | succ i =>
      rw [List.getElem?_cons_succ] at e
      by_cases hi : i < ds.length
      · rw [List.getElem?_append_left (by rw [List.length_map]; exact hi), List.getElem?_map] at e
        cases q : ds[i]? with
        | none => rw [q] at e; cases e
        | some d' =>
          rw [q] at e
          cases e
          obtain ⟨v, h1, h2⟩ := rs.get q
          exact ⟨v, by rw [List.getElem?_append_left (by rw [List.length_map, List.length_cons, ← rs.len]; omega), List.getElem?_map, List.getElem?_cons_succ, h1]; rfl, h2⟩
      · rw [List.getElem?_append_right (by rw [List.length_map]; omega), List.getElem?_replicate] at e
        split at e <;> cases e
  · intro i m e
    obtain ⟨rfl, rfl⟩ := ow i m e
    exact ⟨a, ws, rfl, hFa, cutH_same, ha, rl⟩
  · intro i j m1 m2 b e1 e2 _ _
    exact (ow i m1 e1).1.trans (ow j m2 e2).1.symm
  · intro i m e
    exact (owd i m e).elim
  · intro i j m1 m2 b e1 e2 _ _
    exact (owd i m1 e1).elim
  · rw [e]
    intro σ' F H' R es
    subst es
    obtain ⟨a2, ws2, q1, q2, q3, q4, q5⟩ := R.own 0 _ rfl
    have e0 : (L2.start C.N (V.ref a :: us))[0]? = some (some (.ref a)) := rfl
    rw [e0] at q1
    cases q1
    exact pc F H' ws2 R.g q2 q4 q5
/-- a def called where an exception is handled -/
theorem fn_okX {x qual : Str} {params : Arguments} {body : List Stmt} {scope : Scope} {dvs : List V} {f : Addr} {fd : FuncData} {ps : List Str} {b : Sxs} {C : Chk} {cs : List PyData} {ts : List (List (Str × Int))}
    (F : FunD K x qual params body scope dvs [] f fd) (S : C8.scC C.N ps scope = true) (hn : C.nm = scope.names) (chk : isB b C body = true)
    (hb : allP (fun x => mg x = none) C.blt) (hc : allP2 (ConP mg) C.cons cs) (he : ∀ (n : Nat) x, C.exc[n]? = some x → x ≠ ("" : Str) → ExcP K mg n x (cl n)) (ht : allP2 (TabP K w mg) C.tabs ts) (hk : ClsOk K mg C.exc cl) (h1 : C.hot = true) (h2 : C.fns = []) (h3 : C.fnh = []) (h4 : C.kfn = []) :
    FnX P w K mg base C.exc cl (k + 1) f fd ps (fun h => fnD ((gdT [] cs ts).seth h.1 h.2) b C.N.length) ps.length := by
  have S' := C8.fnScope_by S
  refine ⟨rfl, fun A outer s H args us vs Q p c D dd hr hot hpin e0 hbd r hD hz hX hy hsp => ?_⟩
  obtain ⟨oc, od, dV, kV, doc, pm, an, cdv, ct, osl, rfl, lk, hcd, _, _⟩ := F.ex
  have KX : K.In s.heap := e0.mod.kin.keeps fun b o e => (e0.bs b o e).1
  have lim : s.heap.NoLimit := e0.mod.nolimit.keeps fun b o e => (e0.bs b o e).1
  have hkind : ∀ y ∈ ps.zip us, scope.names.lookup y.1 = some .local ∨ (scope.names.lookup y.1 = some .cell ∧ ((cellsFrom (s.heap.objs.size + 1) scope.names []).lookup y.1).isSome = true) := fun ⟨n, v⟩ hy => by
    rcases S'.par n (List.of_mem_zip hy).1 with q | q
    · exact .inl q
    · exact .inr ⟨q, PySem.W.cellsFrom_some _ _ _ (.inl q)⟩
  refine codeAny_call_function hr.depth (KX _ _ lk) rfl S'.co S'.gen rfl (PySem.W.codeRec_of KX hcd) (hbd _ _ _ _ ?_)
  refine wpAny_newFunctionEnv_cells S'.kind hkind fun env he2 s1 hcall => ?_
  subst he2
  refine ⟨lim.keeps hcall.toInCall.keep, codeAny_func ?_⟩
  obtain ⟨hl, ds, F0, hs, rs, pc⟩ := hsp
  have I : Inv (L2H.cxH (L2N.CX P w) P w K mg base C.N qual scope f cdv A outer s H (fun _ _ _ => False) p) [] (L2.start C.N vs) H s1 := L2H.inv_startH S' hpin e0 hl r hcall
  have O : CtxOkS (L2H.cxH (L2N.CX P w) P w K mg base C.N qual scope f cdv A outer s H (fun _ _ _ => False) p) C (fun cls d _ H => False) ((gdT [] cs ts).seth c (p.1, dd)) cl k := {
    calm := fun z => absurd (h1.symm.trans z) (by decide)
    nd := S'.nd
    nN := rfl
    kind := S'.kind
    sr := fun x kd e => .inl (by rw [hn] at e; exact e)
    fnok := fun _ _ => .inl rfl
    room := fun z => absurd (h1.symm.trans z) (by decide)
    roomh := hr.deeper _
    hotx := fun _ => ⟨c, (p.1, dd), D, p.2, rfl, List.mem_singleton.mpr rfl, hz, (by obtain ⟨_, vs, e, _⟩ := hot; exact ⟨vs, e⟩), hot.1, hD, hX, hy⟩
    tk := takes0N
    stk := rfl
    frm := rfl
    cls := hk
    exi := fun n x e hx h z => absurd (h1.symm.trans z) (by decide)
    hfn := fun n x np e => by rw [h3] at e; cases e
    pass := passes_of rfl
    blt := allP_mem hb
    con := fun n x e => by
      obtain ⟨d, h1, h2, u, h3, h4⟩ := allP2_get hc e
      exact ⟨d, u, h1, h2, h3, h4⟩
    exc := fun n x e en => by
      obtain ⟨Ca, f3, f4, f5, f6, f7, f8⟩ := he n x e en
      exact ⟨Ca, f3, f4, raises_own f5 f6, f7, f8⟩
    tab := fun n x e => by
      obtain ⟨t, h1, a, h2, h3⟩ := allP2_get ht e
      exact ⟨t, a, h1, h2, h3⟩
    kfns := fun n x np kn m df e => by rw [h4] at e; cases e
    fns := fun n x np dfl e => by rw [h2] at e; cases e }
  have run := (soundB b ((gdT [] cs ts).seth c (p.1, dd)) C body _ _ O chk).run [] s1 (L2.start C.N vs) H { nx := fun _ H' => Q .non H', rt := Q } I ⟨_, F0, F0, H, start_rel hs rs, by
    unfold PC fnD at pc
    cases e : sxs ((gdT [] cs ts).seth c (p.1, dd)) b (ds.map Cell.val ++ List.replicate (C.N.length - ds.length) Cell.no) with
    | nx r =>
      rw [e] at pc
      exact fun σ F H R => (show PV K Q (.val .none) F0 _ from pc) .non F H R.g .non
    | ret x => rw [e] at pc; exact pc
    | brk r => rw [e] at pc; exact False.elim pc
    | cnt r => rw [e] at pc; exact False.elim pc
    | exc c r =>
      rw [e] at pc
      exact fun σ F H R d pay => (show ∀ F' H', Grow F0 _ F' H' → ∀ d, Pay c F' d → False from pc) F H R.g d pay
    | fail => rw [e] at pc; exact False.elim pc⟩
  refine wpAny_mono run (fun fl s' hs => ?_) fun e s' hs => hs
  have fin : ∀ {σ' : L2.St} {H' : Hp} {v : V} {u : Value}, Inv (L2H.cxH (L2N.CX P w) P w K mg base C.N qual scope f cdv A outer s H (fun _ _ _ => False) p) [] σ' H' s' → RelV v u → Q v H' → L2.CE outer P w H s Q u s' :=
    fun {σ' H' v u} J rv q => ⟨v, H', J.os, J.bare, J.base, J.hok, rv, q⟩
  cases fl with
  | ret u =>
    obtain ⟨v, σ', H', J, rv, q⟩ := hs
    exact fin J rv q
  | next =>
    obtain ⟨σ', H', J, q⟩ := hs
    exact fin (v := V.non) (u := Value.none) J rfl q
  | brk =>
    obtain ⟨_, _, _, q⟩ := hs
    exact False.elim q
  | cont =>
    obtain ⟨_, _, _, q⟩ := hs
    exact False.elim q
theorem fn_kn {x qual : Str} {params : Arguments} {body : List Stmt} {scope : Scope} {dfl : List PyData} {f : Addr} {fd : FuncData} {ps : List Str} {b : Sxs} {C : Chk} {fs : List (List PyData → Rr)} {cs : List PyData} {ts : List (List (Str × Int))} {gs : List (Nat × Tk → List PyData → Rr)} {ks : List (List PyData → Rr)}
    (F : FunD K x qual params body scope (dfl.map dV) [] f fd) (hm : mg x = some (.ref f)) (bind : ∀ j, j ≤ dfl.length → ∃ ds, Vals ((dfl.drop j).map dV) ds ∧ Binds K fd ps ds) (S : C8.scC C.N ps scope = true) (hn : C.nm = scope.names) (chk : isB b C body = true)
    (hb : allP (fun x => mg x = none) C.blt) (hc : allP2 (ConP mg) C.cons cs) (he : ∀ (n : Nat) x, C.exc[n]? = some x → x ≠ ("" : Str) → ExcP K mg n x (cl n)) (ht : allP2 (TabP K w mg) C.tabs ts) (hf : allP2 (FnP P w K mg base cl k) C.fns fs) (hk : ClsOk K mg C.exc cl) (hx : allP2 (FnXP P w K mg base C.exc cl k) C.fnh gs) (hkf : allP2 (KfP P w K mg base cl k) C.kfn ks) (h0 : C.hot = false) (hi : ∀ (n : Nat) x, C.exc[n]? = some x → x ≠ ("" : Str) → n = 9 ∨ n = 10 → IniOk P w K mg base cl k n) (hps : ps.length < 1000) :
    Kn P w K mg base cl (k + 1) x ps.length dfl (fnD (gdT fs cs ts gs ks) b C.N.length) := ⟨f, fd, ps, by rw [spF_d hps]; exact fn_ok F S hn chk hb hc he ht hf hk hx hkf h0 hi, hm, F.kp, bind⟩
theorem fn_knIO {x qual : Str} {params : Arguments} {body : List Stmt} {scope : Scope} {f : Addr} {fd : FuncData} {ps : List Str} {b : Sxs} {C : Chk} {fs : List (List PyData → Rr)} {cs : List PyData} {ts : List (List (Str × Int))}
    (F : FunD K x qual params body scope [] [] f fd) (hm : mg x = some (.ref f)) (bind : Binds K fd ps []) (S : C8.scC C.N ps scope = true) (hn : C.nm = scope.names) (chk : isB b C body = true)
    (hb : allP (fun x => mg x = none) C.blt) (hc : allP2 (ConP mg) C.cons cs) (he : ∀ (n : Nat) x, C.exc[n]? = some x → x ≠ ("" : Str) → ExcP K mg n x (cl n)) (ht : allP2 (TabP K w mg) C.tabs ts) (hf : allP2 (FnP P w K mg base cl k) C.fns fs) (hk : ClsOk K mg C.exc cl) (hx : allP2 (FnXP P w K mg base C.exc cl k) C.fnh []) (hkf : allP2 (KfP P w K mg base cl k) C.kfn []) (h0 : C.hot = false) (hi : ∀ (n : Nat) x, C.exc[n]? = some x → x ≠ ("" : Str) → n = 9 ∨ n = 10 → IniOk P w K mg base cl k n) (hio : okIo b = true) :
    Kn P w K mg base cl (k + 1) x (ps.length + 1000) [] (fnIO (gdT fs cs ts) b C.N.length) := ⟨f, fd, ps, by rw [spF_io]; exact fn_okIO F S hn chk hb hc he ht hf hk hx hkf h0 hi hio, hm, F.kp, fun j _ => ⟨[], by cases j <;> exact .nil, bind⟩⟩
theorem fn_kf {x qual : Str} {params : Arguments} {body : List Stmt} {scope : Scope} {dvs : List V} {f : Addr} {fd : FuncData} {ps : List Str} {b : Sxs} {C : Chk} {fs : List (List PyData → Rr)} {cs : List PyData} {ts : List (List (Str × Int))} {kn : Str} {n : Nat} {mid : List PyData}
    (F : FunD K x qual params body scope dvs [] f fd) (hm : mg x = some (.ref f)) (kb : ∃ its : List Value, KBn K fd ps n [kn] (fun us ws => us ++ (its ++ ws)) (fun vs zs => vs ++ (mid.map dV ++ zs))) (S : C8.scC C.N ps scope = true) (hn : C.nm = scope.names) (chk : isB b C body = true)
    (hb : allP (fun x => mg x = none) C.blt) (hc : allP2 (ConP mg) C.cons cs) (he : ∀ (n : Nat) x, C.exc[n]? = some x → x ≠ ("" : Str) → ExcP K mg n x (cl n)) (ht : allP2 (TabP K w mg) C.tabs ts) (hf : allP2 (FnP P w K mg base cl k) C.fns fs) (hk : ClsOk K mg C.exc cl) (hx : allP2 (FnXP P w K mg base C.exc cl k) C.fnh []) (hkf : allP2 (KfP P w K mg base cl k) C.kfn []) (h0 : C.hot = false) (hi : ∀ (n : Nat) x, C.exc[n]? = some x → x ≠ ("" : Str) → n = 9 ∨ n = 10 → IniOk P w K mg base cl k n) (hkn : kn ≠ "") :
    KfP P w K mg base cl (k + 1) (x, ps.length, kn, n, mid) (fnD (gdT fs cs ts) b C.N.length) := by
  obtain ⟨its, h⟩ := kb
  exact ⟨fun _ => ⟨f, fd, ps, its, fn_ok F S hn chk hb hc he ht hf hk hx hkf h0 hi, hm, F.kp, h⟩, fun z => absurd z hkn⟩
end
theorem bind0 {K : PySem.W.Frag} {fd : FuncData} {ps : List Str} (h : Binds K fd ps []) : ∀ j, j ≤ ([] : List PyData).length → ∃ ds, Vals ((([] : List PyData).drop j).map dV) ds ∧ Binds K fd ps ds := fun j _ => ⟨[], by cases j <;> exact .nil, h⟩

/-! ### the end of a law -/
theorem walk_EB {l : PySem.W.OpenLaw} {n k : Nat} {q : Program} {loose : List Str} {XP : (Str → Option Value) → Heap → Prop} {YP : World → Heap → Prop} {d : DefRec} {CX : World → CXT} {x : Str}
    (hn : l.most = some n) (hn2 : n ≤ sizeLine) (hdf : d.params.defaults = []) (hr : Room k callerA)
    (F : ∀ (w : World) (mg : Str → Option Value) (fa : Addr) (h : Heap), YP w h → h.Ns mainGlobals mg → mg d.name = some (.ref fa) →
      ∃ (K : PySem.W.Frag) (fd : FuncData) (sp : Sp), K.In h ∧ (∀ (s : Shared) (u : Value), BindsTo s fd ⟨[u], []⟩ [(x, u)]) ∧
        (∀ (H : Hp) (a : Addr) (ns : List Int), ns.length ≤ n → (∀ z ∈ ns, Builtin.Int.intBits z ≤ 1048576) → Only H → SqL K H a (ns.map V.int) → sp [.ref a] H (fun v _ => v = .bl true) fun _ _ _ => False) ∧
        ∀ base : Heap, K.In base → base.Ns mainGlobals mg → FnOk l.prog w K mg base (CX w) k fa fd [x] sp)
    (hCX : ∀ (w : World) (H : Hp) (s : Shared) (e : Value) (s' : Shared), CX w [] H s (fun _ _ _ => False) e s' → False) :
    PySem.W.WalkO q loose XP YP l.row.toRowW d [] (fun f vs => PySem.call f vs) := by
  refine Att.attach_callB hn hdf fun w s₀ s₁ mg mb fa o pm cd doc a vs ns G Y ho hd hcd hmg hobj hints hlen hbits hg => ?_
  obtain ⟨K, fd, sp, KX, hb, hsp, hF⟩ := F w mg fa _ Y G.T.g hmg
  exact law_call KX G.T.g G.T.b G.T.builtins G.T.nolimit hg hobj hints (Nat.le_trans hlen hn2) hr hF hb (fun H hO hS => hsp H a ns hlen hbits hO hS) fun H e s' => hCX w H s₁ e s'
theorem noCX {P : Program} {w : World} {H : Hp} {s : Shared} {e : Value} {s' : Shared} (h : L2N.CX P w [] H s (fun _ _ _ => False) e s') : False := by
  obtain ⟨_, _, _, _, _, _, _, _, _, _, _, _, q⟩ := h
  exact q
/-- the law's promise -/
theorem law_sp {K : PySem.W.Frag} {cl : Nat → Value} {f : List PyData → Rr} {H : Hp} {a : Addr} {ns : List Int} (h : f [.list (ns.map PyData.int)] = .ok (.val (.bool true))) (S : SqL K H a (ns.map V.int)) : spD K cl f 1 [.ref a] H (fun v _ => v = .bl true) fun _ _ _ => False := by
  refine ⟨rfl, [.list (ns.map PyData.int)], H, Same.refl _, .cons (.lst S Rps.ints) .nil, ?_⟩
  unfold PC
  rw [h]
  intro v F' H' g r
  cases r
  rfl
end PX

/-! PX16: the facts that the head tells, put to use. -/
namespace PX
open PySem PySem.Spec PyProof.Rows L2

def conFa (p : Str × PyData) : He.Fa := match p.2 with
  | .int i => .int p.1 i
  | .str z => .str p.1 z
  | _ => .glo p.1
def conOk (d : PyData) : Bool := match d with
  | .int _ => true
  | .str _ => true
  | _ => false
def exN (excs : List Str) : List Str := excs.filter fun x => !(x == ("" : Str))
def mkFa (gl blts : List Str) (cons : List (Str × PyData)) (excs : List Str) : List He.Fa := gl.map He.Fa.glo ++ (blts.map He.Fa.free ++ (cons.map conFa ++ ((exN (excs.take 9)).map He.Fa.exc ++ (exN excs).map He.Fa.glo)))
def dvOf : PyData → He.Dv
  | .bool b => .bl b
  | .int i => .int i
  | .str x => .str x
  | _ => .non
theorem dvOf_v {K : PySem.W.Frag} : ∀ dfl : List PyData, (dfl.map dvOf).map (He.Dv.v K) = dfl.map dV
  | [] => rfl
  | d :: ds => by
    rw [List.map_cons, List.map_cons, List.map_cons, dvOf_v ds]
    cases d <;> rfl
def mkD (x : Str) (st : Stmt) (dfl : List PyData) : He.DefD := ⟨(x, none), x, x, defArgs st, defBody st, defScope st, dfl.map dvOf, []⟩
def clOf (K : PySem.W.Frag) (excs : List Str) (n : Nat) : Value := .ref (He.ga K (excs.getD n ""))
/-! ### classes of exceptions -/
def excCB (K : PySem.W.Frag) (D : Addr) : Bool := decide (PySem.W.findIn K (.ref D) "__getattribute__" = some (some (.builtin "BaseException.__getattribute__"))) && decide (PySem.W.findIn K (.ref D) "__getattr__" = some none) && decide (PySem.W.subIn K (.ref D) (.type "BaseException") = some true) && PySem.W.hasDictIn K D &&
  decide (PySem.W.findIn K (.ref D) "__class__" = some (some (.builtin "object.__class__"))) && decide (PySem.W.specialIn K (.builtin "object.__class__") "__get__" = some (some (.builtin "getset_descriptor.__get__"))) && decide (PySem.W.takesIn K (.builtin "object.__class__") = some true) && decide (PySem.W.mroIn K D (.type "object") = some true)
theorem excCB_ok {K : PySem.W.Frag} {D : Addr} (h : excCB K D = true) : ExcC K D := by
  unfold excCB at h
  simp only [Bool.and_eq_true, decide_eq_true_eq] at h
  obtain ⟨⟨⟨⟨⟨⟨⟨a1, a2⟩, a3⟩, a4⟩, a5⟩, a6⟩, a7⟩, a8⟩ := h
  exact ⟨a1, a2, a3, a4, a5, a6, a7, a8⟩
def exc3B (K : PySem.W.Frag) (D : Addr) : Bool := PySem.W.keepIn K (.ref D) && decide (PySem.W.subIn K (.ref D) (.type "BaseException") = some true) && decide (PySem.W.typeIn K (.ref D) = some (.type "type"))
def Exc3 (K : PySem.W.Frag) (D : Addr) : Prop := PySem.W.keepIn K (.ref D) = true ∧ PySem.W.subIn K (.ref D) (.type "BaseException") = some true ∧ PySem.W.typeIn K (.ref D) = some (.type "type")
theorem exc3B_ok {K : PySem.W.Frag} {D : Addr} (h : exc3B K D = true) : Exc3 K D := by
  unfold exc3B at h
  simp only [Bool.and_eq_true, decide_eq_true_eq] at h
  exact ⟨h.1.1, h.1.2, h.2⟩
def oexB (K : PySem.W.Frag) (C : Addr) : Bool := (match K.lookup C with
  | some ⟨.type "type", _, .cls cd, sl⟩ => (match cd.mro, sl.toList with
    | .ref C' :: bm, [_, _, _, _, some (.builtin n), _] => C' == C && n == "ValueError.__new__" && !cd.hasDel && cd.hasDict && PySem.HandSPX.refsVE bm
    | _, _ => false)
  | _ => false) && decide (PySem.W.findIn K (.ref C) "__setattr__" = some (some (.builtin "object.__setattr__"))) && exc3B K C
theorem oexB_ok {K : PySem.W.Frag} {C : Addr} (h : oexB K C = true) : OexC K C := by
  unfold oexB at h
  rw [Bool.and_eq_true, Bool.and_eq_true, decide_eq_true_eq] at h
  obtain ⟨⟨q, h2⟩, h3⟩ := h
  obtain ⟨z1, z2, z3⟩ := exc3B_ok h3
  refine ⟨?_, h2, z2, z3, z1⟩
  split at q
  · rename_i dd cd sl ho
    split at q
    · rename_i C' bm k0 k1 k2 k3 n k5 hm hs
      simp only [Bool.and_eq_true, beq_iff_eq, Bool.not_eq_true'] at q
      obtain ⟨⟨⟨⟨rfl, rfl⟩, hdel⟩, hd⟩, hbm⟩ := q
      obtain ⟨nm, bs, mro, ns, qn, hdd, sn, sub, ab, col, del⟩ := cd
      dsimp only at hm hdel hd
      subst hm hdel hd
      have hsl : sl = #[k0, k1, k2, k3, some (.builtin "ValueError.__new__"), k5] := by
        obtain ⟨l⟩ := sl
        simp only at hs
        rw [hs]
      subst hsl
      exact ⟨nm, qn, ns, bs, bm, sn, sub, ab, col, dd, k0, k1, k2, k3, k5, ho, hbm⟩
    · cases q
  · cases q
def binB (K : PySem.W.Frag) (B : Addr) : Bool := PySem.W.readsIn K B (.type "type") && decide (PySem.W.specialIn K (.ref B) "__getattribute__" = some (some (.builtin "type.__getattribute__"))) && (match PySem.W.findCls K (.ref B) (.type "type") "__init__" with
  | some (.val v) => v == .builtin "ValueError.__init__"
  | _ => false)
theorem binB_ok {K : PySem.W.Frag} {B : Addr} (h : binB K B = true) : PXI.BIn K B := by
  unfold binB at h
  rw [Bool.and_eq_true, Bool.and_eq_true, decide_eq_true_eq] at h
  obtain ⟨⟨a1, a2⟩, a3⟩ := h
  refine ⟨a1, a2, ?_⟩
  split at a3
  · rename_i v e
    rw [e, beq_iff_eq.mp a3]
  · cases a3
/-- no class with a place -/
def noPl (excs : List Str) : Bool := (excs.getD 9 "" == ("" : Str)) && (excs.getD 10 "" == ("" : Str))
def iniA (K : PySem.W.Frag) (x : Str) : Bool := (x == ("" : Str)) || (oexB K (He.ga K x) && decide (PySem.W.findIn K (.ref (He.ga K x)) "__init__" = some (some (.ref (He.fAd K (x, some "__init__"))))) && decide (PySem.W.typeIn K (.ref (He.fAd K (x, some "__init__"))) = some (.type "function")))
def iniB (excs : List Str) (K : PySem.W.Frag) : Bool := noPl excs || (iniA K (excs.getD 9 "") && iniA K (excs.getD 10 "") && binB K (He.ga K "BoardError"))
/-- no class has a place of its own -/
def plB (excs : List Str) (K : PySem.W.Frag) : Bool := (List.range excs.length).all fun c => (excs.getD c "" == ("" : Str)) || decide (PySem.W.findIn K (clOf K excs c) "place" = some none)
def clsB (excs : List Str) (K : PySem.W.Frag) : Bool := (List.range excs.length).all fun c => (excs.getD c "" == ("" : Str)) || ((exc3B K (He.ga K (excs.getD c "")) && excCB K (He.ga K (excs.getD c ""))) && decide (PySem.W.kitOne K (clOf K excs c) (.type "ValueError") = some true) &&
  (List.range excs.length).all fun C => (excs.getD C "" == ("" : Str)) || (decide (PySem.W.kitOne K (clOf K excs c) (clOf K excs C) = some (subC c C)) && decide (PySem.W.exmOne K (clOf K excs c) (clOf K excs C) = some (subC c C))))
/-- every class that is there -/
def Cls3 (K : PySem.W.Frag) (excs : List Str) : Prop := ∀ (c : Nat) x, excs[c]? = some x → x ≠ ("" : Str) → Exc3 K (He.ga K x)
theorem cls3_of {excs : List Str} {K : PySem.W.Frag} (h : clsB excs K = true) : Cls3 K excs := fun c x e hx => by
  have e2 : excs.getD c "" = x := by rw [List.getD_eq_getElem?_getD, e]; rfl
  have q := List.all_eq_true.mp h c (List.mem_range.mpr (List.getElem?_eq_some_iff.mp e).1)
  rw [Bool.or_eq_true, beq_iff_eq] at q
  rcases q with q | q
  · exact absurd (e2.symm.trans q) hx
  · rw [Bool.and_eq_true, Bool.and_eq_true, Bool.and_eq_true, e2] at q
    exact exc3B_ok q.1.1.1
theorem cls3_none {excs : List Str} {K : PySem.W.Frag} (h : exN excs = []) : Cls3 K excs := fun c x e hx => by
  have : x ∈ exN excs := List.mem_filter.mpr ⟨List.mem_of_getElem? e, by simpa using hx⟩
  rw [h] at this
  cases this
theorem cls_of {excs : List Str} {K : PySem.W.Frag} {mg : Str → Option Value} (h : clsB excs K = true) (hp : plB excs K = true) : ClsOk K mg excs (clOf K excs) := by
  have at1 : ∀ (c : Nat) x, excs[c]? = some x → x ≠ ("" : Str) → excCB K (He.ga K (excs.getD c "")) = true ∧ PySem.W.kitOne K (clOf K excs c) (.type "ValueError") = some true ∧
      ∀ (C : Nat) y, excs[C]? = some y → y ≠ ("" : Str) → PySem.W.kitOne K (clOf K excs c) (clOf K excs C) = some (subC c C) ∧ PySem.W.exmOne K (clOf K excs c) (clOf K excs C) = some (subC c C) := fun c x e hx => by
    have e2 : excs.getD c "" = x := by rw [List.getD_eq_getElem?_getD, e]; rfl
    have q := List.all_eq_true.mp h c (List.mem_range.mpr (List.getElem?_eq_some_iff.mp e).1)
    rw [Bool.or_eq_true, beq_iff_eq] at q
    rcases q with q | q
    · exact absurd (e2.symm.trans q) hx
    · rw [Bool.and_eq_true, Bool.and_eq_true, Bool.and_eq_true, decide_eq_true_eq] at q
      refine ⟨q.1.1.2, q.1.2, fun C y e3 hy => ?_⟩
      have e4 : excs.getD C "" = y := by rw [List.getD_eq_getElem?_getD, e3]; rfl
      have q2 := List.all_eq_true.mp q.2 C (List.mem_range.mpr (List.getElem?_eq_some_iff.mp e3).1)
      rw [Bool.or_eq_true, beq_iff_eq] at q2
      rcases q2 with q2 | q2
      · exact absurd (e4.symm.trans q2) hy
      · rw [Bool.and_eq_true, decide_eq_true_eq, decide_eq_true_eq] at q2
        exact q2
  refine ⟨fun c C D D2 x y e1 h1 e2 h2 d1 d2 => ?_, fun c C D2 x y e1 h1 e2 h2 d2 => ?_, fun c x e1 h1 => ⟨_, rfl, excCB_ok (at1 c x e1 h1).1⟩, fun c D x e1 h1 d1 => ?_, fun c D x e1 h1 d1 => ?_⟩
  · rw [← d1, ← d2]
    exact ((at1 c x e1 h1).2.2 C y e2 h2).1
  · rw [← d2]
    exact ((at1 c x e1 h1).2.2 C y e2 h2).2
  · have e3 : excs.getD c "" = x := by rw [List.getD_eq_getElem?_getD, e1]; rfl
    have q := List.all_eq_true.mp hp c (List.mem_range.mpr (List.getElem?_eq_some_iff.mp e1).1)
    rw [Bool.or_eq_true, beq_iff_eq, decide_eq_true_eq, d1] at q
    exact q.resolve_left fun z => h1 (e3.symm.trans z)
  · rw [← d1]
    exact (at1 c x e1 h1).2.1
theorem cls_none {excs : List Str} {K : PySem.W.Frag} {mg : Str → Option Value} {cl : Nat → Value} (h : exN excs = []) : ClsOk K mg excs cl := by
  have no : ∀ (c : Nat) x, excs[c]? = some x → x ≠ ("" : Str) → False := fun c x e hx => by
    have : x ∈ exN excs := List.mem_filter.mpr ⟨List.mem_of_getElem? e, by simpa using hx⟩
    rw [h] at this
    cases this
  exact ⟨fun c C D D2 x y e1 h1 => (no c x e1 h1).elim, fun c C D2 x y e1 h1 => (no c x e1 h1).elim, fun c x e1 h1 => (no c x e1 h1).elim, fun c D x e1 h1 => (no c x e1 h1).elim, fun c D x e1 h1 => (no c x e1 h1).elim⟩
/-! ### tables -/
def tabDv (t : List (Str × Int)) : List (Str × He.Dv) := t.map fun q => (q.1, He.Dv.int q.2)
def tabsB (tbs : List Tb) (K : PySem.W.Frag) : Bool := tbs.all fun p => He.valsB K (He.ga K p.1) (tabDv p.2)
def tabT (tbs : List Tb) : List He.Tab := tbs.map fun p => (fun K => He.ga K p.1, p.2.map (·.1))
abbrev AlX : Type := He.AlT × Bool
def obsX (fa : List He.Fa) (fn : List He.DefD) (tbs : List Tb) (xs : List Str) (K : PySem.W.Frag) : AlX := (He.obsT fa fn (tabT tbs) K, tabsB tbs K && (clsB xs K && (plB xs K && iniB xs K)))
def valX (fn : List He.DefD) (tbs : List Tb) (w : World) : AlX := (He.valT fn (tabT tbs) w, true)
def obsXG (n : Nat) (fa : List He.Fa) (fn : List He.DefD) (tbs : List Tb) (xs : List Str) (g : Addr → Option Obj) : AlX := obsX fa fn tbs xs (He.frG g (List.range n))
def SaysX (fa : List He.Fa) (fn : List He.DefD) (tbs : List Tb) (xs : List Str) (w : World) (K : PySem.W.Frag) : Prop := obsX fa fn tbs xs K = valX fn tbs w
def hookX (n : Nat) (fa : List He.Fa) (fn : List He.DefD) (tbs : List Tb) (xs : List Str) : PySem.W.Hook where
  α := AlX
  obs := fun s => obsXG n fa fn tbs xs s.heap.get?
  val := fun w => valX fn tbs w
  says := fun w h => ∃ K : PySem.W.Frag, K.In h ∧ SaysX fa fn tbs xs w K
  of := fun _ _ e => ⟨_, He.frG_in, e⟩
  keeps := fun _ _ _ ⟨K, hK, c⟩ k => ⟨K, PySem.W.Frag.In.keeps hK k, c⟩
theorem obsXG_eq {n : Nat} {fa : List He.Fa} {fn : List He.DefD} {tbs : List Tb} {xs : List Str} {g : Addr → Option Obj} {s : Shared} (h : ∀ a, g a = s.heap.get? a) : obsXG n fa fn tbs xs g = (hookX n fa fn tbs xs).obs s := by
  have e : g = s.heap.get? := funext h
  rw [e] <;> rfl
theorem lookup_mem' {z : Str} {i : Int} : ∀ {t : List (Str × Int)}, t.lookup z = some i → (z, i) ∈ t
  | [], h => by cases h
  | (k, j) :: t, h => by
    have h2 : (match z == k with | true => some j | false => t.lookup z) = some i := h
    cases q : (z == k) with
    | true =>
      rw [q] at h2
      have e : j = i := Option.some.inj h2
      rw [beq_iff_eq.mp q, e]
      exact List.mem_cons_self
    | false =>
      rw [q] at h2
      exact List.mem_cons_of_mem _ (lookup_mem' h2)
theorem lookup_none' {z : Str} : ∀ {t : List (Str × Int)}, t.lookup z = none → ∀ k ∈ t.map (·.1), k ≠ z
  | [], _, k, hk => by cases hk
  | (k0, j) :: t, h, k, hk => by
    have h2 : (match z == k0 with | true => some j | false => t.lookup z) = none := h
    cases q : (z == k0) with
    | true => rw [q] at h2; cases h2
    | false =>
      rw [q] at h2
      rcases List.mem_cons.mp hk with e | e
      · intro c
        rw [← c, e] at q
        simp at q
      · exact lookup_none' h2 k e
theorem keys_of {P : Params} : ∀ {l : List DictEntry} {ks : List Str}, l.map He.keyOf = He.keysIn P ks → ∀ e ∈ l, ∃ k t, k ∈ ks ∧ e.key = .str k t
  | [], _, _, e, h => by cases h
  | d :: r, [], h, e, _ => by cases h
  | d :: r, k :: ks, h, e, he => by
    have h1 : He.keyOf d :: r.map He.keyOf = some (k, PyData.keyHash P k) :: He.keysIn P ks := h
    injection h1 with h2 h3
    rcases List.mem_cons.mp he with q | q
    · subst q
      unfold He.keyOf at h2
      split at h2
      · rename_i x t q2
        have h4 := Option.some.inj h2
        obtain ⟨h5, h6⟩ := Prod.mk.inj h4
        exact ⟨x, t, by rw [h5]; exact List.mem_cons_self, q2⟩
      · cases h2
    · obtain ⟨k2, t, a, b⟩ := keys_of h3 e q
      exact ⟨k2, t, List.mem_cons_of_mem _ a, b⟩
theorem tab_of {K : PySem.W.Frag} {w : World} {a : Addr} {t : List (Str × Int)} (h : He.dicW K a = some (He.keysIn w.params (t.map (·.1)))) (hv : He.valsB K a (tabDv t) = true) : TabOk K w a t := by
  obtain ⟨es, n, D⟩ := He.dicW_ok h
  have hk : es.toList.map He.keyOf = He.keysIn w.params (t.map (·.1)) := by
    unfold He.dicW at h
    rw [D.at_] at h
    have h1 : (match decide (("dict" : String) = "dict") && ((#[] : Array (Option Value)).isEmpty && !(a == sysModules)) with
      | true => some (es.toList.map He.keyOf)
      | false => none) = some (He.keysIn w.params (t.map (·.1))) := h
    rw [D.low] at h1
    exact Option.some.inj h1
  refine ⟨es, n, D.at_, D.lit, D.low, fun z => ?_⟩
  cases e : t.lookup z with
  | some i =>
    obtain ⟨u, h1, h2⟩ := He.valsB_ok hv (q := (z, He.Dv.int i)) (List.mem_map.mpr ⟨(z, i), lookup_mem' e, rfl⟩)
    exact ⟨some u, h1, u, rfl, h2⟩
  | none =>
    refine ⟨none, ?_, rfl⟩
    have no := lookup_none' e
    have f1 : es.toList.find? (·.key.isStr z) = none := List.find?_eq_none.mpr fun d hd => by
      obtain ⟨k, tk, k1, k2⟩ := keys_of hk d hd
      rw [k2]
      have := no k k1
      simpa [Value.isStr] using this
    have f2 : es.toList.any (·.refKey) = false := by
      rw [List.any_eq_false]
      intro d hd
      obtain ⟨k, tk, k1, k2⟩ := keys_of hk d hd
      simp [DictEntry.refKey, k2]
    unfold PySem.W.nsIn
    rw [D.at_]
    show (match es.toList.find? (·.key.isStr z) with
      | some e => some (some e.val)
      | none => if es.toList.any (·.refKey) then none else some none) = some none
    rw [f1, f2]
    rfl
theorem SaysX.d {fa : List He.Fa} {fn : List He.DefD} {tbs : List Tb} {xs : List Str} {w : World} {K : PySem.W.Frag} (c : SaysX fa fn tbs xs w K) : He.SaysD fa fn K := He.SaysT.d (ts := tabT tbs) (congrArg (fun z : AlX => z.1) c)
theorem SaysX.tb {fa : List He.Fa} {fn : List He.DefD} {tbs : List Tb} {xs : List Str} {w : World} {K : PySem.W.Frag} (c : SaysX fa fn tbs xs w K) {p : Tb} (hp : p ∈ tbs) : TabOk K w (He.ga K p.1) p.2 := by
  have e1 : (tabT tbs).map (fun t => He.dicW K (t.1 K)) = (tabT tbs).map fun t => some (He.keysIn w.params t.2) := congrArg (fun z : AlX => z.1.2) c
  have e2 : (tabsB tbs K && (clsB xs K && (plB xs K && iniB xs K))) = true := congrArg (fun z : AlX => z.2) c
  rw [Bool.and_eq_true] at e2
  obtain ⟨i, hi⟩ := List.getElem?_of_mem hp
  have e3 : ((tabT tbs).map (fun t => He.dicW K (t.1 K)))[i]? = ((tabT tbs).map fun t => some (He.keysIn w.params t.2))[i]? := by rw [e1]
  unfold tabT at e3
  simp only [List.getElem?_map, hi, Option.map_some] at e3
  exact tab_of (Option.some.inj e3) (List.all_eq_true.mp e2.1 p hp)
theorem SaysX.cls {fa : List He.Fa} {fn : List He.DefD} {tbs : List Tb} {xs : List Str} {w : World} {K : PySem.W.Frag} {mg : Str → Option Value} (c : SaysX fa fn tbs xs w K) : ClsOk K mg xs (clOf K xs) := by
  have e2 : (tabsB tbs K && (clsB xs K && (plB xs K && iniB xs K))) = true := congrArg (fun z : AlX => z.2) c
  rw [Bool.and_eq_true, Bool.and_eq_true, Bool.and_eq_true] at e2
  exact cls_of e2.2.1 e2.2.2.1
theorem SaysX.pl {fa : List He.Fa} {fn : List He.DefD} {tbs : List Tb} {xs : List Str} {w : World} {K : PySem.W.Frag} (c : SaysX fa fn tbs xs w K) : plB xs K = true := by
  have e2 : (tabsB tbs K && (clsB xs K && (plB xs K && iniB xs K))) = true := congrArg (fun z : AlX => z.2) c
  rw [Bool.and_eq_true, Bool.and_eq_true, Bool.and_eq_true] at e2
  exact e2.2.2.1
theorem SaysX.ini {fa : List He.Fa} {fn : List He.DefD} {tbs : List Tb} {xs : List Str} {w : World} {K : PySem.W.Frag} (c : SaysX fa fn tbs xs w K) : iniB xs K = true := by
  have e2 : (tabsB tbs K && (clsB xs K && (plB xs K && iniB xs K))) = true := congrArg (fun z : AlX => z.2) c
  rw [Bool.and_eq_true, Bool.and_eq_true, Bool.and_eq_true] at e2
  exact e2.2.2.2
theorem SaysX.cls3 {fa : List He.Fa} {fn : List He.DefD} {tbs : List Tb} {xs : List Str} {w : World} {K : PySem.W.Frag} (c : SaysX fa fn tbs xs w K) : Cls3 K xs := by
  have e2 : (tabsB tbs K && (clsB xs K && (plB xs K && iniB xs K))) = true := congrArg (fun z : AlX => z.2) c
  rw [Bool.and_eq_true, Bool.and_eq_true] at e2
  exact cls3_of e2.2.1
/-- a class with a place, before any program -/
def IniF (w : World) (K : PySem.W.Frag) (mg : Str → Option Value) (excs : List Str) (n : Nat) : Prop := ∃ (Ca fI : Addr) (fd : FuncData), clOf K excs n = .ref Ca ∧ OexC K Ca ∧ PySem.W.findIn K (.ref Ca) "__init__" = some (some (.ref fI)) ∧ PySem.W.typeIn K (.ref fI) = some (.type "function") ∧
  (∀ (P : Program) (base : Heap), FnOk P w K mg base (L2N.CX P w) 1 fI fd ["self", "place"] (PXI.spIn K Ca)) ∧ Binds K fd ["self", "place"] []
def initOf : Stmt → Stmt
  | .ClassDef _ _ _ b _ _ _ _ _ _ _ => b.headD (.Pass ⟨0, 0, 0, 0⟩)
  | s => s
def mkI (x q : Str) (st : Stmt) : He.DefD := ⟨(x, some "__init__"), "__init__", q, defArgs (initOf st), defBody (initOf st), defScope (initOf st), [], []⟩
theorem ini_at {fn : List He.DefD} {excs : List Str} {w : World} {K : PySem.W.Frag} {mg : Str → Option Value} (df : ∀ (i : Nat) d, fn[i]? = some d → ∃ fd, FunD K d.name d.qual d.params d.body d.scope (d.dvs K) (d.kws K) (He.fAd K d.at_) fd) (hb : iniB excs K = true) (hp : plB excs K = true)
    (hB : mg "BoardError" = some (.ref (He.ga K "BoardError"))) {n i : Nat} {x q : Str} {st : Stmt} (e : excs[n]? = some x) (hx : x ≠ ("" : Str)) (h9 : n = 9 ∨ n = 10) (hd : fn[i]? = some (mkI x q st)) (chk : PXI.isInit "BoardError" (defBody (initOf st)) = true)
    (S : C8.scC ["self", "place"] ["self", "place"] (defScope (initOf st)) = true) (l1 : (defScope (initOf st)).names.lookup ("BoardError" : Str) = some .globalImplicit) (l2 : (defScope (initOf st)).names.lookup ("self" : Str) = some .local) (l3 : (defScope (initOf st)).names.lookup ("place" : Str) = some .local)
    (bnd : ∀ f fd, FunD K "__init__" q (defArgs (initOf st)) (defBody (initOf st)) (defScope (initOf st)) [] [] f fd → Binds K fd ["self", "place"] []) : IniF w K mg excs n := by
  have e2 : excs.getD n "" = x := by rw [List.getD_eq_getElem?_getD, e]; rfl
  obtain ⟨fd, F⟩ := df i _ hd
  have F2 : FunD K "__init__" q (defArgs (initOf st)) (defBody (initOf st)) (defScope (initOf st)) [] [] (He.fAd K (x, some "__init__")) fd := F
  have hne : (x == ("" : Str)) = false := by simpa using hx
  have ia : iniA K x = true ∧ binB K (He.ga K "BoardError") = true := by
    unfold iniB at hb
    rw [Bool.or_eq_true] at hb
    rcases hb with hb | hb
    · unfold noPl at hb
      rw [Bool.and_eq_true] at hb
      rcases h9 with rfl | rfl
      · rw [e2, hne] at hb; cases hb.1
      · rw [e2, hne] at hb; cases hb.2
    · rw [Bool.and_eq_true, Bool.and_eq_true] at hb
      rcases h9 with rfl | rfl
      · rw [e2] at hb; exact ⟨hb.1.1, hb.2⟩
      · rw [e2] at hb; exact ⟨hb.1.2, hb.2⟩
  obtain ⟨i1, i2⟩ := ia
  unfold iniA at i1
  rw [hne, Bool.false_or, Bool.and_eq_true, Bool.and_eq_true, decide_eq_true_eq, decide_eq_true_eq] at i1
  have cl : clOf K excs n = .ref (He.ga K x) := by unfold clOf; rw [e2]
  have hno : PySem.W.findIn K (.ref (He.ga K x)) "place" = some none := by
    have q := List.all_eq_true.mp hp n (List.mem_range.mpr (List.getElem?_eq_some_iff.mp e).1)
    rw [e2, hne, Bool.false_or, decide_eq_true_eq, cl] at q
    exact q
  exact ⟨_, _, fd, cl, oexB_ok i1.1.1, i1.1.2, i1.2, fun P base => PXI.init_ok (b := "BoardError") F2 S chk l1 l2 l3 (by decide) (oexB_ok i1.1.1) (binB_ok i2) hB hno, bnd _ _ F2⟩
theorem ini_none {excs : List Str} {w : World} {K : PySem.W.Frag} {mg : Str → Option Value} (h : noPl excs = true) : ∀ (n : Nat) x, excs[n]? = some x → x ≠ ("" : Str) → n = 9 ∨ n = 10 → IniF w K mg excs n := fun n x e hx h9 => by
  have e2 : excs.getD n "" = x := by rw [List.getD_eq_getElem?_getD, e]; rfl
  have hne : (x == ("" : Str)) = false := by simpa using hx
  unfold noPl at h
  rw [Bool.and_eq_true] at h
  rcases h9 with rfl | rfl
  · rw [e2, hne] at h; cases h.1
  · rw [e2, hne] at h; cases h.2
/-- the facts -/
structure Ms (gl blts : List Str) (cons : List (Str × PyData)) (excs : List Str) (tbs : List Tb) (fn : List He.DefD) (w : World) (K : PySem.W.Frag) (mg : Str → Option Value) : Prop where
  gl : ∀ x ∈ gl, mg x = some (.ref (He.ga K x))
  bl : allP (fun x => mg x = none) blts
  con : allP2 (ConP mg) (cons.map (·.1)) (cons.map (·.2))
  exc : ∀ (n : Nat) x, excs[n]? = some x → x ≠ ("" : Str) → ExcP K mg n x (clOf K excs n)
  tb : allP2 (TabP K w mg) (tbs.map (·.1)) (tbs.map (·.2))
  cls : ClsOk K mg excs (clOf K excs)
  ini : ∀ (n : Nat) x, excs[n]? = some x → x ≠ ("" : Str) → n = 9 ∨ n = 10 → IniF w K mg excs n
  df : ∀ (i : Nat) d, fn[i]? = some d → ∃ fd, FunD K d.name d.qual d.params d.body d.scope (d.dvs K) (d.kws K) (He.fAd K d.at_) fd
theorem allP_of {A : Type} {p : A → Prop} : ∀ {l : List A}, (∀ x ∈ l, p x) → allP p l
  | [], _ => trivial
  | a :: l, h => ⟨h a List.mem_cons_self, allP_of fun x hx => h x (List.mem_cons_of_mem _ hx)⟩
theorem con_of {mg : Str → Option Value} : ∀ {cons : List (Str × PyData)}, (∀ p ∈ cons, ConP mg p.1 p.2) → allP2 (ConP mg) (cons.map (·.1)) (cons.map (·.2))
  | [], _ => trivial
  | p :: l, h => ⟨h p List.mem_cons_self, con_of fun q hq => h q (List.mem_cons_of_mem _ hq)⟩
theorem tb_of {K : PySem.W.Frag} {w : World} {mg : Str → Option Value} : ∀ {tbs : List Tb}, (∀ p ∈ tbs, TabP K w mg p.1 p.2) → allP2 (TabP K w mg) (tbs.map (·.1)) (tbs.map (·.2))
  | [], _ => trivial
  | p :: l, h => ⟨h p List.mem_cons_self, tb_of fun q hq => h q (List.mem_cons_of_mem _ hq)⟩
/-- an own class that stands on ValueError -/
theorem Ms.of {gl blts : List Str} {cons : List (Str × PyData)} {excs : List Str} {tbs : List Tb} {fn : List He.DefD} {w : World} {K : PySem.W.Frag} {mg : Str → Option Value} {h : Heap} (X : K.In h) (G : h.Ns mainGlobals mg) (hc : cons.all (fun p => conOk p.2) = true)
    (ht : ∀ p ∈ tbs, p.1 ∈ gl ∧ TabOk K w (He.ga K p.1) p.2) (hcls : ClsOk K mg excs (clOf K excs)) (hc3 : Cls3 K excs) (c : He.SaysD (mkFa gl blts cons excs) fn K) (hi : (∀ (i : Nat) d, fn[i]? = some d → ∃ fd, FunD K d.name d.qual d.params d.body d.scope (d.dvs K) (d.kws K) (He.fAd K d.at_) fd) → (∀ x ∈ exN excs, mg x = some (.ref (He.ga K x))) → ∀ (n : Nat) x, excs[n]? = some x → x ≠ ("" : Str) → n = 9 ∨ n = 10 → IniF w K mg excs n) : Ms gl blts cons excs tbs fn w K mg := by
  have all : ∀ f ∈ mkFa gl blts cons excs, f.ok K = true := fun f hf => by
    obtain ⟨i, e⟩ := List.getElem?_of_mem hf
    exact c.fact i e
  refine ⟨fun x hx => He.glo_ok X G (all _ ?_), allP_of fun x hx => He.free_ok X G (all _ ?_), con_of fun p hp => ?_, fun n x e en => ?_, tb_of fun p hp => ⟨_, He.glo_ok X G (all _ (List.mem_append_left _ (List.mem_map.mpr ⟨p.1, (ht p hp).1, rfl⟩))), (ht p hp).2⟩, hcls, hi (fun i d e => c.def_ i e) (fun x hx => He.glo_ok X G (all (.glo x) (List.mem_append_right _ (List.mem_append_right _ (List.mem_append_right _ (List.mem_append_right _ (List.mem_map.mpr ⟨x, hx, rfl⟩))))))), fun i d e => c.def_ i e⟩
  · exact List.mem_append_left _ (List.mem_map.mpr ⟨x, hx, rfl⟩)
  · exact List.mem_append_right _ (List.mem_append_left _ (List.mem_map.mpr ⟨x, hx, rfl⟩))
  · have q := all (conFa p) (List.mem_append_right _ (List.mem_append_right _ (List.mem_append_left _ (List.mem_map.mpr ⟨p, hp, rfl⟩))))
    have k := List.all_eq_true.mp hc p hp
    obtain ⟨x, d⟩ := p
    cases d with
    | int i =>
      obtain ⟨t, e⟩ := He.int_ok X G (show (He.Fa.int x i).ok K = true from q)
      exact ⟨rfl, _, e, t, rfl⟩
    | str z =>
      obtain ⟨t, e⟩ := He.str_ok X G (show (He.Fa.str x z).ok K = true from q)
      exact ⟨rfl, _, e, t, rfl⟩
    | _ => cases k
  · have hx : x ∈ exN excs := List.mem_filter.mpr ⟨List.mem_of_getElem? e, by simpa using en⟩
    have q2 := all (.glo x) (List.mem_append_right _ (List.mem_append_right _ (List.mem_append_right _ (List.mem_append_right _ (List.mem_map.mpr ⟨x, hx, rfl⟩)))))
    obtain ⟨k2, k3, k4⟩ := hc3 n x e en
    refine ⟨He.ga K x, He.glo_ok X G q2, k2, k3, k4, ?_, fun h9 => ?_⟩
    · unfold clOf
      rw [List.getD_eq_getElem?_getD, e]
      rfl
    · have e9 : (excs.take 9)[n]? = some x := by rw [List.getElem?_take_of_lt h9, e]
      have hx9 : x ∈ exN (excs.take 9) := List.mem_filter.mpr ⟨List.mem_of_getElem? e9, by simpa using en⟩
      have q := all (.exc x) (List.mem_append_right _ (List.mem_append_right _ (List.mem_append_right _ (List.mem_append_left _ (List.mem_map.mpr ⟨x, hx9, rfl⟩)))))
      exact ⟨_, _, _, _, PySem.F.excBase_ValueError, (He.exc_ok q).1⟩
section
variable {gl blts : List Str} {cons : List (Str × PyData)} {excs : List Str} {tbs : List Tb} {fn : List He.DefD} {P : Program} {w : World} {K : PySem.W.Frag} {mg : Str → Option Value} {base : Heap} {k : Nat}
theorem Ms.iniK (M : Ms gl blts cons excs tbs fn w K mg) (h : noPl excs = true ∨ 2 ≤ k) : ∀ (n : Nat) x, excs[n]? = some x → x ≠ ("" : Str) → n = 9 ∨ n = 10 → IniOk P w K mg base (clOf K excs) k n := fun n x e hx h9 => by
  rcases h with h | h
  · have e2 : excs.getD n "" = x := by rw [List.getD_eq_getElem?_getD, e]; rfl
    have hne : (x == ("" : Str)) = false := by simpa using hx
    unfold noPl at h
    rw [Bool.and_eq_true] at h
    rcases h9 with rfl | rfl
    · rw [e2, hne] at h; cases h.1
    · rw [e2, hne] at h; cases h.2
  · obtain ⟨Ca, fI, fd, a1, a2, a3, a4, a5, a6⟩ := M.ini n x e hx h9
    exact ⟨Ca, fI, fd, 1, a1, a2, a3, a4, h, a5 P base, a6⟩
theorem Ms.kn (M : Ms gl blts cons excs tbs fn w K mg) (i : Nat) {x : Str} {st : Stmt} {dfl : List PyData} {N ps : List Str} {fns : List (Str × Nat × List PyData)} {fs : List (List PyData → Rr)} {b : Sxs} {cx : List Str} {cs : List PyData} {tx : List Str} {ts : List (List (Str × Int))} {fnx : List (Str × Nat)} {gs : List (Nat × Tk → List PyData → Rr)} {knx : List (Str × Nat × Str × Nat × List PyData)} {ks : List (List PyData → Rr)} (hd : fn[i]? = some (mkD x st dfl)) (hx : x ∈ gl)
    (bind : ∀ f fd, FunD K x x (defArgs st) (defBody st) (defScope st) (dfl.map dV) [] f fd → ∀ j, j ≤ dfl.length → ∃ ds, Vals ((dfl.drop j).map dV) ds ∧ Binds K fd ps ds)
    (S : C8.scC N ps (defScope st) = true) (chk : isB b ⟨N, (defScope st).names, fns, cx, blts, excs, tx, false, fnx, knx⟩ (defBody st) = true) (hc : allP2 (ConP mg) cx cs) (ht : allP2 (TabP K w mg) tx ts) (hf : allP2 (FnP P w K mg base (clOf K excs) k) fns fs) (hg : allP2 (FnXP P w K mg base excs (clOf K excs) k) fnx gs) (hkf : allP2 (KfP P w K mg base (clOf K excs) k) knx ks) (hps : ps.length < 1000 := by decide) (hk2 : noPl excs = true ∨ 2 ≤ k := by first | exact .inr (by decide) | exact .inl (by rfl)) :
    Kn P w K mg base (clOf K excs) (k + 1) x ps.length dfl (fnD (gdT fs cs ts gs ks) b N.length) := by
  obtain ⟨fd, F⟩ := M.df i _ hd
  have F2 : FunD K x x (defArgs st) (defBody st) (defScope st) (dfl.map dV) [] (He.ga K x) fd := by
    rw [← dvOf_v (K := K) dfl]
    exact F
  exact fn_kn (C := ⟨N, (defScope st).names, fns, cx, blts, excs, tx, false, fnx, knx⟩) F2 (M.gl x hx) (bind _ _ F2) S rfl chk M.bl hc M.exc ht hf M.cls hg hkf rfl (M.iniK hk2) hps
/-- a def that writes into the list handed in first -/
theorem Ms.knIO (M : Ms gl blts cons excs tbs fn w K mg) (i : Nat) {x : Str} {st : Stmt} {N ps : List Str} {fns : List (Str × Nat × List PyData)} {fs : List (List PyData → Rr)} {b : Sxs} {cx : List Str} {cs : List PyData} {tx : List Str} {ts : List (List (Str × Int))} (hd : fn[i]? = some (mkD x st [])) (hx : x ∈ gl)
    (bind : ∀ f fd, FunD K x x (defArgs st) (defBody st) (defScope st) [] [] f fd → Binds K fd ps [])
    (S : C8.scC N ps (defScope st) = true) (chk : isB b ⟨N, (defScope st).names, fns, cx, blts, excs, tx, false, [], []⟩ (defBody st) = true) (hc : allP2 (ConP mg) cx cs) (ht : allP2 (TabP K w mg) tx ts) (hf : allP2 (FnP P w K mg base (clOf K excs) k) fns fs) (hio : okIo b = true := by rfl) (hk2 : noPl excs = true ∨ 2 ≤ k := by first | exact .inr (by decide) | exact .inl (by rfl)) :
    Kn P w K mg base (clOf K excs) (k + 1) x (ps.length + 1000) [] (fnIO (gdT fs cs ts) b N.length) := by
  obtain ⟨fd, F⟩ := M.df i _ hd
  have F2 : FunD K x x (defArgs st) (defBody st) (defScope st) [] [] (He.ga K x) fd := F
  exact fn_knIO (C := ⟨N, (defScope st).names, fns, cx, blts, excs, tx, false, [], []⟩) F2 (M.gl x hx) (bind _ _ F2) S rfl chk M.bl hc M.exc ht hf M.cls trivial trivial rfl (M.iniK hk2) hio
/-- a def called by a keyword (a def without calls in suites and by keywords) -/
theorem Ms.kf (M : Ms gl blts cons excs tbs fn w K mg) (i : Nat) {x : Str} {st : Stmt} {dfl : List PyData} {N ps : List Str} {fns : List (Str × Nat × List PyData)} {fs : List (List PyData → Rr)} {b : Sxs} {cx : List Str} {cs : List PyData} {tx : List Str} {ts : List (List (Str × Int))} {kn : Str} {n : Nat} {mid : List PyData} (hd : fn[i]? = some (mkD x st dfl)) (hx : x ∈ gl)
    (kb : ∀ f fd, FunD K x x (defArgs st) (defBody st) (defScope st) (dfl.map dV) [] f fd → ∃ its : List Value, KBn K fd ps n [kn] (fun us ws => us ++ (its ++ ws)) (fun vs zs => vs ++ (mid.map dV ++ zs)))
    (S : C8.scC N ps (defScope st) = true) (chk : isB b ⟨N, (defScope st).names, fns, cx, blts, excs, tx, false, [], []⟩ (defBody st) = true) (hc : allP2 (ConP mg) cx cs) (ht : allP2 (TabP K w mg) tx ts) (hf : allP2 (FnP P w K mg base (clOf K excs) k) fns fs) (hk2 : noPl excs = true ∨ 2 ≤ k := by first | exact .inr (by decide) | exact .inl (by rfl)) (hkn : kn ≠ "" := by decide) :
    KfP P w K mg base (clOf K excs) (k + 1) (x, ps.length, kn, n, mid) (fnD (gdT fs cs ts) b N.length) := by
  obtain ⟨fd, F⟩ := M.df i _ hd
  have F2 : FunD K x x (defArgs st) (defBody st) (defScope st) (dfl.map dV) [] (He.ga K x) fd := by
    rw [← dvOf_v (K := K) dfl]
    exact F
  exact fn_kf (C := ⟨N, (defScope st).names, fns, cx, blts, excs, tx, false, [], []⟩) F2 (M.gl x hx) (kb _ _ F2) S rfl chk M.bl hc M.exc ht hf M.cls trivial trivial rfl (M.iniK hk2) hkn
/-- a def that is called where an exception is handled -/
theorem Ms.knX (M : Ms gl blts cons excs tbs fn w K mg) (i : Nat) {x : Str} {st : Stmt} {N ps : List Str} {b : Sxs} {cx : List Str} {cs : List PyData} {tx : List Str} {ts : List (List (Str × Int))} (hd : fn[i]? = some (mkD x st [])) (hx : x ∈ gl)
    (bind : ∀ f fd, FunD K x x (defArgs st) (defBody st) (defScope st) [] [] f fd → Binds K fd ps [])
    (S : C8.scC N ps (defScope st) = true) (chk : isB b ⟨N, (defScope st).names, [], cx, blts, excs, tx, true, [], []⟩ (defBody st) = true) (hc : allP2 (ConP mg) cx cs) (ht : allP2 (TabP K w mg) tx ts) :
    FnXP P w K mg base excs (clOf K excs) (k + 1) (x, ps.length) (fun h => fnD ((gdT [] cs ts).seth h.1 h.2) b N.length) := by
  obtain ⟨fd, F⟩ := M.df i _ hd
  have F2 : FunD K x x (defArgs st) (defBody st) (defScope st) [] [] (He.ga K x) fd := F
  exact ⟨_, _, _, fn_okX (C := ⟨N, (defScope st).names, [], cx, blts, excs, tx, true, [], []⟩) F2 S rfl chk M.bl hc M.exc ht M.cls rfl rfl rfl rfl, M.gl x hx, F2.kp, bind _ _ F2⟩
theorem allP2_at {A B : Type} {p : A → B → Prop} {l : List (A × B)} {i : Nat} {a : A} {b : B} (h : allP2 p (l.map (·.1)) (l.map (·.2))) (e : l[i]? = some (a, b)) : p a b := by
  obtain ⟨b', h1, h2⟩ := allP2_get (n := i) (a := a) h (by rw [List.getElem?_map, e]; rfl)
  rw [List.getElem?_map, e] at h1
  cases h1
  exact h2
theorem Ms.conAt (M : Ms gl blts cons excs tbs fn w K mg) (i : Nat) {x : Str} {d : PyData} (e : cons[i]? = some (x, d)) : ConP mg x d := allP2_at M.con e
theorem Ms.tbAt (M : Ms gl blts cons excs tbs fn w K mg) (i : Nat) {x : Str} {t : List (Str × Int)} (e : tbs[i]? = some (x, t)) : TabP K w mg x t := allP2_at M.tb e
/-- the law's own def -/
theorem Ms.law (M : Ms gl blts cons excs tbs fn w K mg) (i : Nat) {x : Str} {p : Str} {st : Stmt} {N : List Str} {fns : List (Str × Nat × List PyData)} {fs : List (List PyData → Rr)} {b : Sxs} {cx : List Str} {cs : List PyData} {tx : List Str} {ts : List (List (Str × Int))} {fnx : List (Str × Nat)} {gs : List (Nat × Tk → List PyData → Rr)} {knx : List (Str × Nat × Str × Nat × List PyData)} {ks : List (List PyData → Rr)} (hd : fn[i]? = some (mkD x st []))
    (S : C8.scC N [p] (defScope st) = true) (chk : isB b ⟨N, (defScope st).names, fns, cx, blts, excs, tx, false, fnx, knx⟩ (defBody st) = true) (hc : allP2 (ConP mg) cx cs) (ht : allP2 (TabP K w mg) tx ts)
    (bnd : ∀ (kV doc pm : Value) (an : Option Addr) (cdv ct : Value) (us : List Value), us.length = 1 → bindArgs (PySem.W.fnOf x x (defArgs st) (defBody st) (defScope st) .none kV doc pm an cdv ct) ⟨us, []⟩ = pure ([p].zip us)) :
    ∃ fd : FuncData, (∀ (s : Shared) (u : Value), BindsTo s fd ⟨[u], []⟩ [(p, u)]) ∧ ∀ (P : Program) (base : Heap) (k : Nat), noPl excs = true ∨ 2 ≤ k → allP2 (FnP P w K mg base (clOf K excs) k) fns fs → allP2 (FnXP P w K mg base excs (clOf K excs) k) fnx gs → allP2 (KfP P w K mg base (clOf K excs) k) knx ks →
      FnOk P w K mg base (L2N.CX P w) (k + 1) (He.ga K x) fd [p] (spD K (clOf K excs) (fnD (gdT fs cs ts gs ks) b N.length) 1) := by
  obtain ⟨fd, F⟩ := M.df i _ hd
  have F2 : FunD K x x (defArgs st) (defBody st) (defScope st) [] [] (He.ga K x) fd := F
  refine ⟨fd, fun s u => F2.bindsA (ps := [p]) bnd s [u] rfl, fun P base k hk2 hf hg hkf => ?_⟩
  exact fn_ok (C := ⟨N, (defScope st).names, fns, cx, blts, excs, tx, false, fnx, knx⟩) F2 S rfl chk M.bl hc M.exc ht hf M.cls hg hkf rfl (M.iniK hk2)
end
end PX

/-! PXT: tuples that hold lists of their own, told by one def and written by another. -/
namespace PX
open PySem PySem.Spec PyProof.Rows L2

/-- what a def tells: a value, or a tuple of data and lists of its own -/
inductive TV where
  | v (x : RV)
  | t (l : List RV)
inductive Ti where
  | e (x : Ex)
  | o (i : Nat)
inductive Tx where
  | bas (s : Sx) (t : Tx)
  | ret (its : List Ti)
  | call (i f : Nat) (es : Exs) (t : Tx)
  | gd (c : Ex) (b : Sxs) (t : Tx)
  | app (i j : Nat) (d : PyData) (b : Sxs)
  | foro (t : Tg) (i : Nat) (b : Sxs) (u : Tx)
noncomputable def evI (G : Gd) : List Ti → CE → Res (List RV)
  | [], _ => .ok []
  | .e x :: l, r => (ev G x (r.map rdP)).bind fun y => (evI G l r).bind fun ys => .ok (.val y.d :: ys)
  | .o i :: l, r => match r[i]? with
    | some (.own m) => (evI G l r).bind fun ys => .ok (.own m :: ys)
    | _ => .fail
/-- what ends a def -/
def endT : Out → Res TV
  | .ret x => .ok (.v x)
  | .exc c _ => .exc c
  | _ => .fail
def towR (r : CE) : Option (Nat × List RV) → CE
  | none => r
  | some (i, l) => r.set i (.val (.tuple (l.map RV.d)))
/-- an address, as data -/
def tkD (a : Nat) : PyData := .dict [(.int (a : Int), .none)]
/-- behind a loop over a list of one's own -/
def backO (a i : Nat) (l : List PyData) : Out → Out
  | .nx r => match r[i]? with
    | some (.val (.dict [(.int z, .none)])) => if z = (a : Int) then .nx (r.set i (.own l)) else .fail
    | _ => .fail
  | .ret x => .ret x
  | .exc c _ => .exc c []
  | _ => .fail
def appOk (l : List RV) (j : Nat) : Bool := match l[j]? with
  | some (.own m) => decide (m.length < 16777216)
  | _ => false
noncomputable def txs (G : Gd) (ft : Nat → List PyData → Res TV) : Tx → Option (Nat × List RV) → CE → Res TV
  | .bas s t, none, r => match sx G s r with
    | .nx r' => txs G ft t none r'
    | o => endT o
  | .bas _ _, some _, _ => .fail
  | .ret its, none, r => (evI G its r).bind fun l => if lineB l.length = true then .ok (.t l) else .fail
  | .ret _, some _, _ => .fail
  | .call i f es t, none, r => (evs G es (r.map rdP)).bind fun ds => (ft f ds).bind fun y => match y with
    | .v x => txs G ft t none (r.set i (.val x.d))
    | .t l => if i < r.length then txs G ft t (some (i, l)) (r.set i .no) else .fail
  | .call _ _ _ _, some _, _ => .fail
  | .gd c b t, m, r => (asB (ev G c ((towR r m).map rdB))).bind fun q => if q = true then endT (sxs G b (towR r m)) else txs G ft t m r
  | .app i j d b, some (i', l), r => if i = i' ∧ appOk l j = true then endT (sxs G b r) else .fail
  | .app _ _ _ _, none, _ => .fail
  | .foro t i b u, none, r => match r[i]? with
    | some (.own l) => match allA fun a => backO a.1 i l (forL (fun d r' => match tgs Cell.val t d r' with
        | some r2 => sxs G b r2
        | none => .fail) l (r.set i (.val (tkD a.1)))) with
      | .nx r' => txs G ft u none r'
      | o => endT o
    | _ => .fail
  | .foro _ _ _ _, some _, _ => .fail

/-! ### what holds of such a tuple -/
/-- data, and lists at addresses of which N holds -/
def ItOk (K : PySem.W.Frag) (N : Addr → Prop) (F H : Hp) : List RV → List V → Prop
  | [], [] => True
  | .val d :: l, v :: vs => Rp K F d v ∧ ItOk K N F H l vs
  | .own m :: l, v :: vs => (∃ a ws, v = .ref a ∧ N a ∧ H a = some (.lst ws) ∧ Rps K F m ws) ∧ ItOk K N F H l vs
  | _, _ => False
section
variable {K : PySem.W.Frag} {N N' : Addr → Prop} {F0 H0 F H F' H' : Hp} {r : CE} {σ : L2.St}
theorem ItOk.mono (sF : Same F F') (sH : Same H H') (h : ∀ a ws, N a → H a = some (.lst ws) → N' a) : ∀ (l : List RV) (us : List V), ItOk K N F H l us → ItOk K N' F' H' l us
  | [], [], _ => trivial
  | [], _ :: _, q => q.elim
  | .val d :: l, [], q => q.elim
  | .own d :: l, [], q => q.elim
  | .val d :: l, v :: vs, q => ⟨Rp.mono sF _ _ q.1, ItOk.mono sF sH h l vs q.2⟩
  | .own m :: l, v :: vs, q => by
    obtain ⟨⟨a, ws, e, n, ha, rs⟩, q2⟩ := q
    exact ⟨⟨a, ws, e, h a ws n ha, sH _ _ ha, Rps.mono sF _ _ rs⟩, ItOk.mono sF sH h l vs q2⟩
/-- the lists are taken for data -/
theorem ItOk.freeze (R : RelS K F0 H0 F H r σ) : ∀ (l : List RV) (us : List V), ItOk K (fun a => H0 a = none ∧ ¬ OwnAt r σ a) F H l us → ∃ F1, Same F F1 ∧ RelS K F0 H0 F1 H r σ ∧ Rps K F1 (l.map RV.d) us
  | [], [], _ => ⟨F, Same.refl _, R, .nil⟩
  | [], _ :: _, q => q.elim
  | .val d :: l, [], q => q.elim
  | .own d :: l, [], q => q.elim
  | .val d :: l, v :: vs, q => by
    obtain ⟨F1, s, R1, rs⟩ := ItOk.freeze R l vs q.2
    exact ⟨F1, s, R1, .cons (Rp.mono s _ _ q.1) rs⟩
  | .own m :: l, v :: vs, q => by
    obtain ⟨⟨a, ws, rfl, ⟨n0, no⟩, ha, rm⟩, q2⟩ := q
    obtain ⟨F1, s, R1, rs⟩ := ItOk.freeze R l vs q2
    cases e1 : F1 a with
    | none => exact ⟨_, s.trans (same_upd e1), R1.more e1 n0 ha fun j m q1 q3 => no (.inl ⟨j, m, q1, q3⟩), .cons (.lst (.inl (.inl upd_same)) (Rps.mono (s.trans (same_upd e1)) _ _ rm)) (Rps.mono (same_upd e1) _ _ rs)⟩
    | some o =>
      have z := R1.g.fh a o e1
      rw [ha] at z
      cases z
      exact ⟨F1, s, R1, .cons (.lst (.inl (.inl e1)) (Rps.mono s _ _ rm)) rs⟩
/-- .. or just named -/
theorem ItOk.toks : ∀ (l : List RV) (us : List V), ItOk K N F H l us → ∃ ts, Rps K F ts us ∧ ∀ (j : Nat) m, l[j]? = some (.own m) → ∃ (a : Addr) (ws : List V), ts[j]? = some (.dict [(.int (a : Int), .none)]) ∧ N a ∧ H a = some (.lst ws) ∧ Rps K F m ws
  | [], [], _ => ⟨[], .nil, fun j m e => by simp at e⟩
  | [], _ :: _, q => q.elim
  | .val d :: l, [], q => q.elim
  | .own d :: l, [], q => q.elim
  | .val d :: l, v :: vs, q => by
    obtain ⟨ts, rs, h⟩ := ItOk.toks l vs q.2
    refine ⟨d :: ts, .cons q.1 rs, fun j m e => ?_⟩
    cases j with
    | zero => simp at e
    | succ j => exact h j m (by simpa using e)
  | .own m :: l, v :: vs, q => by
    obtain ⟨⟨a, ws, rfl, n, ha, rm⟩, q2⟩ := q
    obtain ⟨ts, rs, h⟩ := ItOk.toks l vs q2
    refine ⟨_ :: ts, .cons (.exn (a := a)) rs, fun j m' e => ?_⟩
    cases j with
    | zero =>
      simp at e
      subst e
      exact ⟨a, ws, rfl, n, ha, rm⟩
    | succ j => exact h j m' (by simpa using e)
theorem RelS.dropS (R : RelS K F0 H0 F H r σ) (i : Nat) : RelS K F0 H0 F H (r.set i .no) σ := by
  refine ⟨R.g, by rw [List.length_set]; exact R.len, fun j d q => ?_, fun j m q => ?_, fun p q l1 m a1 e1 e2 s1 s2 => ?_, fun j m q => ?_, fun p q l1 m a1 e1 e2 s1 s2 => ?_⟩
  · rcases set_get q with ⟨_, _, z⟩ | ⟨_, z⟩
    · cases z
    · exact R.val j d z
  · rcases set_get q with ⟨_, _, z⟩ | ⟨_, z⟩
    · cases z
    · exact R.own j m z
  · rcases set_get e1 with ⟨_, _, z⟩ | ⟨_, z1⟩
    · cases z
    · rcases set_get e2 with ⟨_, _, z⟩ | ⟨_, z2⟩
      · cases z
      · exact R.ap p q l1 m a1 z1 z2 s1 s2
  · rcases set_get q with ⟨_, _, z⟩ | ⟨_, z⟩
    · cases z
    · exact R.dic j m z
  · rcases set_get e1 with ⟨_, _, z⟩ | ⟨_, z1⟩
    · cases z
    · rcases set_get e2 with ⟨_, _, z⟩ | ⟨_, z2⟩
      · cases z
      · exact R.apd p q l1 m a1 z1 z2 s1 s2
theorem OwnAt.of_no {i : Nat} {v : Option V} {a : Addr} (h : OwnAt (r.set i .no) (σ.set i v) a) : OwnAt r σ a := by
  rcases h with ⟨j, l, e1, e2⟩ | ⟨j, l, e1, e2⟩
  · rcases set_get e1 with ⟨_, _, z⟩ | ⟨hj, z⟩
    · cases z
    · rw [List.getElem?_set_ne hj] at e2
      exact .inl ⟨j, l, z, e2⟩
  · rcases set_get e1 with ⟨_, _, z⟩ | ⟨hj, z⟩
    · cases z
    · rw [List.getElem?_set_ne hj] at e2
      exact .inr ⟨j, l, z, e2⟩
end
section
variable (K : PySem.W.Frag)
def PT (Q : VK) : TV → Hp → Hp → Prop
  | .v x, F, H => PV K Q x F H
  | .t l, F, H => ∀ p us F' H', Grow F H F' H' → H' p = some (.tup us) → ItOk K (fun a => H a = none ∧ F' a = none) F' H' l us → Q (.ref p) H'
def spTw (cl : Nat → Value) (f : List PyData → Res TV) (n : Nat) : Sp := fun vs H Q E => vs.length = n ∧ ∃ ds F, Same F H ∧ Rps K F ds vs ∧ PR (fun c d _ H => E c d H) cl [] (f ds) (PT K Q) F H
/-- a tuple that holds lists of its own stands in a slot -/
structure TowS (F0 H0 F H : Hp) (r : CE) (σ : L2.St) (i : Nat) (l : List RV) : Prop where
  rel : RelS K F0 H0 F H r σ
  at_ : ∃ p us, σ[i]? = some (some (V.ref p)) ∧ F p = some (.tup us) ∧ ItOk K (fun a => H0 a = none ∧ F a = none ∧ ¬ OwnAt r σ a) F H l us
def StM (F0 H0 F H : Hp) (r : CE) (σ : L2.St) : Option (Nat × List RV) → Prop
  | none => RelS K F0 H0 F H r σ
  | some (i, l) => TowS K F0 H0 F H r σ i l
variable (W : WX) (cl : Nat → Value)
def PostT (F0 H0 : Hp) (o : Res TV) (D : Ends) : Prop := match o with
  | .ok x => PT K D.rt x F0 H0
  | .exc c => ∀ σ F H, Grow F0 H0 F H → ∀ d, Pay c F d → W (cl (c % 16)) d σ H
  | .fail => False
def canTx (s : Option (Nat × List RV) → CE → Res TV) : TS := fun D σ H => ∃ m r F F0 H0, StM K F0 H0 F H r σ m ∧ PostT K W cl F0 H0 (s m r) D
end
section
variable {K : PySem.W.Frag} {W : WX} {cl : Nat → Value} {F0 H0 F H F' H' : Hp} {r : CE} {σ : L2.St} {D : Ends}
theorem PT.monoP {Q : VK} : MonoP (PT K Q) := fun x F H F' H' g h => by
  cases x with
  | v x => exact PV.monoP x F H F' H' g h
  | t l => exact fun p us F2 H2 g2 hp it => h p us F2 H2 (g.trans g2) hp (ItOk.mono (Same.refl _) (Same.refl _) (fun a ws n _ => ⟨Same.free g.hh n.1, n.2⟩) l us it)
theorem endS {o : Out} (h : PostT K W cl F0 H0 (endT o) D) {D' : Ends} (e : D'.rt = D.rt) : PostS K W cl F0 H0 o D' := by
  cases o with
  | nx r => exact False.elim h
  | brk r => exact False.elim h
  | cnt r => exact False.elim h
  | fail => exact False.elim h
  | ret x =>
    show PV K D'.rt x F0 H0
    rw [e]
    exact h
  | exc c r => exact fun σ F H R => (show ∀ σ F H, Grow F0 H0 F H → ∀ d, Pay c F d → W (cl (c % 16)) d σ H from h) σ F H R.g
theorem set_same {i : Nat} {p : Addr} (h : σ[i]? = some (some (V.ref p))) : σ.set i (some (V.ref p)) = σ := by
  apply List.ext_getElem?
  intro j
  by_cases hj : i = j
  · subst hj
    rw [List.getElem?_set_self (List.getElem?_eq_some_iff.mp h).1, h]
  · rw [List.getElem?_set_ne hj]
theorem StM.open {m : Option (Nat × List RV)} (S : StM K F0 H0 F H r σ m) : ∃ F1, RelS K F0 H0 F1 H (towR r m) σ ∧ ∀ F' H', RelS K F0 H0 F' H' (towR r m) σ → Same H H' → ∃ F2, StM K F0 H0 F2 H' r σ m := by
  match m, S with
  | none, S => exact ⟨F, S, fun F' H' R _ => ⟨F', R⟩⟩
  | some (i, l), S =>
    obtain ⟨R, p, us, e1, e2, it⟩ := S
    obtain ⟨F1, s, R1, rs⟩ := ItOk.freeze R l us (ItOk.mono (Same.refl _) (Same.refl _) (fun a ws n _ => ⟨n.1, n.2.2⟩) l us it)
    have R2 := R1.setval (i := i) (Rp.tup (K := K) (a := p) (.inl (.inl (s _ _ e2))) rs)
    rw [set_same e1] at R2
    refine ⟨F1, R2, fun F' H' R' sH => ⟨F, R.grow ⟨Same.refl _, R.g.fh.trans sH, sH, fun _ _ => rfl⟩, p, us, e1, e2, ItOk.mono (Same.refl _) sH (fun a ws n _ => n) l us it⟩⟩
theorem useT2 {f : RE → Rr} (R : RelS K F0 H0 F H r σ) {Q : Bool → Hp → Prop} {kk : Bool → Res TV} (h : PostT K W cl F0 H0 ((asB (f (r.map rdB))).bind kk) D)
    (hq : ∀ b F' H', PostT K W cl F0 H0 (kk b) D → RelS K F0 H0 F' H' r σ → Same H H' → Q b H') : canT K W cl (fun r => asB (f r)) σ H Q := by
  refine ⟨r.map rdB, withOwn F H r σ, R.withFH, R.borrow, ?_⟩
  dsimp only
  cases e : asB (f (r.map rdB)) with
  | ok b =>
    rw [e] at h
    exact fun F' H' g => hq b _ H' h (R.grow (R.back g).1) g.hh
  | exc c =>
    rw [e] at h
    exact fun F' H' g d pay => (show ∀ σ F H, Grow F0 H0 F H → ∀ d, Pay c F d → W (cl (c % 16)) d σ H from h) σ _ H' (R.grow (R.back g).1).g d (R.payBack g pay)
  | fail => rw [e] at h; exact h
end

/-! ### the check -/
def isTi : List Ti → Chk → List Expr → Bool
  | [], _, [] => true
  | .e x :: l, C, a :: es => isE x C a && okX a && isTi l C es
  | .o i :: l, C, a :: es => (match a with
    | .Name y _ => decide (C.N[i]? = some y) && C.vis y && okName y
    | _ => false) && okX a && isTi l C es
  | _, _, _ => false
def isTx : Tx → List (Str × Nat) → Chk → List Stmt → Bool
  | .bas s t, T, C, st :: rest => isS s C st && isTx t T C rest
  | .ret its, T, C, [st] => match st with
    | .Return (some (.Tuple es _ _)) _ => isTi its C es
    | _ => false
  | .call i f es t, T, C, st :: rest => (match st with
    | .Assign [.Name y _] (.Call (.Name g _) (x :: xs) [] _) _ => decide (C.N[i]? = some y) && C.loc y && (match T[f]? with
      | some (z, np) => !C.hot && decide (g = z) && C.gl g && okName g && isL es C (x :: xs) && decide (es.len = np)
      | none => false)
    | _ => false) && isTx t T C rest
  | .gd c b t, T, C, st :: rest => (match st with
    | .If x p [] _ => isE c C x && isB b C p
    | _ => false) && isTx t T C rest
  | .app i j d b, T, C, st :: rest => (match st with
    | .Expr (.Call (.Attribute (.Subscript (.Name y _) ix _) f ap) [x] [] cp) _ => decide (f = ("append" : Str)) && decide (C.N[i]? = some y) && C.vis y && okName y && isE (.c (.int (j : Int))) C ix && okX ix && isE (.c d) C x && okX x && (ap.endLine == cp.line)
    | _ => false) && isB b C rest
  | .foro t i b u, T, C, st :: rest => (match st with
    | .For tg (.Name y _) p [] _ => !C.hot && isT C t tg && decide (C.N[i]? = some y) && C.vis y && okName y && isB b C p
    | _ => false) && isTx u T C rest
  | _, _, _, _ => false
def FtOk (X : Cx) (cl : Nat → Value) (k : Nat) (T : List (Str × Nat)) (ft : Nat → List PyData → Res TV) : Prop := ∀ (n : Nat) x np, T[n]? = some (x, np) → ∃ fa fd ps, FnOk X.prog X.w X.K X.mg X.base (L2N.CX X.prog X.w) k fa fd ps (spTw X.K cl (ft n) np) ∧ X.mg x = some (.ref fa) ∧ PySem.W.keepIn X.K (.ref fa) = true ∧ Binds X.K fd ps []
/-- the items' values -/
def ItR (K : PySem.W.Frag) (F : Hp) (r : CE) (σ : L2.St) : List RV → List V → Prop
  | [], [] => True
  | .val d :: l, v :: vs => Rp K F d v ∧ ItR K F r σ l vs
  | .own m :: l, v :: vs => (∃ i : Nat, r[i]? = some (.own m) ∧ σ[i]? = some (some v)) ∧ ItR K F r σ l vs
  | _, _ => False
section
variable {K : PySem.W.Frag} {F0 H0 F H F' H' : Hp} {r : CE} {σ : L2.St}
theorem ItR.len : ∀ (l : List RV) (us : List V), ItR K F r σ l us → us.length = l.length
  | [], [], _ => rfl
  | [], _ :: _, q => q.elim
  | .val d :: l, [], q => q.elim
  | .own d :: l, [], q => q.elim
  | .val d :: l, v :: vs, q => by rw [List.length_cons, List.length_cons, ItR.len l vs q.2]
  | .own m :: l, v :: vs, q => by rw [List.length_cons, List.length_cons, ItR.len l vs q.2]
theorem ItR.ok (R : RelS K F0 H0 F H r σ) : ∀ (l : List RV) (us : List V), ItR K F r σ l us → ItOk K (fun a => H0 a = none ∧ F a = none) F H l us
  | [], [], _ => trivial
  | [], _ :: _, q => q.elim
  | .val d :: l, [], q => q.elim
  | .own d :: l, [], q => q.elim
  | .val d :: l, v :: vs, q => ⟨q.1, ItR.ok R l vs q.2⟩
  | .own m :: l, v :: vs, q => by
    obtain ⟨⟨i, e1, e2⟩, q2⟩ := q
    obtain ⟨a, ws, h1, h2, h3, h4, h5⟩ := R.own i m e1
    rw [h1] at e2
    cases e2
    exact ⟨⟨a, ws, rfl, ⟨h3, h2⟩, h4, h5⟩, ItR.ok R l vs q2⟩
end
section
variable {G : Gd} {cl : Nat → Value} {k : Nat} {X : Cx} {C : Chk} {W : WX}
def canIt (K : PySem.W.Frag) (W : WX) (cl : Nat → Value) (s : CE → Res (List RV)) : TA := fun σ H Q => ∃ r F F0 H0, RelS K F0 H0 F H r σ ∧ match s r with
  | .ok l => ∀ us F' H', RelS K F0 H0 F' H' r σ → Same F F' → ItR K F' r σ l us → Q us H'
  | .exc c => ∀ F' H', Grow F0 H0 F' H' → ∀ d, Pay c F' d → W (cl (c % 16)) d σ H'
  | .fail => False
theorem pa_its (O : CtxOkS X C W G cl k) : ∀ (its : List Ti) (es : List Expr), isTi its C es = true → PA X es (canIt X.K W cl (evI G its))
  | [], [], _ => PA_weak pa_nil fun σ H Q ⟨r, F, F0, H0, R, q⟩ => (show ∀ us F' H', RelS X.K F0 H0 F' H' r σ → Same F F' → ItR X.K F' r σ [] us → Q us H' from q) [] F H R (Same.refl _) trivial
  | [], _ :: _, h => by simp [isTi] at h
  | .e x :: l, [], h => by simp [isTi] at h
  | .o i :: l, [], h => by simp [isTi] at h
  | .e x :: l, a :: es, h => by
    simp only [isTi, Bool.and_eq_true] at h
    obtain ⟨⟨h1, h2⟩, h3⟩ := h
    refine PA_weak (pa_cons (soundE x C a X W O.toCtxOk h1).1 (pa_its O l es h3) (star_ok h2)) fun σ H Q ⟨r, F, F0, H0, R, q⟩ => ?_
    refine ⟨r.map rdP, F, R.g.fh, R.plain, ?_⟩
    rw [evI] at q
    cases e : ev G x (r.map rdP) with
    | fail => rw [e] at q; exact q
    | exc c =>
      rw [e] at q
      exact fun F' H' g d pay => (show ∀ F' H', Grow F0 H0 F' H' → ∀ d, Pay c F' d → W (cl (c % 16)) d σ H' from q) F' H' (R.g.trans g) d pay
    | ok y =>
      rw [e] at q
      have go : ∀ v F' H', Grow F H F' H' → IsV X.K H F' H' y v → canIt X.K W cl (evI G l) σ H' (fun xs H2 => Q (v :: xs) H2) := fun v F' H' g iv => by
        obtain ⟨F2, s2, R2, rp⟩ := R.asData (R.grow g) g.hh iv
        refine ⟨r, F2, F0, H0, R2, ?_⟩
        have q : (match (evI G l r).bind fun ys => Res.ok (RV.val y.d :: ys) with
          | .ok l => ∀ us F' H', RelS X.K F0 H0 F' H' r σ → Same F F' → ItR X.K F' r σ l us → Q us H'
          | .exc c => ∀ F' H', Grow F0 H0 F' H' → ∀ d, Pay c F' d → W (cl (c % 16)) d σ H'
          | .fail => False) := q
        cases e2 : evI G l r with
        | fail => rw [e2] at q; exact q
        | exc c => rw [e2] at q; exact q
        | ok ys =>
          rw [e2] at q
          exact fun us F3 H3 R3 s3 it => (show ∀ us F' H', RelS X.K F0 H0 F' H' r σ → Same F F' → ItR X.K F' r σ (.val y.d :: ys) us → Q us H' from q) (v :: us) F3 H3 R3 ((g.ff.trans s2).trans s3) ⟨Rp.mono s3 _ _ rp, it⟩
      cases y with
      | val d => exact fun v F' H' g rp => go v F' H' g rp
      | own m => exact fun b vs F' H' g n1 n2 e1 rs => go _ F' H' g ⟨b, vs, rfl, n1, n2, e1, rs⟩
  | .o i :: l, a :: es, h => by
    simp only [isTi, Bool.and_eq_true] at h
    obtain ⟨⟨h1, h2⟩, h3⟩ := h
    cases a <;> try cases h1
    rename_i y py
    simp only [Bool.and_eq_true, decide_eq_true_eq] at h1
    refine PA_weak (pa_cons (c_vis O.toCtxOk h1.1.1 h1.1.2 h1.2) (pa_its O l es h3) (star_ok h2)) fun σ H Q ⟨r, F, F0, H0, R, q⟩ => ?_
    rw [evI] at q
    cases e : r[i]? with
    | none => rw [e] at q; exact False.elim q
    | some cc =>
      rw [e] at q
      cases cc with
      | no => exact False.elim q
      | val d => exact False.elim q
      | dic d => exact False.elim q
      | own m =>
        obtain ⟨b, ws, g1, g2, g3, g4, g5⟩ := R.own i m e
        refine ⟨_, g1, r, F, F0, H0, R, ?_⟩
        have q : (match (evI G l r).bind fun ys => Res.ok (RV.own m :: ys) with
          | .ok l => ∀ us F' H', RelS X.K F0 H0 F' H' r σ → Same F F' → ItR X.K F' r σ l us → Q us H'
          | .exc c => ∀ F' H', Grow F0 H0 F' H' → ∀ d, Pay c F' d → W (cl (c % 16)) d σ H'
          | .fail => False) := q
        cases e2 : evI G l r with
        | fail => rw [e2] at q; exact q
        | exc c => rw [e2] at q; exact q
        | ok ys =>
          rw [e2] at q
          exact fun us F3 H3 R3 s3 it => (show ∀ us F' H', RelS X.K F0 H0 F' H' r σ → Same F F' → ItR X.K F' r σ (.own m :: ys) us → Q us H' from q) (.ref b :: us) F3 H3 R3 s3 ⟨⟨i, e, g1⟩, it⟩
theorem RelS.rcv {K : PySem.W.Frag} {F0 H0 F H F' H' : Hp} {r : CE} {σ : L2.St} {i : Nat} {l : List RV} {p : Addr} {us : List V} (R : RelS K F0 H0 F H r σ) (R1 : RelS K F0 H0 F' H' r σ) (s1 : Same H H') (hi : i < r.length) (hp : H' p = some (.tup us)) (it : ItOk K (fun a => H a = none ∧ F' a = none) F' H' l us) :
    TowS K F0 H0 (upd F' p (.tup us)) H' (r.set i .no) (σ.set i (some (.ref p))) i l := by
  have R2 := R1.grow (Grow.tup R1.g.fh hp)
  have R3 := (R2.setval (i := i) (Rp.exn (a := p))).dropS i
  rw [List.set_set] at R3
  have sF : Same F' (upd F' p (.tup us)) := (Grow.tup R1.g.fh hp).ff
  refine ⟨R3, p, us, by rw [List.getElem?_set_self (by rw [← R.len]; exact hi)], upd_same, ItOk.mono sF (Same.refl _) (fun a ws n e => ⟨Same.free R.g.hh n.1, ?_, fun z => (R.ownAt z.of_no).2.2.nn n.1⟩) l us it⟩
  rw [upd_ne (fun z => by subst z; rw [hp] at e; cases e)]
  exact n.2
theorem atI_natX {A : Type} {xs : List A} {j : Nat} {x : A} (h : xs[j]? = some x) : atI xs (j : Int) = some x := by
  have hj : j < xs.length := (List.getElem?_eq_some_iff.mp h).1
  unfold atI ixN
  rw [if_pos (by omega), if_pos (by omega)]
  simpa using h
/-- a loop over a list of one's own -/
def tForo (K : PySem.W.Frag) (W : WX) (cl : Nat → Value) (i : Nat) (body : PyData → CE → Out) : TS := fun D σ H => ∃ r F H1 a vs l, RelS K F H1 F H r σ ∧ σ[i]? = some (some (V.ref a)) ∧ H1 a = some (.lst vs) ∧ Rps K F l vs ∧ PostS K W cl F H1 (forL body l r) D
theorem ps_foro (O : CtxOkS X C W G cl k) {t : Tg} {i : Nat} {b : Sxs} {tg : Expr} {y : Str} {py pos : Pos} {p : List Stmt} (hh : C.hot = false) (h1 : isT C t tg = true) (h2 : C.N[i]? = some y) (h3 : C.vis y = true) (h4 : okName y = true) (hb : isB b C p = true) :
    PS X (.For tg (.Name y py) p [] pos) (tForo X.K W cl i fun d r' => match tgs Cell.val t d r' with
      | some r2 => sxs G b r2
      | none => .fail) := by
  refine PS_weak (ps_for O.pass (O.calm hh) (pi_list (c_vis O.toCtxOk h2 h3 h4)) (pg_ok O.toCtxOk hh h1) (soundB b G C _ X W O hb) (fold_ok (x := .Name y py) rfl)) fun D σ H q => ?_
  obtain ⟨r, F, H1, a, xs, ds, R, e1, e2, rs, post⟩ := q
  refine ⟨_, e1, a, rfl, ⟨xs, .inl (.inl (R.g.hh _ _ e2))⟩, ?_⟩
  refine ⟨fun j m σ H => m = ds.length - j ∧ j ≤ ds.length ∧ ∃ r F', RelS X.K F H1 F' H r σ ∧ PostS X.K W cl F H1 (forL (fun d r' => match tgs Cell.val t d r' with
    | some r2 => sxs G b r2
    | none => .fail) (ds.drop j) r) D, ⟨ds.length, rfl, Nat.zero_le _, _, _, R, post⟩, ?_⟩
  rintro j m σ' H' ⟨rfl, hj, r', F', R3, post3⟩
  have sq : SqL X.K H' a xs := .inl (.inl (R3.g.hh _ _ e2))
  by_cases hlt : j < ds.length
  · have ed : ds[j]? = some ds[j] := List.getElem?_eq_getElem hlt
    rw [List.drop_eq_getElem_cons hlt, forL] at post3
    obtain ⟨v, ev1, rp0⟩ := rs.get ed
    refine .inr ⟨⟨xs, v, sq, ev1⟩, fun σ H => ∃ r F', RelS X.K F H1 F' H r σ ∧ PostS X.K W cl F H1 (forL (fun d r' => match tgs Cell.val t d r' with
      | some r2 => sxs G b r2
      | none => .fail) (ds.drop (j + 1)) r) D, fun σ' H' hN => ⟨ds.length - (j + 1), by omega, rfl, hlt, hN⟩, fun x H2 y => ?_⟩
    obtain ⟨rfl, y2⟩ := y
    have e3 := y2 xs sq
    rw [ev1] at e3
    cases e3
    have rp : Rp X.K F' ds[j] v := Rp.mono R3.g.ff _ _ rp0
    cases e5 : tgs Cell.val t ds[j] r' with
    | none =>
      rw [e5] at post3
      exact False.elim post3
    | some r2 =>
      rw [e5] at post3
      refine gT_run R3.g.fh rp e5 fun σ2 tv => ⟨r2, F', F, H1, R3.tgs rp e5 tv, ?_⟩
      dsimp only at post3
      cases e6 : sxs G b r2 with
      | nx r3 => rw [e6] at post3; exact fun σ F H R => ⟨r3, F, R, post3⟩
      | cnt r3 => rw [e6] at post3; exact fun σ F H R => ⟨r3, F, R, post3⟩
      | brk r3 => rw [e6] at post3; exact post3
      | ret x => rw [e6] at post3; exact post3
      | exc x r3 => rw [e6] at post3; exact post3
      | fail => rw [e6] at post3; exact post3
  · have e : j = ds.length := by omega
    subst e
    rw [List.drop_length, forL] at post3
    exact .inl ⟨⟨xs, sq, by rw [← rs.len]; exact Nat.le_refl _⟩, (show ∀ σ F', ∀ H, RelS X.K F H1 F' H r' σ → D.nx σ H from post3) σ' F' H' R3⟩
section
variable {K : PySem.W.Frag} {F0 H0 F H F' H' : Hp} {r : CE} {σ : L2.St}
/-- a slot's list is set aside: only its address stays -/
theorem RelS.aside (R : RelS K F0 H0 F H r σ) {i : Nat} {l : List PyData} {a : Addr} {vs : List V} (e : r[i]? = some (.own l)) (g1 : σ[i]? = some (some (.ref a))) (g4 : H a = some (.lst vs)) : RelS K F (upd H0 a (.lst vs)) F H (r.set i (.val (tkD a))) σ := by
  obtain ⟨a', vs', q1, q2, q3, q4, q5⟩ := R.own i l e
  rw [g1] at q1
  cases q1
  refine ⟨⟨Same.refl _, R.g.fh, fun b o h => ?_, fun _ _ => rfl⟩, by rw [List.length_set]; exact R.len, fun j d h => ?_, fun j m h => ?_, fun p q m1 m2 b e1 e2 s1 s2 => ?_, fun j m h => ?_, fun p q m1 m2 b e1 e2 s1 s2 => ?_⟩
  · by_cases hb : b = a
    · subst hb
      rw [upd_same] at h
      rw [g4, h]
    · rw [upd_ne hb] at h
      exact R.g.hh b o h
  · rcases set_get h with ⟨rfl, _, z⟩ | ⟨_, z⟩
    · cases z
      exact ⟨_, g1, .exn⟩
    · exact R.val j d z
  · rcases set_get h with ⟨_, _, z⟩ | ⟨hj, z⟩
    · cases z
    · obtain ⟨b, ws, h1, h2, h3, h4, h5⟩ := R.own j m z
      refine ⟨b, ws, h1, h2, ?_, h4, h5⟩
      rw [upd_ne (fun y => hj (R.ap i j l m a e z g1 (by rw [← y]; exact h1)))]
      exact h3
  · rcases set_get e1 with ⟨_, _, z⟩ | ⟨_, z1⟩
    · cases z
    · rcases set_get e2 with ⟨_, _, z⟩ | ⟨_, z2⟩
      · cases z
      · exact R.ap p q m1 m2 b z1 z2 s1 s2
  · rcases set_get h with ⟨_, _, z⟩ | ⟨hj, z⟩
    · cases z
    · obtain ⟨b, h1, h2, h3, h4, h5⟩ := R.dic j m z
      refine ⟨b, h1, h2, ?_, h4, h5⟩
      rw [upd_ne (fun y => by subst y; rw [g4] at h4; cases h4)]
      exact h3
  · rcases set_get e1 with ⟨_, _, z⟩ | ⟨_, z1⟩
    · cases z
    · rcases set_get e2 with ⟨_, _, z⟩ | ⟨_, z2⟩
      · cases z
      · exact R.apd p q m1 m2 b z1 z2 s1 s2
theorem Grow.unside {a : Addr} {vs : List V} (g0 : Grow F0 H0 F H) (h0 : H0 a = none) (g : Grow F (upd H0 a (.lst vs)) F' H') : Grow F0 H0 F' H' := by
  have ne : ∀ b, H0 b ≠ none → b ≠ a := fun b hb z => by subst z; exact hb h0
  refine ⟨g0.ff.trans g.ff, g.fh, fun b o h => g.hh b o ?_, fun b h => ?_⟩
  · rw [upd_ne (ne b (some_ne h))]; exact h
  · have hn := ne b h.nn
    rw [g.nw b (by obtain ⟨o, h1, h2⟩ := h; exact ⟨o, by rw [upd_ne hn]; exact h1, h2⟩), g0.nw b h]
theorem tkD_ref {a : Addr} {v : V} (h : Rp K F (tkD a) v) : v = .ref a := by
  unfold tkD at h
  cases h with
  | dtk kvs q => cases kvs <;> simp [encD, ksD] at q
  | exn => rfl
/-- .. and taken up again -/
theorem RelS.takeup {a : Addr} {vs : List V} {i : Nat} {l : List PyData} {r' : CE} {σ' : L2.St} (g0 : Grow F0 H0 F H) (h0 : H0 a = none) (hf : F a = none) (rs : Rps K F l vs) (R : RelS K F (upd H0 a (.lst vs)) F' H' r' σ') (e : r'[i]? = some (.val (tkD a))) : RelS K F0 H0 F' H' (r'.set i (.own l)) σ' := by
  obtain ⟨v, g1, rp⟩ := R.val i _ e
  cases tkD_ref rp
  have ha : H' a = some (.lst vs) := R.g.hh _ _ upd_same
  have hf' : F' a = none := (R.g.nw a (NT.lst upd_same)).trans hf
  have ne : ∀ {b : Addr}, upd H0 a (.lst vs) b = none → b ≠ a ∧ H0 b = none := fun {b} h => by
    have hb : b ≠ a := fun z => by rw [z, upd_same] at h; cases h
    rw [upd_ne hb] at h
    exact ⟨hb, h⟩
  refine ⟨Grow.unside g0 h0 R.g, by rw [List.length_set]; exact R.len, fun j d h => ?_, fun j m h => ?_, fun p q m1 m2 b e1 e2 s1 s2 => ?_, fun j m h => ?_, fun p q m1 m2 b e1 e2 s1 s2 => ?_⟩
  · rcases set_get h with ⟨_, _, z⟩ | ⟨_, z⟩
    · cases z
    · exact R.val j d z
  · rcases set_get h with ⟨rfl, _, z⟩ | ⟨hj, z⟩
    · cases z
      exact ⟨a, vs, g1, hf', h0, ha, Rps.mono R.g.ff _ _ rs⟩
    · obtain ⟨b, ws, h1, h2, h3, h4, h5⟩ := R.own j m z
      exact ⟨b, ws, h1, h2, (ne h3).2, h4, h5⟩
  · have out : ∀ {p : Nat} {m1 : List PyData}, r'[p]? = some (.own m1) → σ'[p]? = some (some (.ref b)) → b ≠ a := fun {p m1} z s => by
      obtain ⟨b', ws, h1, h2, h3, _⟩ := R.own p m1 z
      rw [s] at h1
      cases h1
      exact (ne h3).1
    rcases set_get e1 with ⟨rfl, _, z⟩ | ⟨_, z1⟩
    · rcases set_get e2 with ⟨rfl, _, _⟩ | ⟨_, z2⟩
      · rfl
      · rw [g1] at s1
        cases s1
        exact absurd rfl (out z2 s2)
    · rcases set_get e2 with ⟨rfl, _, z⟩ | ⟨_, z2⟩
      · rw [g1] at s2
        cases s2
        exact absurd rfl (out z1 s1)
      · exact R.ap p q m1 m2 b z1 z2 s1 s2
  · rcases set_get h with ⟨_, _, z⟩ | ⟨hj, z⟩
    · cases z
    · obtain ⟨b, h1, h2, h3, h4, h5⟩ := R.dic j m z
      exact ⟨b, h1, h2, (ne h3).2, h4, h5⟩
  · rcases set_get e1 with ⟨_, _, z⟩ | ⟨_, z1⟩
    · cases z
    · rcases set_get e2 with ⟨_, _, z⟩ | ⟨_, z2⟩
      · cases z
      · exact R.apd p q m1 m2 b z1 z2 s1 s2
end
theorem backO_post {K : PySem.W.Frag} {F0 H0 F H : Hp} {a : Addr} {vs : List V} {i : Nat} {l : List PyData} {o : Out} {D : Ends} {rest : CE → Res TV} {nxt : L2.St → Hp → Prop} (g0 : Grow F0 H0 F H) (h0 : H0 a = none) (hf : F a = none) (rs : Rps K F l vs)
    (post : PostT K W cl F0 H0 (match backO a i l o with
      | .nx r' => rest r'
      | o => endT o) D) (hn : ∀ r F' σ' H', RelS K F0 H0 F' H' r σ' → PostT K W cl F0 H0 (rest r) D → nxt σ' H') : PostS K W cl F (upd H0 a (.lst vs)) o { D with nx := nxt } := by
  cases o with
  | brk r => exact False.elim post
  | cnt r => exact False.elim post
  | fail => exact False.elim post
  | ret x =>
    have post : PV K D.rt x F0 H0 := post
    show PV K D.rt x F _
    cases x with
    | val d => exact fun v F' H' g rp => post v F' H' (Grow.unside g0 h0 g) rp
    | own m => exact fun b ws F' H' g n1 n2 e r => post b ws F' H' (Grow.unside g0 h0 g) (by
        have hb : b ≠ a := fun z => by rw [z, upd_same] at n1; cases n1
        rw [upd_ne hb] at n1
        exact n1) n2 e r
  | exc c r => exact fun σ F' H' R d pay => (show ∀ σ F H, Grow F0 H0 F H → ∀ d, Pay c F d → W (cl (c % 16)) d σ H from post) σ F' H' (Grow.unside g0 h0 R.g) d pay
  | nx r =>
    intro σ' F' H' R
    cases e : r[i]? with
    | none => simp only [backO, e] at post; exact False.elim post
    | some cc =>
      by_cases hc : cc = .val (tkD a)
      · subst hc
        simp only [backO, e, tkD, if_true] at post
        exact hn _ F' σ' H' (RelS.takeup g0 h0 hf rs R e) post
      · simp only [backO, e] at post
        split at post
        · rename_i r1 e9
          split at e9
          · rename_i z e8
            split at e9
            · rename_i hz
              cases (Option.some.inj e8)
              exact absurd (by rw [hz]; rfl) hc
            · cases e9
          · cases e9
        · rename_i o2 hno
          split at post
          · split at post
            · rename_i z e8 hz
              cases (Option.some.inj e8)
              exact absurd (by rw [hz]; rfl) hc
            · exact False.elim post
          · exact False.elim post
theorem soundX {ft : Nat → List PyData → Res TV} {T : List (Str × Nat)} (hT : FtOk X cl k T ft) (O : CtxOkS X C W G cl k) : ∀ (t : Tx) (sts : List Stmt), isTx t T C sts = true → PSs X sts (canTx X.K W cl (txs G ft t))
  | .bas s t, [], h => by simp [isTx] at h
  | .ret its, [], h => by simp [isTx] at h
  | .call i f es t, [], h => by simp [isTx] at h
  | .gd c b t, [], h => by simp [isTx] at h
  | .app i j d b, [], h => by simp [isTx] at h
  | .foro t i b u, [], h => by simp [isTx] at h
  | .ret its, _ :: _ :: _, h => by simp [isTx] at h
  | .bas s t, st :: rest, h => by
    unfold isTx at h
    rw [Bool.and_eq_true] at h
    refine PSs_weak (pss_cons (soundS s G C st X W O h.1) (soundX hT O t rest h.2)) fun D σ H q => ?_
    obtain ⟨m, r, F, F0, H0, S, post⟩ := q
    cases m with
    | some m => rw [txs] at post; exact False.elim post
    | none =>
      rw [txs] at post
      refine ⟨r, F, F0, H0, S, ?_⟩
      cases e : sx G s r with
      | nx r' =>
        rw [e] at post
        exact fun σ' F' H' R => ⟨none, r', F', F0, H0, R, post⟩
      | ret x => rw [e] at post; exact endS post rfl
      | brk r' => rw [e] at post; exact endS post rfl
      | cnt r' => rw [e] at post; exact endS post rfl
      | exc c r' => rw [e] at post; exact endS post rfl
      | fail => rw [e] at post; exact endS post rfl
  | .ret its, [st], h => by
    unfold isTx at h
    split at h
    case h_2 => cases h
    refine PSs_weak (pss_one (ps_ret (pe_tup (pa_its O its _ h)))) fun D σ H q => ?_
    obtain ⟨m, r, F, F0, H0, S, post⟩ := q
    cases m with
    | some m => rw [txs] at post; exact False.elim post
    | none =>
      rw [txs] at post
      refine ⟨r, F, F0, H0, S, ?_⟩
      have R : RelS X.K F0 H0 F H r σ := S
      cases e : evI G its r with
      | fail => rw [e] at post; exact False.elim post
      | exc c =>
        rw [e] at post
        exact fun F' H' g d pay => (show ∀ σ F H, Grow F0 H0 F H → ∀ d, Pay c F d → W (cl (c % 16)) d σ H from post) σ F' H' g d pay
      | ok l =>
        rw [e] at post
        have post : PostT X.K W cl F0 H0 (if lineB l.length = true then .ok (.t l) else .fail) D := post
        by_cases hz : lineB l.length = true
        · rw [if_pos hz] at post
          intro us F' H' R' sF it
          refine ⟨by rw [it.len]; exact lineB_ok hz, fun p hp => ?_⟩
          have post : PT X.K D.rt (.t l) F0 H0 := post
          exact post p us F' (upd H' p (.tup us)) (R'.g.trans (Grow.aside R'.g.fh hp)) upd_same (ItOk.mono (Same.refl _) (same_upd hp) (fun _ _ n _ => n) l us (ItR.ok R' l us it))
        · rw [if_neg hz] at post
          exact False.elim post
  | .gd c b t, st :: rest, h => by
    unfold isTx at h
    rw [Bool.and_eq_true] at h
    obtain ⟨h, h3⟩ := h
    split at h
    case h_2 => cases h
    rw [Bool.and_eq_true] at h
    refine PSs_weak (pss_cons (ps_if (soundE c C _ X W O.toCtxOk h.1).2 (soundB b G C _ X W O h.2) pss_nil) (soundX hT O t rest h3)) fun D σ H q => ?_
    obtain ⟨m, r, F, F0, H0, S, post⟩ := q
    rw [txs] at post
    obtain ⟨F1, R1, back⟩ := S.open
    refine useT2 R1 post fun q F' H' post2 R2 sH => ?_
    cases q with
    | true => exact ⟨_, F', F0, H0, R2, endS post2 rfl⟩
    | false =>
      obtain ⟨F2, S2⟩ := back F' H' R2 sH
      exact ⟨m, r, F2, F0, H0, S2, post2⟩
  | .call i f es t, st :: rest, h => by
    unfold isTx at h
    rw [Bool.and_eq_true] at h
    obtain ⟨h, h3⟩ := h
    split at h
    case h_2 => cases h
    rename_i y py g pg x xs pc pos
    simp only [Bool.and_eq_true, decide_eq_true_eq] at h
    obtain ⟨⟨h1, h2⟩, h⟩ := h
    cases e0 : T[f]? with
    | none => rw [e0] at h; cases h
    | some q =>
      obtain ⟨z, np⟩ := q
      rw [e0] at h
      simp only [Bool.and_eq_true, decide_eq_true_eq, Bool.not_eq_true'] at h
      obtain ⟨⟨⟨⟨⟨hh, rfl⟩, k1⟩, k2⟩, k3⟩, k4⟩ := h
      obtain ⟨n1, _, _⟩ := okName_ok k2
      obtain ⟨fa, fd, ps, F, mg, kp, bs⟩ := hT f _ _ e0
      have hN : X.N[i]? = some y := by rw [O.nN]; exact h1
      have hA := (soundL es C _ X W O.toCtxOk k3).1
      have k3' := k3
      cases es with
      | nil => unfold isL at k3'; cases k3'
      | cons e es =>
        unfold isL at k3'
        simp only [Bool.and_eq_true] at k3'
        refine PSs_weak (pss_cons (ps_set O.nd hN (O.loc h2) (pe_callD F (O.room hh) (O.gl k1) mg kp bs .nil (E := WE W) (fun σ => L2N.passAt O.tk σ) hA n1 (star_ok k3'.1.2) (isL_star es xs k3'.2)) (sw_not rfl) (O.fnok y h2)) (soundX hT O t rest h3)) fun D σ H q => ?_
        obtain ⟨m, r, F2, F0, H0, S, post⟩ := q
        cases m with
        | some m => rw [txs] at post; exact False.elim post
        | none =>
          rw [txs] at post
          have R : RelS X.K F0 H0 F2 H r σ := S
          refine ⟨r.map rdP, F2, R.g.fh, R.plain, ?_⟩
          cases e1 : evs G (.cons e es) (r.map rdP) with
          | fail => rw [e1] at post; exact False.elim post
          | exc c =>
            rw [e1] at post
            exact fun F' H' g d pay => (show ∀ σ F H, Grow F0 H0 F H → ∀ d, Pay c F d → W (cl (c % 16)) d σ H from post) σ F' H' (R.g.trans g) d pay
          | ok ds =>
            rw [e1] at post
            have post : PostT X.K W cl F0 H0 ((ft f ds).bind fun y => match y with
              | .v x => txs G ft t none (r.set i (.val x.d))
              | .t l => if i < r.length then txs G ft t (some (i, l)) (r.set i .no) else .fail) D := post
            intro vs F' H' g rs
            have R1 := R.grow g
            refine ⟨by rw [List.append_nil, ← rs.len, evs_len _ _ _ e1]; exact k4, ds, F', g.fh, by rw [List.append_nil]; exact rs, ?_⟩
            cases e2 : ft f ds with
            | fail => rw [e2] at post; exact False.elim post
            | exc c =>
              rw [e2] at post
              exact fun F3 H3 g3 d pay => (show ∀ σ F H, Grow F0 H0 F H → ∀ d, Pay c F d → W (cl (c % 16)) d σ H from post) σ F3 H3 (R1.g.trans g3) d pay
            | ok y2 =>
              rw [e2] at post
              cases y2 with
              | v x =>
                refine PV.use fun v F3 H3 g3 rp => ?_
                exact ⟨none, _, F3, F0, H0, (R1.grow g3).setval rp, post⟩
              | t l =>
                have post : PostT X.K W cl F0 H0 (if i < r.length then txs G ft t (some (i, l)) (r.set i .no) else .fail) D := post
                by_cases hi : i < r.length
                · rw [if_pos hi] at post
                  intro p us F3 H3 g3 hp it
                  exact ⟨some (i, l), _, _, F0, H0, RelS.rcv R1 (R1.grow g3) g3.hh hi hp it, post⟩
                · rw [if_neg hi] at post
                  exact False.elim post
  | .foro t i b u, st :: rest, h => by
    unfold isTx at h
    rw [Bool.and_eq_true] at h
    obtain ⟨h, h3⟩ := h
    split at h
    case h_2 => cases h
    simp only [Bool.and_eq_true, decide_eq_true_eq, Bool.not_eq_true'] at h
    obtain ⟨⟨⟨⟨⟨hh, k1⟩, k2⟩, k3⟩, k4⟩, k5⟩ := h
    refine PSs_weak (pss_cons (ps_foro (G := G) O hh k1 k2 k3 k4 k5) (soundX hT O u rest h3)) fun D σ H q => ?_
    obtain ⟨m, r, F, F0, H0, S, post⟩ := q
    cases m with
    | some m => rw [txs] at post; exact False.elim post
    | none =>
      rw [txs] at post
      have R : RelS X.K F0 H0 F H r σ := S
      cases e : r[i]? with
      | none => rw [e] at post; exact False.elim post
      | some cc =>
        rw [e] at post
        cases cc with
        | no => exact False.elim post
        | val d => exact False.elim post
        | dic d => exact False.elim post
        | own l =>
          obtain ⟨a, vs, g1, g2, g3, g4, g5⟩ := R.own i l e
          refine ⟨_, F, _, a, vs, l, R.aside e g1 g4, g1, upd_same, g5, ?_⟩
          dsimp only at post
          rcases allA_at (fun a => backO a.1 i l (forL (fun d r' => match tgs Cell.val t d r' with
            | some r2 => sxs G b r2
            | none => .fail) l (r.set i (.val (tkD a.1))))) with e9 | e9
          · rw [e9] at post
            exact False.elim post
          · rw [← e9 (a, 0)] at post
            exact backO_post R.g g3 g2 g5 post fun r F' σ' H' R' p' => ⟨none, r, F', F0, H0, R', p'⟩
  | .app i j d b, st :: rest, h => by
    unfold isTx at h
    rw [Bool.and_eq_true] at h
    obtain ⟨h, hb⟩ := h
    split at h
    case h_2 => cases h
    rename_i y py ix p2 f ap x cp pos
    simp only [Bool.and_eq_true, decide_eq_true_eq] at h
    obtain ⟨⟨⟨⟨⟨⟨⟨⟨rfl, h1⟩, h2⟩, h3⟩, h4⟩, h5⟩, h6⟩, h7⟩, h8⟩ := h
    have st1 : starEach [x] X.env = (false, eval x X.env) :: starEach [] X.env := star_ok h7
    refine PSs_weak (pss_cons (ps_expr (pe_bm PySem.F.plainAttrs_list PySem.F.slot_list_append PySem.F.type_list_append mt_append (pe_ix op_ixD (c_vis O.toCtxOk h1 h2 h3) (soundE _ C ix X W O.toCtxOk h4).1 (plain_ok h5)) (pa_cons (soundE _ C x X W O.toCtxOk h6).1 pa_nil st1) rfl (by rw [st1]; rfl) h8 st1 rfl) rfl) (soundB b G C rest X W O hb)) fun D σ H q => ?_
    obtain ⟨m, r, F, F0, H0, S, post⟩ := q
    match m, S, post with
    | none, S, post => rw [txs] at post; exact False.elim post
    | some (i', l), S, post =>
      rw [txs] at post
      by_cases hz : i = i' ∧ appOk l j = true
      · rw [if_pos hz] at post
        obtain ⟨rfl, hok⟩ := hz
        obtain ⟨R, p, us, e1, e2, it⟩ := S
        unfold appOk at hok
        cases e3 : l[j]? with
        | none => rw [e3] at hok; cases hok
        | some y2 =>
          rw [e3] at hok
          cases y2 with
          | val d => cases hok
          | own m2 =>
            have hok : decide (m2.length < 16777216) = true := hok
            rw [decide_eq_true_eq] at hok
            obtain ⟨ts, rs, ht⟩ := ItOk.toks l us it
            obtain ⟨a, ws, t1, ⟨n0, nf, no⟩, ha, rm⟩ := ht j m2 e3
            refine ⟨_, e1, r.map rdP, F, R.g.fh, R.plain, ?_⟩
            rw [ev]
            intro w F1 H1 g1 rw1
            cases rw1
            refine ⟨F1, .tuple ts, .int j, g1.fh, .tup (.inl (.inl (g1.ff _ _ e2))) (Rps.mono g1.ff _ _ rs), .int _, ?_⟩
            have e5 : ixD (.tuple ts) (.int (j : Int)) = some (.val (.dict [(.int (a : Int), .none)])) := by
              show (match atI ts (j : Int) with
                | some d => rv d
                | none => none) = _
              rw [atI_natX t1]
              rfl
            rw [e5]
            intro w2 F2' H2 g2 rw2
            have ew : w2 = .ref a := by
              cases rw2 with
              | dtk kvs q => cases kvs <;> simp [encD, ksD] at q
              | exn => rfl
            subst ew
            have g12 := g1.trans g2
            have ha2 : H2 a = some (.lst ws) := g12.hh _ _ ha
            refine ⟨.inl ⟨rfl, ws, .inl (.inl ha2)⟩, r.map rdP, F2', g2.fh, (R.grow g12).plain, ?_⟩
            rw [ev]
            intro w3 F3 H3 g3 rw3
            have g13 := g12.trans g3
            refine ⟨a, ws, w3, rfl, rfl, g13.hh _ _ ha, by rw [← rm.len, sizeLine_eq]; exact hok, ?_⟩
            exact ⟨r, F3, F0, H0, (R.grow g13).side ((g13.nw a (NT.lst ha)).trans nf) n0 no, endS post rfl⟩
      · rw [if_neg hz] at post
        exact False.elim post
end

/-! ### defs -/
noncomputable def fnX (G : Gd) (ft : Nat → List PyData → Res TV) (b : Tx) (n : Nat) (ds : List PyData) : Res TV := txs G ft b none (ds.map Cell.val ++ List.replicate (n - ds.length) Cell.no)
def ftG (l : List (List PyData → Res TV)) (n : Nat) : List PyData → Res TV := (l[n]?).getD fun _ => .fail
section
variable {P : Program} {w : World} {K : PySem.W.Frag} {mg : Str → Option Value} {base : Heap} {cl : Nat → Value} {k : Nat}
def FtP (P : Program) (w : World) (K : PySem.W.Frag) (mg : Str → Option Value) (base : Heap) (cl : Nat → Value) (k : Nat) (q : Str × Nat) (f : List PyData → Res TV) : Prop := ∃ fa fd ps, FnOk P w K mg base (L2N.CX P w) k fa fd ps (spTw K cl f q.2) ∧ mg q.1 = some (.ref fa) ∧ PySem.W.keepIn K (.ref fa) = true ∧ Binds K fd ps []
theorem FtP.mono {j : Nat} {q : Str × Nat} {f : List PyData → Res TV} (h : FtP P w K mg base cl j q f) (e : j ≤ k) : FtP P w K mg base cl k q f := by
  obtain ⟨fa, fd, ps, a, b⟩ := h
  exact ⟨fa, fd, ps, a.mono e, b⟩
theorem fn_okT {x qual : Str} {params : Arguments} {body : List Stmt} {scope : Scope} {dvs : List V} {f : Addr} {fd : FuncData} {ps : List Str} {b : Tx} {C : Chk} {fs : List (List PyData → Rr)} {cs : List PyData} {ts : List (List (Str × Int))} {gs : List (Nat × Tk → List PyData → Rr)} {ks : List (List PyData → Rr)}
    (F : FunD K x qual params body scope dvs [] f fd) (S : C8.scC C.N ps scope = true) (hn : C.nm = scope.names) {T : List (Str × Nat)} {ftl : List (List PyData → Res TV)} (chk : isTx b T C body = true) (hft : allP2 (FtP P w K mg base cl k) T ftl)
    (hb : allP (fun x => mg x = none) C.blt) (hc : allP2 (ConP mg) C.cons cs) (he : ∀ (n : Nat) x, C.exc[n]? = some x → x ≠ ("" : Str) → ExcP K mg n x (cl n)) (ht : allP2 (TabP K w mg) C.tabs ts) (hf : allP2 (FnP P w K mg base cl k) C.fns fs) (hk : ClsOk K mg C.exc cl) (hx : allP2 (FnXP P w K mg base C.exc cl k) C.fnh gs) (hkf : allP2 (KfP P w K mg base cl k) C.kfn ks) (h0 : C.hot = false) (hi : ∀ (n : Nat) x, C.exc[n]? = some x → x ≠ ("" : Str) → n = 9 ∨ n = 10 → IniOk P w K mg base cl k n) :
    FnOk P w K mg base (L2N.CX P w) (k + 1) f fd ps (spTw K cl (fnX (gdT fs cs ts gs ks) (ftG ftl) b C.N.length) ps.length) := by
  have S' := C8.fnScope_by S
  refine F.ok S' (fun vs H Q E h => h.1) fun cdv A outer s H vs Q E hr hsp => ?_
  obtain ⟨hl, ds, F0, hs, rs, pc⟩ := hsp
  have O : CtxOkS (cxOf (L2N.CX P w) P w K mg base C.N qual scope f cdv A outer s H E) C (fun cls d _ H => E cls d H) (gdT fs cs ts gs ks) cl k := {
    calm := fun _ => rfl
    nd := S'.nd
    nN := rfl
    kind := S'.kind
    sr := fun x kd e => .inl (by rw [hn] at e; exact e)
    fnok := fun _ _ => .inl rfl
    room := fun _ => hr
    roomh := L2H.roomH_of hr
    hotx := fun z => absurd (h0.symm.trans z) Bool.false_ne_true
    tk := L2N.takes_of rfl rfl rfl rfl
    stk := rfl
    frm := rfl
    cls := hk
    exi := fun n x e hx h _ => hi n x e hx h
    hfn := fun n x np e => by
      obtain ⟨g, h1, fa, fd2, ps2, a1, a2, a3, a4⟩ := allP2_get hx e
      have e2 : (gdT fs cs ts gs ks).fnh n = g := by
        show (gs[n]?).getD _ = g
        rw [h1]
        rfl
      refine ⟨fa, fd2, ps2, ?_, a2, a3, a4⟩
      rw [e2]
      exact a1
    pass := passes_of rfl
    blt := allP_mem hb
    con := fun n x e => by
      obtain ⟨d, h1, h2, u, h3, h4⟩ := allP2_get hc e
      exact ⟨d, u, h1, h2, h3, h4⟩
    exc := fun n x e en => by
      obtain ⟨Ca, f3, f4, f5, f6, f7, f8⟩ := he n x e en
      exact ⟨Ca, f3, f4, raises_own f5 f6, f7, f8⟩
    tab := fun n x e => by
      obtain ⟨t, h1, a, h2, h3⟩ := allP2_get ht e
      exact ⟨t, a, h1, h2, h3⟩
    kfns := fun n x np kn m df e => by
      obtain ⟨g, h1, a1⟩ := allP2_get hkf e
      have e2 : (gdT fs cs ts gs ks).kfn n = g := by
        show (ks[n]?).getD _ = g
        rw [h1]
        rfl
      rw [e2]
      exact a1
    fns := fun n x np dfl e => by
      obtain ⟨g, h1, h2⟩ := allP2_get hf e
      obtain ⟨fa, fd2, ps2, a1, a2, a3, a4⟩ := Kn.ex h2
      have e2 : (gdT fs cs ts gs ks).fn n = g := by
        show (fs[n]?).getD _ = g
        rw [h1]
        rfl
      refine ⟨fa, fd2, ps2, ?_, a2, a3, a4⟩
      rw [e2]
      exact a1 }
  have hT : FtOk (cxOf (L2N.CX P w) P w K mg base C.N qual scope f cdv A outer s H E) cl k T (ftG ftl) := fun n x np e => by
    obtain ⟨g, h1, fa, fd2, ps2, a1, a2, a3, a4⟩ := allP2_get hft e
    have e2 : ftG ftl n = g := by
      unfold ftG
      rw [h1]
      rfl
    refine ⟨fa, fd2, ps2, ?_, a2, a3, a4⟩
    rw [e2]
    exact a1
  refine ⟨_, soundX (G := gdT fs cs ts gs ks) hT O b body chk, none, ds.map Cell.val ++ List.replicate (C.N.length - ds.length) Cell.no, F0, F0, H, start_rel hs rs, ?_⟩
  unfold fnX at pc
  cases e : txs (gdT fs cs ts gs ks) (ftG ftl) b none (ds.map Cell.val ++ List.replicate (C.N.length - ds.length) Cell.no) with
  | ok x => rw [e] at pc; exact pc
  | exc c =>
    rw [e] at pc
    exact fun σ F H g d pay => (show ∀ F' H', Grow F0 _ F' H' → ∀ d, Pay c F' d → E (cl (c % 16)) d H' from pc) F H g d pay
  | fail => rw [e] at pc; exact False.elim pc

end
section
variable {gl blts : List Str} {cons : List (Str × PyData)} {excs : List Str} {tbs : List Tb} {fn : List He.DefD} {P : Program} {w : World} {K : PySem.W.Frag} {mg : Str → Option Value} {base : Heap} {k : Nat}
theorem Ms.knT (M : Ms gl blts cons excs tbs fn w K mg) (i : Nat) {x : Str} {st : Stmt} {N ps : List Str} {fns : List (Str × Nat × List PyData)} {fs : List (List PyData → Rr)} {b : Tx} {cx : List Str} {cs : List PyData} {tx : List Str} {ts : List (List (Str × Int))} {T : List (Str × Nat)} {ftl : List (List PyData → Res TV)} (hd : fn[i]? = some (mkD x st [])) (hx : x ∈ gl)
    (bind : ∀ f fd, FunD K x x (defArgs st) (defBody st) (defScope st) [] [] f fd → Binds K fd ps [])
    (S : C8.scC N ps (defScope st) = true) (chk : isTx b T ⟨N, (defScope st).names, fns, cx, blts, excs, tx, false, [], []⟩ (defBody st) = true) (hc : allP2 (ConP mg) cx cs) (ht : allP2 (TabP K w mg) tx ts) (hf : allP2 (FnP P w K mg base (clOf K excs) k) fns fs) (hft : allP2 (FtP P w K mg base (clOf K excs) k) T ftl) (hk2 : noPl excs = true ∨ 2 ≤ k := by first | exact .inr (by decide) | exact .inl (by rfl)) :
    FtP P w K mg base (clOf K excs) (k + 1) (x, ps.length) (fnX (gdT fs cs ts) (ftG ftl) b N.length) := by
  obtain ⟨fd, F⟩ := M.df i _ hd
  have F2 : FunD K x x (defArgs st) (defBody st) (defScope st) [] [] (He.ga K x) fd := F
  exact ⟨_, _, _, fn_okT (C := ⟨N, (defScope st).names, fns, cx, blts, excs, tx, false, [], []⟩) F2 S rfl chk hft M.bl hc M.exc ht hf M.cls trivial trivial rfl (M.iniK hk2), M.gl x hx, F2.kp, bind _ _ F2⟩
theorem Ms.lawT (M : Ms gl blts cons excs tbs fn w K mg) (i : Nat) {x : Str} {p : Str} {st : Stmt} {N : List Str} {fns : List (Str × Nat × List PyData)} {fs : List (List PyData → Rr)} {b : Tx} {cx : List Str} {cs : List PyData} {tx : List Str} {ts : List (List (Str × Int))} {T : List (Str × Nat)} {ftl : List (List PyData → Res TV)} (hd : fn[i]? = some (mkD x st []))
    (S : C8.scC N [p] (defScope st) = true) (chk : isTx b T ⟨N, (defScope st).names, fns, cx, blts, excs, tx, false, [], []⟩ (defBody st) = true) (hc : allP2 (ConP mg) cx cs) (ht : allP2 (TabP K w mg) tx ts)
    (bnd : ∀ (kV doc pm : Value) (an : Option Addr) (cdv ct : Value) (us : List Value), us.length = 1 → bindArgs (PySem.W.fnOf x x (defArgs st) (defBody st) (defScope st) .none kV doc pm an cdv ct) ⟨us, []⟩ = pure ([p].zip us)) :
    ∃ fd : FuncData, (∀ (s : Shared) (u : Value), BindsTo s fd ⟨[u], []⟩ [(p, u)]) ∧ ∀ (P : Program) (base : Heap) (k : Nat), noPl excs = true ∨ 2 ≤ k → allP2 (FnP P w K mg base (clOf K excs) k) fns fs → allP2 (FtP P w K mg base (clOf K excs) k) T ftl →
      FnOk P w K mg base (L2N.CX P w) (k + 1) (He.ga K x) fd [p] (spTw K (clOf K excs) (fnX (gdT fs cs ts) (ftG ftl) b N.length) 1) := by
  obtain ⟨fd, F⟩ := M.df i _ hd
  have F2 : FunD K x x (defArgs st) (defBody st) (defScope st) [] [] (He.ga K x) fd := F
  refine ⟨fd, fun s u => F2.bindsA (ps := [p]) bnd s [u] rfl, fun P base k hk2 hf hft => ?_⟩
  exact fn_okT (C := ⟨N, (defScope st).names, fns, cx, blts, excs, tx, false, [], []⟩) F2 S rfl chk hft M.bl hc M.exc ht hf M.cls trivial trivial rfl (M.iniK hk2)
end
theorem law_spT {K : PySem.W.Frag} {cl : Nat → Value} {f : List PyData → Res TV} {H : Hp} {a : Addr} {ns : List Int} (h : f [.list (ns.map PyData.int)] = .ok (.v (.val (.bool true)))) (S : SqL K H a (ns.map V.int)) : spTw K cl f 1 [.ref a] H (fun v _ => v = .bl true) fun _ _ _ => False := by
  refine ⟨rfl, [.list (ns.map PyData.int)], H, Same.refl _, .cons (.lst S Rps.ints) .nil, ?_⟩
  rw [h]
  intro v F' H' g r
  cases r
  rfl
end PX

namespace SB
open PySem PySem.Spec PyProof.Rows L2 PX
def b__law_cell_at : Sxs := .cons (.ite (.cmp .lt (.v 1) (.bf .len (.cons (.v 0) .nil))) (.cons (.ret ⟨[], false⟩ (.ix (.v 0) (.v 1))) .nil) (.nil)) (.cons (.ret ⟨[], false⟩ (.c (.int 0))) .nil)
def b__law_whole : Sxs := .cons (.ret ⟨[], false⟩ (.band (.cons (.isi (.v 0) .int) (.cons (.bnot (.isi (.v 0) .bool)) .nil)))) .nil
def b_ones_c1 : Ex := (.cmp .gt (.v 0) (.c (.int 0)))
def b_ones_w1 : Sxs := .cons (.aug 1 .add (.bop .band (.v 0) (.c (.int 1)))) (.cons (.aug 0 .shr (.c (.int 1))) .nil)
def b_ones : Sxs := .cons (.asg 1 false ⟨[], false⟩ (.c (.int 0))) (.cons (.whl b_ones_c1 b_ones_w1) (.cons (.ret ⟨[], false⟩ (.v 1)) .nil))
def b_product : Sxs := .cons (.asg 2 false ⟨[], false⟩ (.bop .add (.bop .add (.ix (.v 0) (.c (.int 0))) (.ix (.v 1) (.c (.int 0)))) (.bop .mul (.c (.int 2)) (.call 0 (.cons (.bop .band (.ix (.v 0) (.c (.int 2))) (.ix (.v 1) (.c (.int 1)))) .nil) [])))) (.cons (.ret ⟨[], false⟩ (.tup (.cons (.bop .mod (.v 2) (.c (.int 4))) (.cons (.bop .bxor (.ix (.v 0) (.c (.int 1))) (.ix (.v 1) (.c (.int 1)))) (.cons (.bop .bxor (.ix (.v 0) (.c (.int 2))) (.ix (.v 1) (.c (.int 2)))) .nil))))) .nil)
def b__law_ones_c1 : Ex := (.cmp .gt (.v 0) (.c (.int 0)))
def b__law_ones_w1 : Sxs := .cons (.asg 1 false ⟨[], false⟩ (.bop .add (.v 1) (.bop .mod (.v 0) (.c (.int 2))))) (.cons (.asg 0 false ⟨[], false⟩ (.bop .fdiv (.v 0) (.c (.int 2)))) .nil)
def b__law_ones : Sxs := .cons (.asg 1 false ⟨[], false⟩ (.c (.int 0))) (.cons (.whl b__law_ones_c1 b__law_ones_w1) (.cons (.ret ⟨[], false⟩ (.v 1)) .nil))
def b_places_of_c1 : Ex := (.cmp .gt (.v 0) (.c (.int 0)))
def b_places_of_w1 : Sxs := .cons (.ite (.cmp .eq (.bop .band (.v 0) (.c (.int 1))) (.c (.int 1))) (.cons (.app 1 ⟨[], false⟩ (.v 2)) .nil) (.nil)) (.cons (.aug 0 .shr (.c (.int 1))) (.cons (.aug 2 .add (.c (.int 1))) .nil))
def b_places_of : Sxs := .cons (.asg 1 true ⟨[], false⟩ (.lst .nil)) (.cons (.asg 2 false ⟨[], false⟩ (.c (.int 0))) (.cons (.whl b_places_of_c1 b_places_of_w1) (.cons (.reto 1) .nil)))
def b_top_of : Sxs := .cons (.ret ⟨[], false⟩ (.bop .shl (.c (.int 1)) (.bop .sub (.bits (.v 0)) (.c (.int 1))))) .nil
def b_swept_l1 : Sxs := .cons (.ite (.cmp .gt (.bop .band (.v 1) (.call 0 (.cons (.ix (.v 4) (.c (.int 0))) .nil) [])) (.c (.int 0))) (.cons (.aug 1 .bxor (.ix (.v 4) (.c (.int 0)))) (.cons (.aug 2 .bxor (.ix (.v 4) (.c (.int 1)))) (.cons (.aug 3 .bxor (.ix (.v 4) (.c (.int 2)))) .nil))) (.nil)) .nil
def b_swept : Sxs := .cons (.for_ (.nm 4) [] (.seq (.v 0)) b_swept_l1) (.cons (.ret ⟨[], false⟩ (.tup (.cons (.v 1) (.cons (.v 2) (.cons (.v 3) .nil))))) .nil)
def b_answer_of_l1 : Sxs := .cons (.ite (.cmp .ne (.bop .mod (.call 0 (.cons (.bop .band (.v 2) (.v 1)) .nil) []) (.c (.int 2))) (.v 3)) (.cons (.aug 1 .bxor (.call 1 (.cons (.v 2) .nil) [])) .nil) (.nil)) .nil
def b_answer_of : Sxs := .cons (.asg 1 false ⟨[], false⟩ (.c (.int 0))) (.cons (.for_ (.tp [2, 3, 4]) [] (.rev (.v 0)) b_answer_of_l1) (.cons (.ret ⟨[], false⟩ (.v 1)) .nil))
def b_solved_l1 : Sxs := .cons (.asg 4 false ⟨[], true⟩ (.call 2 (.cons (.v 1) (.cons (.ix (.v 3) (.c (.int 0))) (.cons (.ix (.v 3) (.c (.int 1))) (.cons (.bop .shl (.c (.int 1)) (.v 2)) .nil)))) [])) (.cons (.ite (.cmp .gt (.ix (.v 4) (.c (.int 0))) (.c (.int 0))) (.cons (.app 1 ⟨[], false⟩ (.v 4)) .nil) (.cons (.ite (.cmp .eq (.ix (.v 4) (.c (.int 1))) (.c (.int 1))) (.cons (.ret ⟨[], false⟩ (.tup (.cons (.c (.none)) (.cons (.call 1 (.cons (.ix (.v 4) (.c (.int 2))) .nil) []) .nil)))) .nil) (.nil)) .nil)) .nil)
def b_solved : Sxs := .cons (.asg 1 true ⟨[], false⟩ (.lst .nil)) (.cons (.for_ (.tp [2, 3]) [] (.enum (.v 0)) b_solved_l1) (.cons (.ret ⟨[], true⟩ (.tup (.cons (.call 0 (.cons (.v 1) .nil) []) (.cons (.c (.none)) .nil)))) .nil))
def b_code_of : Sxs := .cons (.ret ⟨[], false⟩ (.bop .bor (.ix (.v 0) (.c (.int 1))) (.bop .shl (.ix (.v 0) (.c (.int 2))) (.g 0)))) .nil
def b_has_at : Sxs := .cons (.ret ⟨[], false⟩ (.cmp .eq (.bop .band (.bop .shr (.call 0 (.cons (.v 0) .nil) []) (.v 1)) (.c (.int 1))) (.c (.int 1)))) .nil
def b__law_product_2 : Sxs := .cons (.asg 2 false ⟨[], false⟩ (.bop .add (.bop .add (.ix (.v 0) (.c (.int 0))) (.ix (.v 1) (.c (.int 0)))) (.bop .mul (.c (.int 2)) (.call 0 (.cons (.bop .band (.ix (.v 0) (.c (.int 2))) (.ix (.v 1) (.c (.int 1)))) .nil) [])))) (.cons (.ret ⟨[], false⟩ (.tup (.cons (.bop .mod (.v 2) (.c (.int 4))) (.cons (.bop .bxor (.ix (.v 0) (.c (.int 1))) (.ix (.v 1) (.c (.int 1)))) (.cons (.bop .bxor (.ix (.v 0) (.c (.int 2))) (.ix (.v 1) (.c (.int 2)))) .nil))))) .nil)
def b__law_commute : Sxs := .cons (.ret ⟨[], false⟩ (.cmp .eq (.bop .mod (.bop .add (.call 0 (.cons (.bop .band (.ix (.v 0) (.c (.int 1))) (.ix (.v 1) (.c (.int 2)))) .nil) []) (.call 0 (.cons (.bop .band (.ix (.v 0) (.c (.int 2))) (.ix (.v 1) (.c (.int 1)))) .nil) [])) (.c (.int 2))) (.c (.int 0)))) .nil
def b__law_even_mark : Sxs := .cons (.asg 2 false ⟨[], false⟩ (.bop .mod (.bop .mul (.v 0) (.c (.int 381966011250107))) (.bop .pow (.c (.int 10)) (.c (.int 15))))) (.cons (.asg 3 false ⟨[], false⟩ (.bop .mod (.bop .fdiv (.v 2) (.c (.int 2))) (.bop .shl (.c (.int 1)) (.v 1)))) (.cons (.asg 4 false ⟨[], false⟩ (.bop .mod (.bop .fdiv (.v 2) (.c (.int 128))) (.bop .shl (.c (.int 1)) (.v 1)))) (.cons (.ret ⟨[], false⟩ (.tup (.cons (.bop .mod (.bop .add (.call 0 (.cons (.bop .band (.v 3) (.v 4)) .nil) []) (.bop .mul (.c (.int 2)) (.bop .mod (.v 2) (.c (.int 2))))) (.c (.int 4))) (.cons (.v 3) (.cons (.v 4) .nil))))) .nil)))
def b__law_fits_l1 : Sxs := .cons (.ite (.bnot (.call 0 (.cons (.v 3) (.cons (.v 2) .nil)) [])) (.cons (.ret ⟨[], false⟩ (.c (.bool false))) .nil) (.nil)) .nil
def b__law_fits : Sxs := .cons (.for_ (.nm 3) [] (.seq (.v 0)) b__law_fits_l1) (.cons (.ret ⟨[], false⟩ (.cmp .nin (.tup (.cons (.ix (.v 2) (.c (.int 1))) (.cons (.ix (.v 2) (.c (.int 2))) .nil))) (.v 1))) .nil)
def b__law_table_l1 : Sxs := .cons (.dput 4 ⟨[], false⟩ (.cons (.bop .bxor (.v 7) (.ix (.v 6) (.c (.int 1)))) (.cons (.bop .bxor (.v 8) (.ix (.v 6) (.c (.int 2)))) .nil)) (.c (.bool true))) .nil
def b__law_table_l2 : Sxs := .cons (.asg 6 false ⟨[], false⟩ (.call 1 (.cons (.v 5) (.cons (.v 1) .nil)) [])) (.cons (.ite (.band (.cons (.cmp .lt (.bf .len (.cons (.v 3) .nil)) (.v 2)) (.cons (.call 0 (.cons (.v 3) (.cons (.v 4) (.cons (.v 6) .nil))) []) .nil))) (.cons (.app 3 ⟨[], false⟩ (.v 6)) (.cons (.forb (.tp [7, 8]) (.bf .list (.cons (.v 4) .nil)) b__law_table_l1) .nil)) (.nil)) .nil)
def b__law_table : Sxs := .cons (.asg 3 true ⟨[], false⟩ (.lst .nil)) (.cons (.dnew 4 (.cons (.c (.int 0)) (.cons (.c (.int 0)) .nil)) (.c (.bool true))) (.cons (.for_ (.nm 5) [] (.seq (.v 0)) b__law_table_l2) (.cons (.reto 3) .nil)))
def b_equation_at_l1 : Sxs := .cons (.ite (.call 0 (.cons (.v 5) (.cons (.v 2) .nil)) []) (.cons (.aug 3 .bor (.bop .shl (.c (.int 1)) (.v 4))) .nil) (.nil)) .nil
def b_equation_at : Sxs := .cons (.asg 3 false ⟨[], false⟩ (.c (.int 0))) (.cons (.for_ (.tp [4, 5]) [] (.enum (.v 0)) b_equation_at_l1) (.cons (.ret ⟨[], false⟩ (.tup (.cons (.v 3) (.cons (.bf .int1 (.cons (.call 0 (.cons (.v 1) (.cons (.v 2) .nil)) []) .nil)) .nil)))) .nil))
def b_mark_across_l1 : Sxs := .cons (.ite (.cmp .lt (.v 3) (.g 0)) (.cons (.aug 2 .bor (.bop .shl (.c (.int 1)) (.v 3))) .nil) (.cons (.aug 1 .bor (.bop .shl (.c (.int 1)) (.bop .sub (.v 3) (.g 0)))) .nil)) .nil
def b_mark_across : Sxs := .cons (.asg 1 false ⟨[], false⟩ (.c (.int 0))) (.cons (.asg 2 false ⟨[], false⟩ (.c (.int 0))) (.cons (.for_ (.nm 3) [] (.seq (.v 0)) b_mark_across_l1) (.cons (.ret ⟨[], false⟩ (.tup (.cons (.bop .mod (.call 0 (.cons (.bop .band (.v 1) (.v 2)) .nil) []) (.c (.int 4))) (.cons (.v 1) (.cons (.v 2) .nil))))) .nil)))
def b_made_of_l1 : Sxs := .cons (.asg 7 false ⟨[], false⟩ (.call 0 (.cons (.v 7) (.cons (.ix (.v 0) (.v 8)) .nil)) [])) .nil
def b_made_of_m1 : Ex := (.comp [("number", 8)] (.ix (.v 3) (.v 8)) (.nm 8) (.seq (.v 5)) .no)
def b_made_of_m2 : Ex := (.comp [("place", 9)] (.call 4 (.cons (.v 0) (.cons (.v 1) (.cons (.v 9) .nil))) []) (.nm 9) (.seq (.v 3)) .no)
def b_made_of : Sxs := .cons (.asg 3 false ⟨[], false⟩ (.bop .add (.lrng1 (.v 2)) (.lrng2 (.g 0) (.bop .add (.g 0) (.v 2))))) (.cons (.unp [4, 5] ⟨[], false⟩ (.call 3 (.cons b_made_of_m2 .nil) [])) (.cons (.ite (.cmp .is (.v 4) (.c (.none))) (.cons (.ret ⟨[], false⟩ (.tup (.cons (.c (.str "apart")) (.cons (.call 2 (.cons b_made_of_m1 .nil) []) .nil)))) .nil) (.nil)) (.cons (.asg 6 false ⟨[], false⟩ (.call 1 (.cons (.v 4) .nil) [])) (.cons (.asg 7 false ⟨[], false⟩ (.tup (.cons (.c (.int 0)) (.cons (.c (.int 0)) (.cons (.c (.int 0)) .nil))))) (.cons (.for_ (.nm 8) [] (.seq (.v 6)) b_made_of_l1) (.cons (.ret ⟨[], false⟩ (.tup (.cons (.c (.str "made")) (.cons (.bop .mod (.bop .sub (.ix (.v 1) (.c (.int 0))) (.ix (.v 7) (.c (.int 0)))) (.c (.int 4))) (.cons (.v 6) .nil))))) .nil))))))
def b__law_mark_by_3_l1 : Sxs := .cons (.ite (.cmp .eq (.bop .mod (.bop .fdiv (.bop .fdiv (.v 3) (.c (.int 4))) (.bop .shl (.c (.int 1)) (.v 5))) (.c (.int 2))) (.c (.int 1))) (.cons (.asg 4 false ⟨[], false⟩ (.call 0 (.cons (.v 4) (.cons (.ix (.v 0) (.v 5)) .nil)) [])) .nil) (.nil)) .nil
def b__law_mark_by_3 : Sxs := .cons (.ite (.cmp .eq (.v 2) (.c (.int 0))) (.cons (.ret ⟨[], false⟩ (.tup (.cons (.bop .mod (.v 3) (.c (.int 4))) (.cons (.bop .mod (.bop .fdiv (.v 3) (.c (.int 4))) (.bop .shl (.c (.int 1)) (.v 1))) (.cons (.bop .mod (.bop .fdiv (.v 3) (.c (.int 256))) (.bop .shl (.c (.int 1)) (.v 1))) .nil))))) .nil) (.nil)) (.cons (.asg 4 false ⟨[], false⟩ (.tup (.cons (.bop .mod (.v 3) (.c (.int 4))) (.cons (.c (.int 0)) (.cons (.c (.int 0)) .nil))))) (.cons (.for_ (.nm 5) [] (.rng1 (.bf .len (.cons (.v 0) .nil))) b__law_mark_by_3_l1) (.cons (.ite (.cmp .eq (.v 2) (.c (.int 1))) (.cons (.asg 6 false ⟨[], false⟩ (.bop .mod (.bop .fdiv (.v 3) (.c (.int 256))) (.v 1))) (.cons (.ite (.cmp .eq (.bop .mod (.bop .fdiv (.v 3) (.c (.int 2048))) (.c (.int 2))) (.c (.int 0))) (.cons (.ret ⟨[], false⟩ (.tup (.cons (.ix (.v 4) (.c (.int 0))) (.cons (.bop .bxor (.ix (.v 4) (.c (.int 1))) (.bop .shl (.c (.int 1)) (.v 6))) (.cons (.ix (.v 4) (.c (.int 2))) .nil))))) .nil) (.nil)) (.cons (.ret ⟨[], false⟩ (.tup (.cons (.ix (.v 4) (.c (.int 0))) (.cons (.ix (.v 4) (.c (.int 1))) (.cons (.bop .bxor (.ix (.v 4) (.c (.int 2))) (.bop .shl (.c (.int 1)) (.v 6))) .nil))))) .nil))) (.nil)) (.cons (.ret ⟨[], false⟩ (.v 4)) .nil))))
def b__law_is_made_l1 : Sxs := .cons (.ite (.bor (.cons (.bnot (.call 1 (.cons (.v 5) .nil) [])) (.cons (.cmp .le (.v 5) (.v 4)) (.cons (.cmp .ge (.v 5) (.bf .len (.cons (.v 1) .nil))) .nil)))) (.cons (.ret ⟨[], false⟩ (.c (.bool false))) .nil) (.nil)) (.cons (.asg 4 false ⟨[], false⟩ (.v 5)) (.cons (.asg 3 false ⟨[], false⟩ (.call 0 (.cons (.v 3) (.cons (.ix (.v 1) (.v 5)) .nil)) [])) .nil))
def b__law_is_made : Sxs := .cons (.ite (.bor (.cons (.cmp .ne (.bf .len (.cons (.v 0) .nil)) (.c (.int 3))) (.cons (.bnot (.call 1 (.cons (.ix (.v 0) (.c (.int 1))) .nil) [])) (.cons (.cmp .lt (.ix (.v 0) (.c (.int 1))) (.c (.int 0))) (.cons (.cmp .gt (.ix (.v 0) (.c (.int 1))) (.c (.int 3))) (.cons (.bnot (.isi (.ix (.v 0) (.c (.int 2))) .list)) .nil)))))) (.cons (.ret ⟨[], false⟩ (.c (.bool false))) .nil) (.nil)) (.cons (.asg 3 false ⟨[], false⟩ (.tup (.cons (.ix (.v 0) (.c (.int 1))) (.cons (.c (.int 0)) (.cons (.c (.int 0)) .nil))))) (.cons (.asg 4 false ⟨[], false⟩ (.neg (.c (.int 1)))) (.cons (.for_ (.nm 5) [] (.seq (.ix (.v 0) (.c (.int 2)))) b__law_is_made_l1) (.cons (.ret ⟨[], false⟩ (.cmp .eq (.v 3) (.v 2))) .nil))))
def b__law_is_apart_l1 : Sxs := .cons (.ite (.bnot (.call 0 (.cons (.v 4) (.cons (.v 5) .nil)) [])) (.cons (.ret ⟨[], false⟩ (.c (.bool false))) .nil) (.nil)) .nil
def b__law_is_apart : Sxs := .cons (.ite (.bor (.cons (.cmp .ne (.bf .len (.cons (.v 0) .nil)) (.c (.int 2))) (.cons (.bnot (.isi (.ix (.v 0) (.c (.int 1))) .tuple)) (.cons (.cmp .ne (.bf .len (.cons (.ix (.v 0) (.c (.int 1))) .nil)) (.c (.int 3))) .nil)))) (.cons (.ret ⟨[], false⟩ (.c (.bool false))) .nil) (.nil)) (.cons (.asg 4 false ⟨[], false⟩ (.ix (.v 0) (.c (.int 1)))) (.cons (.ite (.bor (.cons (.bnot (.call 2 (.cons (.ix (.v 4) (.c (.int 0))) .nil) [])) (.cons (.bnot (.call 2 (.cons (.ix (.v 4) (.c (.int 1))) .nil) [])) (.cons (.bnot (.call 2 (.cons (.ix (.v 4) (.c (.int 2))) .nil) [])) .nil)))) (.cons (.ret ⟨[], false⟩ (.c (.bool false))) .nil) (.nil)) (.cons (.ite (.bor (.cons (.cmp .lt (.ix (.v 4) (.c (.int 0))) (.c (.int 0))) (.cons (.cmp .gt (.ix (.v 4) (.c (.int 0))) (.c (.int 3))) (.cons (.cmp .lt (.bf .min2 (.cons (.ix (.v 4) (.c (.int 1))) (.cons (.ix (.v 4) (.c (.int 2))) .nil))) (.c (.int 0))) (.cons (.cmp .ge (.bf .max2 (.cons (.ix (.v 4) (.c (.int 1))) (.cons (.ix (.v 4) (.c (.int 2))) .nil))) (.bop .shl (.c (.int 1)) (.v 3))) .nil))))) (.cons (.ret ⟨[], false⟩ (.c (.bool false))) .nil) (.nil)) (.cons (.ite (.bor (.cons (.cmp .ne (.bop .mod (.bop .add (.ix (.v 4) (.c (.int 0))) (.call 1 (.cons (.bop .band (.ix (.v 4) (.c (.int 1))) (.ix (.v 4) (.c (.int 2)))) .nil) [])) (.c (.int 2))) (.c (.int 0))) (.cons (.call 0 (.cons (.v 4) (.cons (.v 2) .nil)) []) .nil))) (.cons (.ret ⟨[], false⟩ (.c (.bool false))) .nil) (.nil)) (.cons (.for_ (.nm 5) [] (.seq (.v 1)) b__law_is_apart_l1) (.cons (.ret ⟨[], false⟩ (.c (.bool true))) .nil))))))
end SB
namespace Gk54
open PySem PySem.Spec PyProof.Rows L2 PX SB
noncomputable def f_ones : List PyData → Rr := fnD (gdT [] [] []) b_ones 2
noncomputable def f_places_of : List PyData → Rr := fnD (gdT [] [] []) b_places_of 3
noncomputable def f_top_of : List PyData → Rr := fnD (gdT [] [] []) b_top_of 1
noncomputable def f_code_of : List PyData → Rr := fnD (gdT [] [.int 6] []) b_code_of 1
noncomputable def f__law_cell_at : List PyData → Rr := fnD (gdT [] [] []) b__law_cell_at 2
noncomputable def f__law_whole : List PyData → Rr := fnD (gdT [] [] []) b__law_whole 1
noncomputable def f__law_ones : List PyData → Rr := fnD (gdT [] [] []) b__law_ones 2
noncomputable def f_product : List PyData → Rr := fnD (gdT [f_ones] [] []) b_product 3
noncomputable def f_swept : List PyData → Rr := fnD (gdT [f_top_of] [] []) b_swept 5
noncomputable def f_answer_of : List PyData → Rr := fnD (gdT [f_ones, f_top_of] [] []) b_answer_of 5
noncomputable def f_has_at : List PyData → Rr := fnD (gdT [f_code_of] [] []) b_has_at 2
noncomputable def f_mark_across : List PyData → Rr := fnD (gdT [f_ones] [.int 6] []) b_mark_across 4
noncomputable def f__law_product : List PyData → Rr := fnD (gdT [f__law_ones] [] []) b__law_product_2 3
noncomputable def f__law_commute : List PyData → Rr := fnD (gdT [f__law_ones] [] []) b__law_commute 2
noncomputable def f__law_even_mark : List PyData → Rr := fnD (gdT [f__law_ones] [] []) b__law_even_mark 5
noncomputable def f_solved : List PyData → Rr := fnD (gdT [f_answer_of, f_places_of, f_swept] [] []) b_solved 5
noncomputable def f_equation_at : List PyData → Rr := fnD (gdT [f_has_at] [] []) b_equation_at 6
noncomputable def f__law_fits : List PyData → Rr := fnD (gdT [f__law_commute] [] []) b__law_fits 4
noncomputable def f__law_mark_by : List PyData → Rr := fnD (gdT [f__law_product] [] []) b__law_mark_by_3 7
noncomputable def f__law_is_made : List PyData → Rr := fnD (gdT [f__law_product, f__law_whole] [] []) b__law_is_made 6
noncomputable def f__law_is_apart : List PyData → Rr := fnD (gdT [f__law_commute, f__law_ones, f__law_whole] [] []) b__law_is_apart 6
noncomputable def f_made_of : List PyData → Rr := fnD (gdT [f_product, f_places_of, f_mark_across, f_solved, f_equation_at] [.int 6] []) b_made_of 10
def x_made_of : Tx := .bas (.asg 3 false ⟨[], false⟩ (.bop .add (.lrng1 (.v 2)) (.lrng2 (.g 0) (.bop .add (.g 0) (.v 2))))) (.bas (.unp [4, 5] ⟨[], false⟩ (.call 3 (.cons b_made_of_m2 .nil) [])) (.bas (.ite (.cmp .is (.v 4) (.c (.none))) (.cons (.ret ⟨[], false⟩ (.tup (.cons (.c (.str "apart")) (.cons (.call 2 (.cons b_made_of_m1 .nil) []) .nil)))) .nil) (.nil)) (.bas (.asg 6 true ⟨[], false⟩ (.call 1 (.cons (.v 4) .nil) [])) (.bas (.asg 7 false ⟨[], false⟩ (.tup (.cons (.c (.int 0)) (.cons (.c (.int 0)) (.cons (.c (.int 0)) .nil))))) (.foro (.nm 8) 6 b_made_of_l1 (.ret [.e (.c (.str "made")), .e (.bop .mod (.bop .sub (.ix (.v 1) (.c (.int 0))) (.ix (.v 7) (.c (.int 0)))) (.c (.int 4))), .o 6]))))))
noncomputable def ft_made_of : List PyData → Res TV := fnX (gdT [f_product, f_places_of, f_mark_across, f_solved, f_equation_at] [.int 6] []) (ftG []) x_made_of 10
noncomputable def f__law_table : List PyData → Rr := fnD (gdT [f__law_fits, f__law_even_mark] [] []) b__law_table 9
def x_law : Tx := .bas (.asg 1 false ⟨[], false⟩ (.call 4 (.cons (.v 0) (.cons (.c (.int 0)) .nil)) [])) (.bas (.asg 2 false ⟨[], false⟩ (.bop .add (.c (.int 1)) (.bop .mod (.v 1) (.c (.int 6))))) (.bas (.asg 3 false ⟨[], false⟩ (.call 5 (.cons (.sl (.v 0) (.yes (.c (.int 3))) (.yes (.c (.int 63)))) (.cons (.v 2) (.cons (.bop .mod (.bop .fdiv (.v 1) (.c (.int 6))) (.c (.int 7))) .nil))) [])) (.bas (.asg 4 false ⟨[], false⟩ (.call 3 (.cons (.v 3) (.cons (.v 2) (.cons (.bop .mod (.call 4 (.cons (.v 0) (.cons (.c (.int 1)) .nil)) []) (.c (.int 4))) (.cons (.bop .mod (.call 4 (.cons (.v 0) (.cons (.c (.int 2)) .nil)) []) (.bop .pow (.c (.int 10)) (.c (.int 15)))) .nil)))) [])) (.bas (.asg 5 false ⟨[], false⟩ (.bf .list (.cons (.v 3) .nil))) (.call 6 0 (.cons (.v 3) (.cons (.v 4) (.cons (.v 2) .nil))) (.gd (.bor (.cons (.cmp .ne (.v 3) (.v 5)) (.cons (.bnot (.isi (.v 6) .tuple)) (.cons (.cmp .lt (.bf .len (.cons (.v 6) .nil)) (.c (.int 2))) (.cons (.bnot (.isi (.ix (.v 6) (.c (.int 0))) .str)) .nil))))) (.cons (.ret ⟨[], false⟩ (.c (.bool false))) .nil) (.gd (.cmp .eq (.ix (.v 6) (.c (.int 0))) (.c (.str "apart"))) (.cons (.ret ⟨[], false⟩ (.call 2 (.cons (.v 6) (.cons (.v 5) (.cons (.v 4) (.cons (.v 2) .nil)))) [])) .nil) (.gd (.bor (.cons (.cmp .ne (.ix (.v 6) (.c (.int 0))) (.c (.str "made"))) (.cons (.bnot (.call 0 (.cons (.v 6) (.cons (.v 5) (.cons (.v 4) .nil))) [])) .nil))) (.cons (.ret ⟨[], false⟩ (.c (.bool false))) .nil) (.app 6 2 (.int 9) (.cons (.asg 7 false ⟨[], false⟩ (.call 1 (.cons (.v 3) (.cons (.v 4) (.cons (.v 2) .nil))) [])) (.cons (.ret ⟨[], false⟩ (.band (.cons (.isi (.v 7) .tuple) (.cons (.cmp .eq (.ix (.v 7) (.c (.int 0))) (.c (.str "made"))) (.cons (.call 0 (.cons (.v 7) (.cons (.v 5) (.cons (.v 4) .nil))) []) (.cons (.cmp .eq (.v 3) (.v 5)) .nil)))))) .nil)))))))))))
noncomputable def f_law : List PyData → Res TV := fnX (gdT [f__law_is_made, f_made_of, f__law_is_apart, f__law_mark_by, f__law_cell_at, f__law_table] [] []) (ftG [ft_made_of]) x_law 8
end Gk54

namespace Gk54
open PySem PySem.Spec PyProof.Rows L2 PX SB
def top (i : Nat) : Stmt := PySem.Challenge.pw_spinboard_k54_made_of.main.body.getD i (.Pass ⟨0, 0, 0, 0⟩)
def blts : List Str := ["reversed", "enumerate", "int", "list", "range", "len", "isinstance", "bool", "min", "max", "tuple", "str"]
def excs : List Str := []
def tbs : List Tb := []
def cons : List (Str × PyData) := [("SIDE", .int 6)]
abbrev s_ones : Stmt := top 1
def n_ones : List Str := ["number", "many"]
def q_ones : List (Str × Nat × List PyData) := []
abbrev s_places_of : Stmt := top 4
def n_places_of : List Str := ["number", "found", "place"]
def q_places_of : List (Str × Nat × List PyData) := []
abbrev s_top_of : Stmt := top 5
def n_top_of : List Str := ["number"]
def q_top_of : List (Str × Nat × List PyData) := []
abbrev s_code_of : Stmt := top 11
def n_code_of : List Str := ["mark"]
def q_code_of : List (Str × Nat × List PyData) := []
abbrev s__law_cell_at : Stmt := top 17
def n__law_cell_at : List Str := ["_law_script", "_law_k"]
def q__law_cell_at : List (Str × Nat × List PyData) := []
abbrev s__law_whole : Stmt := top 18
def n__law_whole : List Str := ["_law_found"]
def q__law_whole : List (Str × Nat × List PyData) := []
abbrev s__law_ones : Stmt := top 19
def n__law_ones : List Str := ["_law_number", "_law_found"]
def q__law_ones : List (Str × Nat × List PyData) := []
abbrev s_product : Stmt := top 2
def n_product : List Str := ["one", "other", "q"]
def q_product : List (Str × Nat × List PyData) := [("ones", 1, [])]
abbrev s_swept : Stmt := top 6
def n_swept : List Str := ["kept", "mask", "bit", "used", "other"]
def q_swept : List (Str × Nat × List PyData) := [("top_of", 1, [])]
abbrev s_answer_of : Stmt := top 7
def n_answer_of : List Str := ["kept", "found", "mask", "bit", "used"]
def q_answer_of : List (Str × Nat × List PyData) := [("ones", 1, []), ("top_of", 1, [])]
abbrev s_has_at : Stmt := top 12
def n_has_at : List Str := ["mark", "place"]
def q_has_at : List (Str × Nat × List PyData) := [("code_of", 1, [])]
abbrev s_mark_across : Stmt := top 14
def n_mark_across : List Str := ["places", "flips", "signs", "place"]
def q_mark_across : List (Str × Nat × List PyData) := [("ones", 1, [])]
abbrev s__law_product : Stmt := top 20
def n__law_product : List Str := ["_law_one", "_law_other", "_law_turns"]
def q__law_product : List (Str × Nat × List PyData) := [("_law_ones", 1, [])]
abbrev s__law_commute : Stmt := top 21
def n__law_commute : List Str := ["_law_one", "_law_other"]
def q__law_commute : List (Str × Nat × List PyData) := [("_law_ones", 1, [])]
abbrev s__law_even_mark : Stmt := top 22
def n__law_even_mark : List Str := ["_law_cell", "_law_cells", "_law_mixed", "_law_f", "_law_s"]
def q__law_even_mark : List (Str × Nat × List PyData) := [("_law_ones", 1, [])]
abbrev s_solved : Stmt := top 8
def n_solved : List Str := ["equations", "kept", "place", "equation", "row"]
def q_solved : List (Str × Nat × List PyData) := [("answer_of", 1, []), ("places_of", 1, []), ("swept", 4, [])]
abbrev s_equation_at : Stmt := top 13
def n_equation_at : List Str := ["rows", "mark", "place", "mask", "number", "row"]
def q_equation_at : List (Str × Nat × List PyData) := [("has_at", 2, [])]
abbrev s__law_fits : Stmt := top 23
def n__law_fits : List Str := ["_law_rows", "_law_known", "_law_mark", "_law_row"]
def q__law_fits : List (Str × Nat × List PyData) := [("_law_commute", 2, [])]
abbrev s__law_mark_by : Stmt := top 25
def n__law_mark_by : List Str := ["_law_rows", "_law_cells", "_law_way", "_law_far", "_law_found", "_law_k", "_law_cell"]
def q__law_mark_by : List (Str × Nat × List PyData) := [("_law_product", 2, [])]
abbrev s__law_is_made : Stmt := top 26
def n__law_is_made : List Str := ["_law_told", "_law_rows", "_law_mark", "_law_made", "_law_last", "_law_number"]
def q__law_is_made : List (Str × Nat × List PyData) := [("_law_product", 2, []), ("_law_whole", 1, [])]
abbrev s__law_is_apart : Stmt := top 27
def n__law_is_apart : List Str := ["_law_told", "_law_rows", "_law_mark", "_law_cells", "_law_other", "_law_row"]
def q__law_is_apart : List (Str × Nat × List PyData) := [("_law_commute", 2, []), ("_law_ones", 1, []), ("_law_whole", 1, [])]
abbrev s_made_of : Stmt := top 15
def n_made_of : List Str := ["rows", "mark", "cells", "places", "found", "numbers", "taken", "made", "number", "place"]
def qt_made_of : List (Str × Nat × List PyData) := [("product", 2, []), ("places_of", 1, []), ("mark_across", 1, []), ("solved", 1, []), ("equation_at", 3, [])]
def q_made_of : List (Str × Nat × List PyData) := [("product", 2, []), ("places_of", 1, []), ("mark_across", 1, []), ("solved", 1, []), ("equation_at", 3, [])]
abbrev s__law_table : Stmt := top 24
def n__law_table : List Str := ["_law_drawn", "_law_cells", "_law_most", "_law_rows", "_law_known", "_law_cell", "_law_mark", "_law_f", "_law_s"]
def q__law_table : List (Str × Nat × List PyData) := [("_law_fits", 3, []), ("_law_even_mark", 2, [])]
abbrev s_law : Stmt := top 28
def n_law : List Str := ["_law_script", "_law_head", "_law_cells", "_law_rows", "_law_mark", "_law_kept", "_law_told", "_law_again"]
def q_law : List (Str × Nat × List PyData) := [("_law_is_made", 3, []), ("made_of", 3, []), ("_law_is_apart", 4, []), ("_law_mark_by", 4, []), ("_law_cell_at", 2, []), ("_law_table", 3, [])]
/-! ### the text is what is checked -/
theorem ck_ones : isB b_ones ⟨n_ones, (defScope s_ones).names, q_ones, [], blts, excs, [], false, [], []⟩ (defBody s_ones) = true := by kernel_rfl
theorem sc_ones : C8.scC n_ones ["number"] (defScope s_ones) = true := by kernel_rfl
theorem ck_places_of : isB b_places_of ⟨n_places_of, (defScope s_places_of).names, q_places_of, [], blts, excs, [], false, [], []⟩ (defBody s_places_of) = true := by kernel_rfl
theorem sc_places_of : C8.scC n_places_of ["number"] (defScope s_places_of) = true := by kernel_rfl
theorem ck_top_of : isB b_top_of ⟨n_top_of, (defScope s_top_of).names, q_top_of, [], blts, excs, [], false, [], []⟩ (defBody s_top_of) = true := by kernel_rfl
theorem sc_top_of : C8.scC n_top_of ["number"] (defScope s_top_of) = true := by kernel_rfl
theorem ck_code_of : isB b_code_of ⟨n_code_of, (defScope s_code_of).names, q_code_of, ["SIDE"], blts, excs, [], false, [], []⟩ (defBody s_code_of) = true := by kernel_rfl
theorem sc_code_of : C8.scC n_code_of ["mark"] (defScope s_code_of) = true := by kernel_rfl
theorem ck__law_cell_at : isB b__law_cell_at ⟨n__law_cell_at, (defScope s__law_cell_at).names, q__law_cell_at, [], blts, excs, [], false, [], []⟩ (defBody s__law_cell_at) = true := by kernel_rfl
theorem sc__law_cell_at : C8.scC n__law_cell_at ["_law_script", "_law_k"] (defScope s__law_cell_at) = true := by kernel_rfl
theorem ck__law_whole : isB b__law_whole ⟨n__law_whole, (defScope s__law_whole).names, q__law_whole, [], blts, excs, [], false, [], []⟩ (defBody s__law_whole) = true := by kernel_rfl
theorem sc__law_whole : C8.scC n__law_whole ["_law_found"] (defScope s__law_whole) = true := by kernel_rfl
theorem ck__law_ones : isB b__law_ones ⟨n__law_ones, (defScope s__law_ones).names, q__law_ones, [], blts, excs, [], false, [], []⟩ (defBody s__law_ones) = true := by kernel_rfl
theorem sc__law_ones : C8.scC n__law_ones ["_law_number"] (defScope s__law_ones) = true := by kernel_rfl
theorem ck_product : isB b_product ⟨n_product, (defScope s_product).names, q_product, [], blts, excs, [], false, [], []⟩ (defBody s_product) = true := by kernel_rfl
theorem sc_product : C8.scC n_product ["one", "other"] (defScope s_product) = true := by kernel_rfl
theorem ck_swept : isB b_swept ⟨n_swept, (defScope s_swept).names, q_swept, [], blts, excs, [], false, [], []⟩ (defBody s_swept) = true := by kernel_rfl
theorem sc_swept : C8.scC n_swept ["kept", "mask", "bit", "used"] (defScope s_swept) = true := by kernel_rfl
theorem ck_answer_of : isB b_answer_of ⟨n_answer_of, (defScope s_answer_of).names, q_answer_of, [], blts, excs, [], false, [], []⟩ (defBody s_answer_of) = true := by kernel_rfl
theorem sc_answer_of : C8.scC n_answer_of ["kept"] (defScope s_answer_of) = true := by kernel_rfl
theorem ck_has_at : isB b_has_at ⟨n_has_at, (defScope s_has_at).names, q_has_at, [], blts, excs, [], false, [], []⟩ (defBody s_has_at) = true := by kernel_rfl
theorem sc_has_at : C8.scC n_has_at ["mark", "place"] (defScope s_has_at) = true := by kernel_rfl
theorem ck_mark_across : isB b_mark_across ⟨n_mark_across, (defScope s_mark_across).names, q_mark_across, ["SIDE"], blts, excs, [], false, [], []⟩ (defBody s_mark_across) = true := by kernel_rfl
theorem sc_mark_across : C8.scC n_mark_across ["places"] (defScope s_mark_across) = true := by kernel_rfl
theorem ck__law_product : isB b__law_product_2 ⟨n__law_product, (defScope s__law_product).names, q__law_product, [], blts, excs, [], false, [], []⟩ (defBody s__law_product) = true := by kernel_rfl
theorem sc__law_product : C8.scC n__law_product ["_law_one", "_law_other"] (defScope s__law_product) = true := by kernel_rfl
theorem ck__law_commute : isB b__law_commute ⟨n__law_commute, (defScope s__law_commute).names, q__law_commute, [], blts, excs, [], false, [], []⟩ (defBody s__law_commute) = true := by kernel_rfl
theorem sc__law_commute : C8.scC n__law_commute ["_law_one", "_law_other"] (defScope s__law_commute) = true := by kernel_rfl
theorem ck__law_even_mark : isB b__law_even_mark ⟨n__law_even_mark, (defScope s__law_even_mark).names, q__law_even_mark, [], blts, excs, [], false, [], []⟩ (defBody s__law_even_mark) = true := by kernel_rfl
theorem sc__law_even_mark : C8.scC n__law_even_mark ["_law_cell", "_law_cells"] (defScope s__law_even_mark) = true := by kernel_rfl
theorem ck_solved : isB b_solved ⟨n_solved, (defScope s_solved).names, q_solved, [], blts, excs, [], false, [], []⟩ (defBody s_solved) = true := by kernel_rfl
theorem sc_solved : C8.scC n_solved ["equations"] (defScope s_solved) = true := by kernel_rfl
theorem ck_equation_at : isB b_equation_at ⟨n_equation_at, (defScope s_equation_at).names, q_equation_at, [], blts, excs, [], false, [], []⟩ (defBody s_equation_at) = true := by kernel_rfl
theorem sc_equation_at : C8.scC n_equation_at ["rows", "mark", "place"] (defScope s_equation_at) = true := by kernel_rfl
theorem ck__law_fits : isB b__law_fits ⟨n__law_fits, (defScope s__law_fits).names, q__law_fits, [], blts, excs, [], false, [], []⟩ (defBody s__law_fits) = true := by kernel_rfl
theorem sc__law_fits : C8.scC n__law_fits ["_law_rows", "_law_known", "_law_mark"] (defScope s__law_fits) = true := by kernel_rfl
theorem ck__law_mark_by : isB b__law_mark_by_3 ⟨n__law_mark_by, (defScope s__law_mark_by).names, q__law_mark_by, [], blts, excs, [], false, [], []⟩ (defBody s__law_mark_by) = true := by kernel_rfl
theorem sc__law_mark_by : C8.scC n__law_mark_by ["_law_rows", "_law_cells", "_law_way", "_law_far"] (defScope s__law_mark_by) = true := by kernel_rfl
theorem ck__law_is_made : isB b__law_is_made ⟨n__law_is_made, (defScope s__law_is_made).names, q__law_is_made, [], blts, excs, [], false, [], []⟩ (defBody s__law_is_made) = true := by kernel_rfl
theorem sc__law_is_made : C8.scC n__law_is_made ["_law_told", "_law_rows", "_law_mark"] (defScope s__law_is_made) = true := by kernel_rfl
theorem ck__law_is_apart : isB b__law_is_apart ⟨n__law_is_apart, (defScope s__law_is_apart).names, q__law_is_apart, [], blts, excs, [], false, [], []⟩ (defBody s__law_is_apart) = true := by kernel_rfl
theorem sc__law_is_apart : C8.scC n__law_is_apart ["_law_told", "_law_rows", "_law_mark", "_law_cells"] (defScope s__law_is_apart) = true := by kernel_rfl
theorem ckt_made_of : isTx x_made_of [] ⟨n_made_of, (defScope s_made_of).names, qt_made_of, ["SIDE"], blts, excs, [], false, [], []⟩ (defBody s_made_of) = true := by kernel_rfl
theorem ck_made_of : isB b_made_of ⟨n_made_of, (defScope s_made_of).names, q_made_of, ["SIDE"], blts, excs, [], false, [], []⟩ (defBody s_made_of) = true := by kernel_rfl
theorem sc_made_of : C8.scC n_made_of ["rows", "mark", "cells"] (defScope s_made_of) = true := by kernel_rfl
theorem ck__law_table : isB b__law_table ⟨n__law_table, (defScope s__law_table).names, q__law_table, [], blts, excs, [], false, [], []⟩ (defBody s__law_table) = true := by kernel_rfl
theorem sc__law_table : C8.scC n__law_table ["_law_drawn", "_law_cells", "_law_most"] (defScope s__law_table) = true := by kernel_rfl
theorem ck_law : isTx x_law [("made_of", 3)] ⟨n_law, (defScope s_law).names, q_law, [], blts, excs, [], false, [], []⟩ (defBody s_law) = true := by kernel_rfl
theorem sc_law : C8.scC n_law ["_law_script"] (defScope s_law) = true := by kernel_rfl
/-! ### the head -/
def gl : List Str := (["ones", "product", "places_of", "top_of", "swept", "answer_of", "solved", "code_of", "has_at", "equation_at", "mark_across", "made_of", "_law_cell_at", "_law_whole", "_law_ones", "_law_product", "_law_commute", "_law_even_mark", "_law_fits", "_law_table", "_law_mark_by", "_law_is_made", "_law_is_apart", "law"] : List Str)
def fn : List He.DefD := [mkD "ones" s_ones [], mkD "product" s_product [], mkD "places_of" s_places_of [], mkD "top_of" s_top_of [], mkD "swept" s_swept [], mkD "answer_of" s_answer_of [], mkD "solved" s_solved [], mkD "code_of" s_code_of [], mkD "has_at" s_has_at [], mkD "equation_at" s_equation_at [], mkD "mark_across" s_mark_across [], mkD "made_of" s_made_of [], mkD "_law_cell_at" s__law_cell_at [], mkD "_law_whole" s__law_whole [], mkD "_law_ones" s__law_ones [], mkD "_law_product" s__law_product [], mkD "_law_commute" s__law_commute [], mkD "_law_even_mark" s__law_even_mark [], mkD "_law_fits" s__law_fits [], mkD "_law_table" s__law_table [], mkD "_law_mark_by" s__law_mark_by [], mkD "_law_is_made" s__law_is_made [], mkD "_law_is_apart" s__law_is_apart [], mkD "law" s_law []]
def fa : List He.Fa := mkFa gl blts cons excs
abbrev R : PySem.W.OpenRow := PySem.W.OpenLaw.row PySem.Challenge.rw_spinboard_k54_made_of
abbrev hk : PySem.W.Hook := He.hookD 4 fa fn
def ob (s : PySem.W.SharedT) : He.AlD := He.obsDG 4 fa fn (HandSHeadRun.getT s)
theorem ob_eq (s : PySem.W.SharedT) : ob s = hk.obs s.abs := He.obsDG_eq (HandSHeadRun.getT_eq s)
def loose : List Str := (["ones", "product", "places_of", "top_of", "swept", "answer_of", "solved", "code_of", "has_at", "equation_at", "mark_across", "made_of", "_law_cell_at", "_law_whole", "_law_ones", "_law_product", "_law_commute", "_law_even_mark", "_law_fits", "_law_table", "_law_mark_by", "_law_is_made", "_law_is_apart", "SIDE"] : List Str)
theorem run (w : World) : HandSHeadRun.RunEq R (PySem.W.view R.prog [28]) hk ob 1360 loose w := by
  intro os
  kernel_rfl
/-! ### each def keeps its promise -/
section
variable {P : Program} {w : World} {K : PySem.W.Frag} {mg : Str → Option Value} {base : Heap}
theorem kn_ones (M : Ms gl blts cons excs tbs fn w K mg) : Kn P w K mg base (clOf K excs) 1 "ones" 1 [] f_ones :=
  M.kn 0 (st := s_ones) (N := n_ones) (ps := ["number"]) (fns := q_ones) (fs := []) (b := b_ones) (cx := []) (cs := []) (tx := []) (ts := []) (fnx := []) (gs := []) (knx := []) (ks := []) rfl (by decide) (fun f fd F => bind0 (F.bindsN fun _ _ _ _ _ _ us hl => match us, hl with | [_], _ => rfl)) sc_ones ck_ones trivial trivial trivial trivial trivial
theorem kn_places_of (M : Ms gl blts cons excs tbs fn w K mg) : Kn P w K mg base (clOf K excs) 1 "places_of" 1 [] f_places_of :=
  M.kn 2 (st := s_places_of) (N := n_places_of) (ps := ["number"]) (fns := q_places_of) (fs := []) (b := b_places_of) (cx := []) (cs := []) (tx := []) (ts := []) (fnx := []) (gs := []) (knx := []) (ks := []) rfl (by decide) (fun f fd F => bind0 (F.bindsN fun _ _ _ _ _ _ us hl => match us, hl with | [_], _ => rfl)) sc_places_of ck_places_of trivial trivial trivial trivial trivial
theorem kn_top_of (M : Ms gl blts cons excs tbs fn w K mg) : Kn P w K mg base (clOf K excs) 1 "top_of" 1 [] f_top_of :=
  M.kn 3 (st := s_top_of) (N := n_top_of) (ps := ["number"]) (fns := q_top_of) (fs := []) (b := b_top_of) (cx := []) (cs := []) (tx := []) (ts := []) (fnx := []) (gs := []) (knx := []) (ks := []) rfl (by decide) (fun f fd F => bind0 (F.bindsN fun _ _ _ _ _ _ us hl => match us, hl with | [_], _ => rfl)) sc_top_of ck_top_of trivial trivial trivial trivial trivial
theorem kn_code_of (M : Ms gl blts cons excs tbs fn w K mg) : Kn P w K mg base (clOf K excs) 1 "code_of" 1 [] f_code_of :=
  M.kn 7 (st := s_code_of) (N := n_code_of) (ps := ["mark"]) (fns := q_code_of) (fs := []) (b := b_code_of) (cx := ["SIDE"]) (cs := [.int 6]) (tx := []) (ts := []) (fnx := []) (gs := []) (knx := []) (ks := []) rfl (by decide) (fun f fd F => bind0 (F.bindsN fun _ _ _ _ _ _ us hl => match us, hl with | [_], _ => rfl)) sc_code_of ck_code_of ⟨M.conAt 0 rfl, trivial⟩ trivial trivial trivial trivial
theorem kn__law_cell_at (M : Ms gl blts cons excs tbs fn w K mg) : Kn P w K mg base (clOf K excs) 1 "_law_cell_at" 2 [] f__law_cell_at :=
  M.kn 12 (st := s__law_cell_at) (N := n__law_cell_at) (ps := ["_law_script", "_law_k"]) (fns := q__law_cell_at) (fs := []) (b := b__law_cell_at) (cx := []) (cs := []) (tx := []) (ts := []) (fnx := []) (gs := []) (knx := []) (ks := []) rfl (by decide) (fun f fd F => bind0 (F.bindsN fun _ _ _ _ _ _ us hl => match us, hl with | [_, _], _ => rfl)) sc__law_cell_at ck__law_cell_at trivial trivial trivial trivial trivial
theorem kn__law_whole (M : Ms gl blts cons excs tbs fn w K mg) : Kn P w K mg base (clOf K excs) 1 "_law_whole" 1 [] f__law_whole :=
  M.kn 13 (st := s__law_whole) (N := n__law_whole) (ps := ["_law_found"]) (fns := q__law_whole) (fs := []) (b := b__law_whole) (cx := []) (cs := []) (tx := []) (ts := []) (fnx := []) (gs := []) (knx := []) (ks := []) rfl (by decide) (fun f fd F => bind0 (F.bindsN fun _ _ _ _ _ _ us hl => match us, hl with | [_], _ => rfl)) sc__law_whole ck__law_whole trivial trivial trivial trivial trivial
theorem kn__law_ones (M : Ms gl blts cons excs tbs fn w K mg) : Kn P w K mg base (clOf K excs) 1 "_law_ones" 1 [] f__law_ones :=
  M.kn 14 (st := s__law_ones) (N := n__law_ones) (ps := ["_law_number"]) (fns := q__law_ones) (fs := []) (b := b__law_ones) (cx := []) (cs := []) (tx := []) (ts := []) (fnx := []) (gs := []) (knx := []) (ks := []) rfl (by decide) (fun f fd F => bind0 (F.bindsN fun _ _ _ _ _ _ us hl => match us, hl with | [_], _ => rfl)) sc__law_ones ck__law_ones trivial trivial trivial trivial trivial
theorem kn_product (M : Ms gl blts cons excs tbs fn w K mg) : Kn P w K mg base (clOf K excs) 2 "product" 2 [] f_product :=
  M.kn 1 (st := s_product) (N := n_product) (ps := ["one", "other"]) (fns := q_product) (fs := [f_ones]) (b := b_product) (cx := []) (cs := []) (tx := []) (ts := []) (fnx := []) (gs := []) (knx := []) (ks := []) rfl (by decide) (fun f fd F => bind0 (F.bindsN fun _ _ _ _ _ _ us hl => match us, hl with | [_, _], _ => rfl)) sc_product ck_product trivial trivial ⟨(kn_ones M).mono (by decide), trivial⟩ trivial trivial
theorem kn_swept (M : Ms gl blts cons excs tbs fn w K mg) : Kn P w K mg base (clOf K excs) 2 "swept" 4 [] f_swept :=
  M.kn 4 (st := s_swept) (N := n_swept) (ps := ["kept", "mask", "bit", "used"]) (fns := q_swept) (fs := [f_top_of]) (b := b_swept) (cx := []) (cs := []) (tx := []) (ts := []) (fnx := []) (gs := []) (knx := []) (ks := []) rfl (by decide) (fun f fd F => bind0 (F.bindsN fun _ _ _ _ _ _ us hl => match us, hl with | [_, _, _, _], _ => rfl)) sc_swept ck_swept trivial trivial ⟨(kn_top_of M).mono (by decide), trivial⟩ trivial trivial
theorem kn_answer_of (M : Ms gl blts cons excs tbs fn w K mg) : Kn P w K mg base (clOf K excs) 2 "answer_of" 1 [] f_answer_of :=
  M.kn 5 (st := s_answer_of) (N := n_answer_of) (ps := ["kept"]) (fns := q_answer_of) (fs := [f_ones, f_top_of]) (b := b_answer_of) (cx := []) (cs := []) (tx := []) (ts := []) (fnx := []) (gs := []) (knx := []) (ks := []) rfl (by decide) (fun f fd F => bind0 (F.bindsN fun _ _ _ _ _ _ us hl => match us, hl with | [_], _ => rfl)) sc_answer_of ck_answer_of trivial trivial ⟨(kn_ones M).mono (by decide), ⟨(kn_top_of M).mono (by decide), trivial⟩⟩ trivial trivial
theorem kn_has_at (M : Ms gl blts cons excs tbs fn w K mg) : Kn P w K mg base (clOf K excs) 2 "has_at" 2 [] f_has_at :=
  M.kn 8 (st := s_has_at) (N := n_has_at) (ps := ["mark", "place"]) (fns := q_has_at) (fs := [f_code_of]) (b := b_has_at) (cx := []) (cs := []) (tx := []) (ts := []) (fnx := []) (gs := []) (knx := []) (ks := []) rfl (by decide) (fun f fd F => bind0 (F.bindsN fun _ _ _ _ _ _ us hl => match us, hl with | [_, _], _ => rfl)) sc_has_at ck_has_at trivial trivial ⟨(kn_code_of M).mono (by decide), trivial⟩ trivial trivial
theorem kn_mark_across (M : Ms gl blts cons excs tbs fn w K mg) : Kn P w K mg base (clOf K excs) 2 "mark_across" 1 [] f_mark_across :=
  M.kn 10 (st := s_mark_across) (N := n_mark_across) (ps := ["places"]) (fns := q_mark_across) (fs := [f_ones]) (b := b_mark_across) (cx := ["SIDE"]) (cs := [.int 6]) (tx := []) (ts := []) (fnx := []) (gs := []) (knx := []) (ks := []) rfl (by decide) (fun f fd F => bind0 (F.bindsN fun _ _ _ _ _ _ us hl => match us, hl with | [_], _ => rfl)) sc_mark_across ck_mark_across ⟨M.conAt 0 rfl, trivial⟩ trivial ⟨(kn_ones M).mono (by decide), trivial⟩ trivial trivial
theorem kn__law_product (M : Ms gl blts cons excs tbs fn w K mg) : Kn P w K mg base (clOf K excs) 2 "_law_product" 2 [] f__law_product :=
  M.kn 15 (st := s__law_product) (N := n__law_product) (ps := ["_law_one", "_law_other"]) (fns := q__law_product) (fs := [f__law_ones]) (b := b__law_product_2) (cx := []) (cs := []) (tx := []) (ts := []) (fnx := []) (gs := []) (knx := []) (ks := []) rfl (by decide) (fun f fd F => bind0 (F.bindsN fun _ _ _ _ _ _ us hl => match us, hl with | [_, _], _ => rfl)) sc__law_product ck__law_product trivial trivial ⟨(kn__law_ones M).mono (by decide), trivial⟩ trivial trivial
theorem kn__law_commute (M : Ms gl blts cons excs tbs fn w K mg) : Kn P w K mg base (clOf K excs) 2 "_law_commute" 2 [] f__law_commute :=
  M.kn 16 (st := s__law_commute) (N := n__law_commute) (ps := ["_law_one", "_law_other"]) (fns := q__law_commute) (fs := [f__law_ones]) (b := b__law_commute) (cx := []) (cs := []) (tx := []) (ts := []) (fnx := []) (gs := []) (knx := []) (ks := []) rfl (by decide) (fun f fd F => bind0 (F.bindsN fun _ _ _ _ _ _ us hl => match us, hl with | [_, _], _ => rfl)) sc__law_commute ck__law_commute trivial trivial ⟨(kn__law_ones M).mono (by decide), trivial⟩ trivial trivial
theorem kn__law_even_mark (M : Ms gl blts cons excs tbs fn w K mg) : Kn P w K mg base (clOf K excs) 2 "_law_even_mark" 2 [] f__law_even_mark :=
  M.kn 17 (st := s__law_even_mark) (N := n__law_even_mark) (ps := ["_law_cell", "_law_cells"]) (fns := q__law_even_mark) (fs := [f__law_ones]) (b := b__law_even_mark) (cx := []) (cs := []) (tx := []) (ts := []) (fnx := []) (gs := []) (knx := []) (ks := []) rfl (by decide) (fun f fd F => bind0 (F.bindsN fun _ _ _ _ _ _ us hl => match us, hl with | [_, _], _ => rfl)) sc__law_even_mark ck__law_even_mark trivial trivial ⟨(kn__law_ones M).mono (by decide), trivial⟩ trivial trivial
theorem kn_solved (M : Ms gl blts cons excs tbs fn w K mg) : Kn P w K mg base (clOf K excs) 3 "solved" 1 [] f_solved :=
  M.kn 6 (st := s_solved) (N := n_solved) (ps := ["equations"]) (fns := q_solved) (fs := [f_answer_of, f_places_of, f_swept]) (b := b_solved) (cx := []) (cs := []) (tx := []) (ts := []) (fnx := []) (gs := []) (knx := []) (ks := []) rfl (by decide) (fun f fd F => bind0 (F.bindsN fun _ _ _ _ _ _ us hl => match us, hl with | [_], _ => rfl)) sc_solved ck_solved trivial trivial ⟨(kn_answer_of M).mono (by decide), ⟨(kn_places_of M).mono (by decide), ⟨(kn_swept M).mono (by decide), trivial⟩⟩⟩ trivial trivial
theorem kn_equation_at (M : Ms gl blts cons excs tbs fn w K mg) : Kn P w K mg base (clOf K excs) 3 "equation_at" 3 [] f_equation_at :=
  M.kn 9 (st := s_equation_at) (N := n_equation_at) (ps := ["rows", "mark", "place"]) (fns := q_equation_at) (fs := [f_has_at]) (b := b_equation_at) (cx := []) (cs := []) (tx := []) (ts := []) (fnx := []) (gs := []) (knx := []) (ks := []) rfl (by decide) (fun f fd F => bind0 (F.bindsN fun _ _ _ _ _ _ us hl => match us, hl with | [_, _, _], _ => rfl)) sc_equation_at ck_equation_at trivial trivial ⟨(kn_has_at M).mono (by decide), trivial⟩ trivial trivial
theorem kn__law_fits (M : Ms gl blts cons excs tbs fn w K mg) : Kn P w K mg base (clOf K excs) 3 "_law_fits" 3 [] f__law_fits :=
  M.kn 18 (st := s__law_fits) (N := n__law_fits) (ps := ["_law_rows", "_law_known", "_law_mark"]) (fns := q__law_fits) (fs := [f__law_commute]) (b := b__law_fits) (cx := []) (cs := []) (tx := []) (ts := []) (fnx := []) (gs := []) (knx := []) (ks := []) rfl (by decide) (fun f fd F => bind0 (F.bindsN fun _ _ _ _ _ _ us hl => match us, hl with | [_, _, _], _ => rfl)) sc__law_fits ck__law_fits trivial trivial ⟨(kn__law_commute M).mono (by decide), trivial⟩ trivial trivial
theorem kn__law_mark_by (M : Ms gl blts cons excs tbs fn w K mg) : Kn P w K mg base (clOf K excs) 3 "_law_mark_by" 4 [] f__law_mark_by :=
  M.kn 20 (st := s__law_mark_by) (N := n__law_mark_by) (ps := ["_law_rows", "_law_cells", "_law_way", "_law_far"]) (fns := q__law_mark_by) (fs := [f__law_product]) (b := b__law_mark_by_3) (cx := []) (cs := []) (tx := []) (ts := []) (fnx := []) (gs := []) (knx := []) (ks := []) rfl (by decide) (fun f fd F => bind0 (F.bindsN fun _ _ _ _ _ _ us hl => match us, hl with | [_, _, _, _], _ => rfl)) sc__law_mark_by ck__law_mark_by trivial trivial ⟨(kn__law_product M).mono (by decide), trivial⟩ trivial trivial
theorem kn__law_is_made (M : Ms gl blts cons excs tbs fn w K mg) : Kn P w K mg base (clOf K excs) 3 "_law_is_made" 3 [] f__law_is_made :=
  M.kn 21 (st := s__law_is_made) (N := n__law_is_made) (ps := ["_law_told", "_law_rows", "_law_mark"]) (fns := q__law_is_made) (fs := [f__law_product, f__law_whole]) (b := b__law_is_made) (cx := []) (cs := []) (tx := []) (ts := []) (fnx := []) (gs := []) (knx := []) (ks := []) rfl (by decide) (fun f fd F => bind0 (F.bindsN fun _ _ _ _ _ _ us hl => match us, hl with | [_, _, _], _ => rfl)) sc__law_is_made ck__law_is_made trivial trivial ⟨(kn__law_product M).mono (by decide), ⟨(kn__law_whole M).mono (by decide), trivial⟩⟩ trivial trivial
theorem kn__law_is_apart (M : Ms gl blts cons excs tbs fn w K mg) : Kn P w K mg base (clOf K excs) 3 "_law_is_apart" 4 [] f__law_is_apart :=
  M.kn 22 (st := s__law_is_apart) (N := n__law_is_apart) (ps := ["_law_told", "_law_rows", "_law_mark", "_law_cells"]) (fns := q__law_is_apart) (fs := [f__law_commute, f__law_ones, f__law_whole]) (b := b__law_is_apart) (cx := []) (cs := []) (tx := []) (ts := []) (fnx := []) (gs := []) (knx := []) (ks := []) rfl (by decide) (fun f fd F => bind0 (F.bindsN fun _ _ _ _ _ _ us hl => match us, hl with | [_, _, _, _], _ => rfl)) sc__law_is_apart ck__law_is_apart trivial trivial ⟨(kn__law_commute M).mono (by decide), ⟨(kn__law_ones M).mono (by decide), ⟨(kn__law_whole M).mono (by decide), trivial⟩⟩⟩ trivial trivial
theorem kt_made_of (M : Ms gl blts cons excs tbs fn w K mg) : FtP P w K mg base (clOf K excs) 4 ("made_of", 3) ft_made_of :=
  M.knT 11 (st := s_made_of) (N := n_made_of) (ps := ["rows", "mark", "cells"]) (fns := qt_made_of) (fs := [f_product, f_places_of, f_mark_across, f_solved, f_equation_at]) (b := x_made_of) (cx := ["SIDE"]) (cs := [.int 6]) (tx := []) (ts := []) (T := []) (ftl := []) rfl (by decide) (fun f fd F => F.bindsN fun _ _ _ _ _ _ us hl => match us, hl with | [_, _, _], _ => rfl) sc_made_of ckt_made_of ⟨M.conAt 0 rfl, trivial⟩ trivial ⟨(kn_product M).mono (by decide), ⟨(kn_places_of M).mono (by decide), ⟨(kn_mark_across M).mono (by decide), ⟨(kn_solved M).mono (by decide), ⟨(kn_equation_at M).mono (by decide), trivial⟩⟩⟩⟩⟩ trivial
theorem kn_made_of (M : Ms gl blts cons excs tbs fn w K mg) : Kn P w K mg base (clOf K excs) 4 "made_of" 3 [] f_made_of :=
  M.kn 11 (st := s_made_of) (N := n_made_of) (ps := ["rows", "mark", "cells"]) (fns := q_made_of) (fs := [f_product, f_places_of, f_mark_across, f_solved, f_equation_at]) (b := b_made_of) (cx := ["SIDE"]) (cs := [.int 6]) (tx := []) (ts := []) (fnx := []) (gs := []) (knx := []) (ks := []) rfl (by decide) (fun f fd F => bind0 (F.bindsN fun _ _ _ _ _ _ us hl => match us, hl with | [_, _, _], _ => rfl)) sc_made_of ck_made_of ⟨M.conAt 0 rfl, trivial⟩ trivial ⟨(kn_product M).mono (by decide), ⟨(kn_places_of M).mono (by decide), ⟨(kn_mark_across M).mono (by decide), ⟨(kn_solved M).mono (by decide), ⟨(kn_equation_at M).mono (by decide), trivial⟩⟩⟩⟩⟩ trivial trivial
theorem kn__law_table (M : Ms gl blts cons excs tbs fn w K mg) : Kn P w K mg base (clOf K excs) 4 "_law_table" 3 [] f__law_table :=
  M.kn 19 (st := s__law_table) (N := n__law_table) (ps := ["_law_drawn", "_law_cells", "_law_most"]) (fns := q__law_table) (fs := [f__law_fits, f__law_even_mark]) (b := b__law_table) (cx := []) (cs := []) (tx := []) (ts := []) (fnx := []) (gs := []) (knx := []) (ks := []) rfl (by decide) (fun f fd F => bind0 (F.bindsN fun _ _ _ _ _ _ us hl => match us, hl with | [_, _, _], _ => rfl)) sc__law_table ck__law_table trivial trivial ⟨(kn__law_fits M).mono (by decide), ⟨(kn__law_even_mark M).mono (by decide), trivial⟩⟩ trivial trivial
end
theorem facts {w : World} {K : PySem.W.Frag} {h : Heap} {mg : Str → Option Value} {f : Addr} (X : K.In h) (G : h.Ns mainGlobals mg) (hfa : mg ("law" : Str) = some (.ref f)) (c : He.SaysD fa fn K) :
    ∃ fd : FuncData, (∀ (s : Shared) (v : Value), BindsTo s fd ⟨[v], []⟩ [("_law_script", v)]) ∧ ∀ (P : Program) (base : Heap), FnOk P w K mg base (L2N.CX P w) 5 f fd ["_law_script"] (spTw K (clOf K excs) f_law 1) := by
  have M : Ms gl blts cons excs tbs fn w K mg := Ms.of X G (by decide) (fun p hp => by cases hp) (cls_none (by decide)) (cls3_none (by decide)) c (fun _ _ => ini_none (by rfl))
  have e := hfa.symm.trans (M.gl "law" (by decide))
  cases e
  obtain ⟨fd, b, k⟩ := M.lawT 23 (st := s_law) (p := "_law_script") (N := n_law) (fns := q_law) (fs := [f__law_is_made, f_made_of, f__law_is_apart, f__law_mark_by, f__law_cell_at, f__law_table]) (b := x_law) (cx := []) (cs := []) (tx := []) (ts := []) (T := [("made_of", 3)]) (ftl := [ft_made_of]) rfl sc_law ck_law trivial trivial (fun _ _ _ _ _ _ us hl => match us, hl with | [_], _ => rfl)
  exact ⟨fd, b, fun P base => k P base 4 (by first | exact .inr (by decide) | exact .inl (by rfl)) ⟨(kn__law_is_made M).mono (by decide), ⟨(kn_made_of M).mono (by decide), ⟨(kn__law_is_apart M).mono (by decide), ⟨(kn__law_mark_by M).mono (by decide), ⟨(kn__law_cell_at M).mono (by decide), ⟨(kn__law_table M).mono (by decide), trivial⟩⟩⟩⟩⟩⟩ ⟨(kt_made_of M).mono (by decide), trivial⟩⟩
end Gk54

/-! PL1: plain laws of the evaluator. -/
namespace PX
open PySem PySem.Spec PyProof.Rows L2

/-! ### outcomes -/
@[simp] theorem bind_ok {A B : Type} {a : A} {f : A → Res B} : (Res.ok a).bind f = f a := id rfl
@[simp] theorem bind_exc {A B : Type} {c : Nat} {f : A → Res B} : (Res.exc c : Res A).bind f = .exc c := id rfl
@[simp] theorem bind_fail {A B : Type} {f : A → Res B} : (Res.fail : Res A).bind f = .fail := id rfl
@[simp] theorem d_val {d : PyData} : (RV.val d).d = d := id rfl
@[simp] theorem d_own {l : List PyData} : (RV.own l).d = .list l := id rfl
@[simp] theorem vof_ok {x : RV} {k : PyData → Rr} : vof (.ok x) k = k x.d := id rfl
@[simp] theorem vof_exc {c : Nat} {k : PyData → Rr} : vof (.exc c) k = .exc c := id rfl
@[simp] theorem vof_fail {k : PyData → Rr} : vof .fail k = .fail := id rfl
@[simp] theorem ofO_some {A : Type} {a : A} : ofO (some a) = .ok a := id rfl
@[simp] theorem ofO_none {A : Type} : ofO (none : Option A) = .fail := id rfl
abbrev vI (i : Int) : Rr := .ok (.val (.int i))
abbrev vB (b : Bool) : Rr := .ok (.val (.bool b))
abbrev vT (l : List PyData) : Rr := .ok (.val (.tuple l))
@[simp] theorem ofO_rint {i : Int} : ofO (rint i) = vI i := id rfl
@[simp] theorem ofO_rbool {b : Bool} : ofO (rbool b) = vB b := id rfl
@[simp] theorem ofO_rv {d : PyData} : ofO (rv d) = .ok (.val d) := id rfl
@[simp] theorem ofO_ite {A : Type} {c : Prop} [Decidable c] {a b : Option A} : ofO (if c then a else b) = if c then ofO a else ofO b := by split <;> rfl
@[simp] theorem asB_bool {b : Bool} : asB (vB b) = .ok b := id rfl
@[simp] theorem asB_exc {c : Nat} : asB (.exc c) = .exc c := id rfl
@[simp] theorem asB_fail : asB .fail = .fail := id rfl
@[simp] theorem asB_ite {c : Prop} [Decidable c] {a b : Rr} : asB (if c then a else b) = if c then asB a else asB b := by split <;> rfl
@[simp] theorem rdV_some {d : PyData} : rdV (some (some d)) = .ok (.val d) := id rfl
@[simp] theorem rdP_val {d : PyData} : rdP (.val d) = some d := id rfl
@[simp] theorem rdP_own {l : List PyData} : rdP (.own l) = none := id rfl
@[simp] theorem rdP_no : rdP .no = none := id rfl
@[simp] theorem rdB_val {d : PyData} : rdB (.val d) = some d := id rfl
@[simp] theorem rdB_own {l : List PyData} : rdB (.own l) = some (.list l) := id rfl
@[simp] theorem rdB_no : rdB .no = none := id rfl
@[simp] theorem rdP_dic {l : Dic} : rdP (.dic l) = none := id rfl
@[simp] theorem rdB_dic {l : Dic} : rdB (.dic l) = some (.dict (encD l)) := id rfl

/-! ### and, or, chains by their truths -/
def andR (a k : Rr) : Rr := vof a fun x => match x with
  | .bool true => k
  | .bool false => vB false
  | _ => .fail
def orR (a k : Rr) : Rr := vof a fun x => match x with
  | .bool true => vB true
  | .bool false => k
  | _ => .fail
@[simp high] theorem andR_bb {a b : Bool} : andR (vB a) (vB b) = vB (a && b) := by cases a <;> rfl
@[simp] theorem andR_b {a : Bool} {k : Rr} : andR (vB a) k = if a = true then k else vB false := by cases a <;> rfl
@[simp high] theorem orR_bb {a b : Bool} : orR (vB a) (vB b) = vB (a || b) := by cases a <;> rfl
@[simp] theorem orR_b {a : Bool} {k : Rr} : orR (vB a) k = if a = true then vB true else k := by cases a <;> rfl
/-! ### expressions -/
section
variable {G : Gd} {r : RE}
@[simp] theorem ev_v {i : Nat} : ev G (.v i) r = rdV r[i]? := by rw [ev]
@[simp] theorem ev_c {d : PyData} : ev G (.c d) r = .ok (.val d) := by rw [ev]
@[simp] theorem ev_bop {o : Bop} {a b : Ex} : ev G (.bop o a b) r = vof (ev G a r) fun x => vof (ev G b r) fun y => ofO (bop o x y) := by rw [ev]
@[simp] theorem ev_neg {a : Ex} : ev G (.neg a) r = vof (ev G a r) fun x => ofO (negD x) := by rw [ev]
@[simp] theorem ev_cmp {o : Cop} {a b : Ex} : ev G (.cmp o a b) r = vof (ev G a r) fun x => vof (ev G b r) fun y => ofO (cop o x y) := by rw [ev]
@[simp] theorem ev_chain {o p : Cop} {a b c : Ex} : ev G (.chain o p a b c) r = vof (ev G a r) fun x => vof (ev G b r) fun y => chainD o p x y fun _ => ev G c r := by rw [ev]
@[simp] theorem ev_band {es : Exs} : ev G (.band es) r = evAnd G es r := by rw [ev]
@[simp] theorem ev_bor {es : Exs} : ev G (.bor es) r = evOr G es r := by rw [ev]
@[simp] theorem evAnd_one {e : Ex} : evAnd G (.cons e .nil) r = ev G e r := by rw [evAnd]
@[simp] theorem evAnd_c2 {e e2 : Ex} {es : Exs} : evAnd G (.cons e (.cons e2 es)) r = andR (ev G e r) (evAnd G (.cons e2 es) r) := by rw [evAnd]; rfl
@[simp] theorem evOr_one {e : Ex} : evOr G (.cons e .nil) r = ev G e r := by rw [evOr]
@[simp] theorem evOr_c2 {e e2 : Ex} {es : Exs} : evOr G (.cons e (.cons e2 es)) r = orR (ev G e r) (evOr G (.cons e2 es) r) := by rw [evOr]; rfl
@[simp] theorem ev_bnot {a : Ex} : ev G (.bnot a) r = vof (ev G a r) fun x => ofO (notD x) := by rw [ev]
@[simp] theorem ev_tup {es : Exs} : ev G (.tup es) r = (evs G es r).bind fun ds => if lineB ds.length = true then vT ds else .fail := by rw [ev]
@[simp] theorem ev_lst {es : Exs} : ev G (.lst es) r = (evs G es r).bind fun ds => if lineB ds.length = true then .ok (.own ds) else .fail := by rw [ev]
@[simp] theorem ev_ix {a b : Ex} : ev G (.ix a b) r = vof (ev G a r) fun x => vof (ev G b r) fun y => ofO (ixD x y) := by rw [ev]
@[simp] theorem ev_sl {a : Ex} {lo hi : Ox} : ev G (.sl a lo hi) r = vof (ev G a r) fun x => (evo G lo r).bind fun l => (evo G hi r).bind fun h => ofO (slD x l h) := by rw [ev]
@[simp] theorem ev_isi {a : Ex} {t : Ty} : ev G (.isi a t) r = vof (ev G a r) fun x => isiD x t := by rw [ev]
theorem isiD_of {x : PyData} {t : Ty} (h : tokD x = false) : isiD x t = vB (isTy x t) := if_neg (by rw [h]; decide)
@[simp] theorem isiD_none {t : Ty} : isiD .none t = vB (isTy .none t) := isiD_of rfl
@[simp] theorem isiD_bool {b : Bool} {t : Ty} : isiD (.bool b) t = vB (isTy (.bool b) t) := isiD_of rfl
@[simp] theorem isiD_int {i : Int} {t : Ty} : isiD (.int i) t = vB (isTy (.int i) t) := isiD_of rfl
@[simp] theorem isiD_str {z : Str} {t : Ty} : isiD (.str z) t = vB (isTy (.str z) t) := isiD_of rfl
@[simp] theorem isiD_list {l : List PyData} {t : Ty} : isiD (.list l) t = vB (isTy (.list l) t) := isiD_of rfl
@[simp] theorem isiD_tuple {l : List PyData} {t : Ty} : isiD (.tuple l) t = vB (isTy (.tuple l) t) := isiD_of rfl
@[simp] theorem isiD_dict0 {t : Ty} : isiD (.dict []) t = vB (isTy (.dict []) t) := isiD_of rfl
@[simp] theorem ev_eis {a : Ex} {cs : List Nat} : ev G (.eis a cs) r = vof (ev G a r) fun x => eisD G.hot cs x := by rw [ev]
@[simp] theorem ev_callh {f : Nat} {es : Exs} : ev G (.callh f es) r = (evs G es r).bind fun ds => callhD G.hot (G.fnh f) ds := by rw [ev]
@[simp] theorem ev_bf {f : Bf} {es : Exs} : ev G (.bf f es) r = (evs G es r).bind fun ds => ofO (bf f ds) := by rw [ev]
@[simp] theorem ev_bits {a : Ex} : ev G (.bits a) r = vof (ev G a r) fun x => ofO (bitsD x) := by rw [ev]
@[simp] theorem ev_call {f : Nat} {es : Exs} {dfl : List PyData} : ev G (.call f es dfl) r = (evs G es r).bind fun ds => G.fn f (ds ++ dfl) := by rw [ev]
@[simp] theorem ev_dict0 : ev G .dict0 r = .ok (.val (.dict [])) := by rw [ev]
@[simp] theorem ev_rep {es : Exs} {k : Ex} : ev G (.rep es k) r = (evs G es r).bind fun ds => if lineB ds.length = true then vof (ev G k r) fun x => ofO (repD ds x) else .fail := by rw [ev]
@[simp] theorem ev_lrng1 {a : Ex} : ev G (.lrng1 a) r = (ev G a r).bind fun x => ofO (lrngD [x.d]) := by rw [ev]
@[simp] theorem ev_dget {a : Ex} {es : Exs} : ev G (.dget a es) r = vof (ev G a r) fun x => dicK x fun kvs => (evs G es r).bind fun ks => ofO (dgetD kvs ks) := by rw [ev]
@[simp] theorem ev_dix {a : Ex} {es : Exs} : ev G (.dix a es) r = vof (ev G a r) fun x => dicK x fun kvs => (evs G es r).bind fun ks => ofO (dixD kvs ks) := by rw [ev]
@[simp] theorem ev_dgv {a k : Ex} : ev G (.dgv a k) r = vof (ev G a r) fun x => dicK x fun kvs => vof (ev G k r) fun y => ofO (dgvD kvs y) := by rw [ev]
@[simp] theorem ev_sl3 {a : Ex} {lo hi st : Int} : ev G (.sl3 a lo hi st) r = vof (ev G a r) fun x => ofO (sl3D lo hi st x) := by rw [ev]
@[simp] theorem ev_sortk {n : Nat} {a : Ex} : ev G (.sortk n a) r = vof (ev G a r) fun x => ofO (sortD (G.kfn n) x) := by rw [ev]
@[simp] theorem ev_lrev {a : Ex} : ev G (.lrev a) r = vof (ev G a r) fun x => ofO (revD x) := by rw [ev]
@[simp] theorem revD_list {l : List PyData} : revD (.list l) = some (.own l.reverse) := id rfl
@[simp] theorem ev_lrng2 {a b : Ex} : ev G (.lrng2 a b) r = (ev G a r).bind fun x => (ev G b r).bind fun y => ofO (lrngD [x.d, y.d]) := by rw [ev]
@[simp] theorem evs_nil : evs G .nil r = .ok [] := by rw [evs]
@[simp] theorem evs_cons {e : Ex} {es : Exs} : evs G (.cons e es) r = (ev G e r).bind fun x => (evs G es r).bind fun l => .ok (x.d :: l) := by rw [evs]
@[simp] theorem evo_no : evo G .no r = .ok none := by rw [evo]
def intO (x : PyData) : Res (Option Int) := match x with
  | .int i => .ok (some i)
  | _ => .fail
@[simp] theorem intO_int {i : Int} : intO (.int i) = .ok (some i) := id rfl
@[simp] theorem evo_yes {e : Ex} : evo G (.yes e) r = (ev G e r).bind fun x => intO x.d := by rw [evo]; rfl
@[simp] theorem evc_no : evc G .no r = .ok true := by rw [evc]
@[simp] theorem evc_yes {e : Ex} : evc G (.yes e) r = asB (ev G e r) := by rw [evc]
@[simp] theorem evi_seq {e : Ex} : evi G (.seq e) r = (ev G e r).bind fun x => ofO (seqD x.d) := by rw [evi]
@[simp] theorem evi_rng1 {a : Ex} : evi G (.rng1 a) r = (ev G a r).bind fun x => ofO (rngD [x.d]) := by rw [evi]
@[simp] theorem evi_rng2 {a b : Ex} : evi G (.rng2 a b) r = (ev G a r).bind fun x => (ev G b r).bind fun y => ofO (rngD [x.d, y.d]) := by rw [evi]
@[simp] theorem evi_rng3 {a b c : Ex} : evi G (.rng3 a b c) r = (ev G a r).bind fun x => (ev G b r).bind fun y => (ev G c r).bind fun z => ofO (rngD [x.d, y.d, z.d]) := by rw [evi]
@[simp] theorem lsD_list {l : List PyData} : lsD (.list l) = some l := id rfl
@[simp] theorem lsD_str {z : Str} : lsD (.str z) = some (signsD z) := id rfl
@[simp] theorem cop_in_sign {c : Nat} {z : Str} : cop .inn (.str ⟨#[c]⟩) (.str z) = rbool (decide (c ∈ z.cps.toList)) := id rfl
@[simp] theorem cop_nin_sign {c : Nat} {z : Str} : cop .nin (.str ⟨#[c]⟩) (.str z) = rbool (!decide (c ∈ z.cps.toList)) := id rfl
@[simp] theorem evi_enum {e : Ex} : evi G (.enum e) r = (ev G e r).bind fun x => (ofO (lsD x.d)).bind fun l => .ok (enumFrom 0 l) := by rw [evi]
@[simp] theorem evi_zip {a b : Ex} : evi G (.zip a b) r = (ev G a r).bind fun x => (ev G b r).bind fun y => (ofO (listD x.d)).bind fun l => (ofO (listD y.d)).bind fun m => .ok (zipD l m) := by rw [evi]
@[simp] theorem evi_zip3 {a b c : Ex} : evi G (.zip3 a b c) r = (ev G a r).bind fun x => (ev G b r).bind fun y => (ev G c r).bind fun z => (ofO (listD x.d)).bind fun l => (ofO (listD y.d)).bind fun m => (ofO (listD z.d)).bind fun n => .ok (zipD3 l m n) := by rw [evi]
@[simp] theorem evi_rev {e : Ex} : evi G (.rev e) r = (ev G e r).bind fun x => (ofO (listD x.d)).bind fun l => .ok l.reverse := by rw [evi]
@[simp] theorem seqD_list {l : List PyData} : seqD (.list l) = some l := id rfl
@[simp] theorem seqD_tuple {l : List PyData} : seqD (.tuple l) = some l := id rfl
@[simp] theorem listD_list {l : List PyData} : listD (.list l) = some l := id rfl
/-- a comprehension's turns, named -/
def stepR (G : Gd) (own : List (Str × Nat)) (elt : Ex) (t : Tg) (cond : Ox) (r : RE) (d : PyData) : Res (Option PyData) := match tgs some t d (wipeD none r (own.map (·.2))) with
  | some r2 => (evc G cond r2).bind fun b => if b = true then (ev G elt r2).bind fun x => .ok (some x.d) else .ok none
  | none => .fail
theorem ev_compR {own : List (Str × Nat)} {elt : Ex} {t : Tg} {it : Itx} {cond : Ox} : ev G (.comp own elt t it cond) r = (evi G it r).bind fun ds => if lineB ds.length = true then ownL (compL (stepR G own elt t cond r) ds) else .fail := by rw [ev]; rfl
end
/-- every turn gives an item -/
theorem compL_map {A : Type} {f : PyData → Res (Option PyData)} {a : A → PyData} {g : A → PyData} : ∀ {l : List A}, (∀ x ∈ l, f (a x) = .ok (some (g x))) → compL f (l.map a) = some (l.map g)
  | [], _ => rfl
  | x :: l, h => by
    rw [List.map_cons, compL, h x List.mem_cons_self, compL_map fun y hy => h y (List.mem_cons_of_mem _ hy)]
    rfl
/-! ### operators on ints -/
@[simp] theorem bop_add {i j : Int} : bop .add (.int i) (.int j) = rint (i + j) := id rfl
@[simp] theorem bop_sub {i j : Int} : bop .sub (.int i) (.int j) = rint (i - j) := id rfl
@[simp] theorem bop_mul {i j : Int} : bop .mul (.int i) (.int j) = if mulOk i j = true then rint (i * j) else none := id rfl
@[simp] theorem bop_fdiv {i j : Int} : bop .fdiv (.int i) (.int j) = if divOk i j = true then rint (i.fdiv j) else none := id rfl
@[simp] theorem bop_mod {i j : Int} : bop .mod (.int i) (.int j) = if j = 0 then none else rint (i.fmod j) := id rfl
@[simp] theorem bop_pow {i j : Int} : bop .pow (.int i) (.int j) = if powOk i j = true then rint (i ^ j.toNat) else none := id rfl
@[simp] theorem bop_shl {i j : Int} : bop .shl (.int i) (.int j) = if shlOk i j = true then rint (i * 2 ^ j.toNat) else none := id rfl
@[simp] theorem bop_shr {i j : Int} : bop .shr (.int i) (.int j) = if 0 ≤ j then rint (i / 2 ^ j.toNat) else none := id rfl
@[simp] theorem bop_band {i j : Int} : bop .band (.int i) (.int j) = rint (Builtin.bitAnd i j) := id rfl
@[simp] theorem bop_bor {i j : Int} : bop .bor (.int i) (.int j) = rint (Builtin.bitOr i j) := id rfl
@[simp] theorem bop_bxor {i j : Int} : bop .bxor (.int i) (.int j) = rint (Builtin.bitXor i j) := id rfl
@[simp] theorem bop_addL {a b : List PyData} : bop .add (.list a) (.list b) = if lineB (a.length + b.length) = true then some (.own (a ++ b)) else none := id rfl
@[simp] theorem bop_addT {a b : List PyData} : bop .add (.tuple a) (.tuple b) = if lineB (a.length + b.length) = true then rv (.tuple (a ++ b)) else none := id rfl
@[simp] theorem cop_lt {i j : Int} : cop .lt (.int i) (.int j) = rbool (decide (i < j)) := id rfl
@[simp] theorem cop_le {i j : Int} : cop .le (.int i) (.int j) = rbool (decide (i ≤ j)) := id rfl
@[simp] theorem cop_gt {i j : Int} : cop .gt (.int i) (.int j) = rbool (decide (j < i)) := id rfl
@[simp] theorem cop_ge {i j : Int} : cop .ge (.int i) (.int j) = rbool (decide (j ≤ i)) := id rfl
theorem cop_eqD {d e : PyData} (h : eqOk d e = true) : cop .eq d e = rbool (PyData.eqv d e) := if_pos h
theorem cop_neD {d e : PyData} (h : eqOk d e = true) : cop .ne d e = rbool (!PyData.eqv d e) := if_pos h
@[simp] theorem negD_int {i : Int} : negD (.int i) = rint (-i) := id rfl
@[simp] theorem notD_bool {b : Bool} : notD (.bool b) = rbool (!b) := id rfl
@[simp] theorem bitsD_int {i : Int} : bitsD (.int i) = rint (Builtin.Int.intBits i : Nat) := id rfl
@[simp] theorem cop_is_none {d : PyData} : cop .is d .none = rbool (isNone d) := by cases d <;> rfl
@[simp] theorem cop_isn_none {d : PyData} : cop .isn d .none = rbool (!isNone d) := by cases d <;> rfl
@[simp] theorem cop_is_bool {a b : Bool} : cop .is (.bool a) (.bool b) = rbool (a == b) := id rfl
@[simp] theorem cop_isn_bool {a b : Bool} : cop .isn (.bool a) (.bool b) = rbool (!(a == b)) := id rfl
@[simp] theorem bf_lenL {l : List PyData} : bf .len [.list l] = rint l.length := id rfl
@[simp] theorem bf_lenT {l : List PyData} : bf .len [.tuple l] = rint l.length := id rfl
@[simp] theorem bf_listL {l : List PyData} : bf .list [.list l] = some (.own l) := id rfl
@[simp] theorem bf_listT {l : List PyData} : bf .list [.tuple l] = some (.own l) := id rfl
@[simp] theorem bf_tupL {l : List PyData} : bf .tuple [.list l] = rv (.tuple l) := id rfl
@[simp] theorem bf_tupT {l : List PyData} : bf .tuple [.tuple l] = rv (.tuple l) := id rfl
@[simp] theorem bf_abs {i : Int} : bf .abs [.int i] = rint (if i < 0 then -i else i) := id rfl
@[simp] theorem bf_max2 {i j : Int} : bf .max2 [.int i, .int j] = rint (if j > i then j else i) := id rfl
@[simp] theorem bf_min2 {i j : Int} : bf .min2 [.int i, .int j] = rint (if j < i then j else i) := id rfl
theorem bools_map {l : List Bool} : bools? (l.map PyData.bool) = some l := by
  induction l with
  | nil => rfl
  | cons i l ih =>
    rw [List.map_cons, bools?, ih]
    rfl
theorem bf_all {l : List Bool} : bf .all [.list (l.map .bool)] = rbool (l.all id) := by
  show (match bools? (l.map PyData.bool) with
    | some bs => rbool (bs.all id)
    | none => none) = _
  rw [bools_map]
/-! ### items -/
theorem atI_nat {A : Type} {xs : List A} {j : Nat} {a : A} (h : xs[j]? = some a) : atI xs (j : Int) = some a := by
  have hj : j < xs.length := (List.getElem?_eq_some_iff.mp h).1
  unfold atI ixN
  rw [if_pos (by omega), if_pos (by omega)]
  simpa using h
theorem ixD_list {l : List PyData} {j : Nat} {a : PyData} (h : l[j]? = some a) : ixD (.list l) (.int (j : Int)) = rv a := by
  show (match atI l (j : Int) with
    | some d => rv d
    | none => none) = _
  rw [atI_nat h]
theorem ixD_tuple {l : List PyData} {j : Nat} {a : PyData} (h : l[j]? = some a) : ixD (.tuple l) (.int (j : Int)) = rv a := by
  show (match atI l (j : Int) with
    | some d => rv d
    | none => none) = _
  rw [atI_nat h]
@[simp] theorem ixD_t0 {a : PyData} {l : List PyData} : ixD (.tuple (a :: l)) (.int 0) = rv a := ixD_tuple (j := 0) rfl
@[simp] theorem ixD_t1 {a b : PyData} {l : List PyData} : ixD (.tuple (a :: b :: l)) (.int 1) = rv b := ixD_tuple (j := 1) rfl
@[simp] theorem ixD_t2 {a b c : PyData} {l : List PyData} : ixD (.tuple (a :: b :: c :: l)) (.int 2) = rv c := ixD_tuple (j := 2) rfl
@[simp] theorem ixD_t3 {a b c d : PyData} {l : List PyData} : ixD (.tuple (a :: b :: c :: d :: l)) (.int 3) = rv d := ixD_tuple (j := 3) rfl
@[simp] theorem ixD_t4 {a b c d e : PyData} {l : List PyData} : ixD (.tuple (a :: b :: c :: d :: e :: l)) (.int 4) = rv e := ixD_tuple (j := 4) rfl
@[simp] theorem ixD_l0 {a : PyData} {l : List PyData} : ixD (.list (a :: l)) (.int 0) = rv a := ixD_list (j := 0) rfl
@[simp] theorem ixD_l1 {a b : PyData} {l : List PyData} : ixD (.list (a :: b :: l)) (.int 1) = rv b := ixD_list (j := 1) rfl
@[simp] theorem ixD_l2 {a b c : PyData} {l : List PyData} : ixD (.list (a :: b :: c :: l)) (.int 2) = rv c := ixD_list (j := 2) rfl
@[simp] theorem ixD_l3 {a b c d : PyData} {l : List PyData} : ixD (.list (a :: b :: c :: d :: l)) (.int 3) = rv d := ixD_list (j := 3) rfl

/-! ### statements -/
def outK (x : Rr) (r : CE) (k : RV → Out) : Out := match x with
  | .ok x => k x
  | .exc c => .exc c r
  | .fail => .fail
@[simp] theorem outK_ok {x : RV} {r : CE} {k : RV → Out} : outK (.ok x) r k = k x := id rfl
@[simp] theorem outK_exc {c : Nat} {r : CE} {k : RV → Out} : outK (.exc c) r k = .exc c r := id rfl
@[simp] theorem outK_fail {r : CE} {k : RV → Out} : outK .fail r k = .fail := id rfl
@[simp] theorem outK_ite {c : Prop} [Decidable c] {a b : Rr} {r : CE} {k : RV → Out} : outK (if c then a else b) r k = if c then outK a r k else outK b r k := by split <;> rfl
def outB (x : Res Bool) (r : CE) (k : Bool → Out) : Out := match x with
  | .ok x => k x
  | .exc c => .exc c r
  | .fail => .fail
@[simp] theorem outB_ok {x : Bool} {r : CE} {k : Bool → Out} : outB (.ok x) r k = k x := id rfl
@[simp] theorem outB_exc {c : Nat} {r : CE} {k : Bool → Out} : outB (.exc c) r k = .exc c r := id rfl
@[simp] theorem outB_fail {r : CE} {k : Bool → Out} : outB .fail r k = .fail := id rfl
@[simp] theorem outB_ite {c : Prop} [Decidable c] {a b : Res Bool} {r : CE} {k : Bool → Out} : outB (if c then a else b) r k = if c then outB a r k else outB b r k := by split <;> rfl
@[simp] theorem evM_p {f : RE → Rr} {r : CE} {k : RV → CE → Out} : evM ⟨[], false⟩ f r k = outK (f (r.map rdP)) r fun x => k x r := by
  unfold evM
  show (match f (r.map rdP) with
    | .ok x => if (false && !x.flat) = true then Out.fail else k x r
    | .exc c => Out.exc c r
    | .fail => Out.fail) = _
  cases f (r.map rdP) <;> rfl
@[simp] theorem evM_b {f : RE → Rr} {r : CE} {k : RV → CE → Out} : evM ⟨[], true⟩ f r k = outK (f (r.map rdB)) r fun x => if x.flat = true then k x r else Out.fail := by
  unfold evM
  show (match f (r.map rdB) with
    | .ok x => if (true && !x.flat) = true then Out.fail else k x r
    | .exc c => Out.exc c r
    | .fail => Out.fail) = _
  cases f (r.map rdB) with
  | ok x =>
    show (if (true && !x.flat) = true then Out.fail else k x r) = if x.flat = true then k x r else Out.fail
    cases x.flat <;> rfl
  | _ => rfl
@[simp] theorem evM_f {f : RE → Rr} {i : Nat} {is : List Nat} {b : Bool} {r : CE} {k : RV → CE → Out} : evM ⟨i :: is, b⟩ f r k = evM ⟨is, b⟩ f (frz1 r i) k := id rfl
@[simp] theorem evT_e {f : RE → Rr} {r : CE} {k : Bool → Out} : evT f r k = outB (asB (f (r.map rdB))) r k := by
  unfold evT evB
  cases asB (f (r.map rdB)) <;> rfl
@[simp] theorem cellOf_val {b : Bool} {d : PyData} : cellOf b (.val d) = .val d := id rfl
@[simp] theorem cellOf_own {l : List PyData} : cellOf true (.own l) = .own l := id rfl
@[simp] theorem cellOf_lst {l : List PyData} : cellOf false (.own l) = .val (.list l) := id rfl
@[simp] theorem seqO_nx {r : CE} {k : CE → Out} : seqO (.nx r) k = k r := id rfl
@[simp] theorem seqO_ret {x : RV} {k : CE → Out} : seqO (.ret x) k = .ret x := id rfl
@[simp] theorem seqO_brk {r : CE} {k : CE → Out} : seqO (.brk r) k = .brk r := id rfl
@[simp] theorem seqO_cnt {r : CE} {k : CE → Out} : seqO (.cnt r) k = .cnt r := id rfl
@[simp] theorem seqO_exc {c : Nat} {r : CE} {k : CE → Out} : seqO (.exc c r) k = .exc c r := id rfl
@[simp] theorem seqO_fail {k : CE → Out} : seqO .fail k = .fail := id rfl
@[simp] theorem seqO_ite {c : Prop} [Decidable c] {a b : Out} {k : CE → Out} : seqO (if c then a else b) k = if c then seqO a k else seqO b k := by split <;> rfl
def tgO (o : Option CE) (k : CE → Out) : Out := match o with
  | some r => k r
  | none => .fail
@[simp] theorem tgO_some {r : CE} {k : CE → Out} : tgO (some r) k = k r := id rfl
@[simp] theorem tgO_none {k : CE → Out} : tgO none k = .fail := id rfl
@[simp] theorem tgs_nm {A : Type} {f : PyData → A} {i : Nat} {d : PyData} {r : List A} : tgs f (.nm i) d r = some (r.set i (f d)) := by cases d <;> rfl
@[simp] theorem tgs_tup {A : Type} {f : PyData → A} {l : List Nat} {ds : List PyData} {r : List A} : tgs f (.tp l) (.tuple ds) r = if l.length = ds.length then some (setAll f l ds r) else none := id rfl
@[simp] theorem tgs_lst {A : Type} {f : PyData → A} {l : List Nat} {ds : List PyData} {r : List A} : tgs f (.tp l) (.list ds) r = if l.length = ds.length then some (setAll f l ds r) else none := id rfl
@[simp] theorem setAll_cons {A B : Type} {f : B → A} {i : Nat} {is : List Nat} {d : B} {ds : List B} {r : List A} : setAll f (i :: is) (d :: ds) r = setAll f is ds (r.set i (f d)) := id rfl
@[simp] theorem setAll_nil {A B : Type} {f : B → A} {ds : List B} {r : List A} : setAll f [] ds r = r := by cases ds <;> rfl
section
variable {G : Gd} {r : CE}
@[simp] theorem sxs_nil : sxs G .nil r = .nx r := by rw [sxs]
@[simp] theorem sxs_cons {s : Sx} {ss : Sxs} : sxs G (.cons s ss) r = seqO (sx G s r) (sxs G ss) := by rw [sxs]
@[simp] theorem sx_asg {i : Nat} {own : Bool} {m : Md} {e : Ex} : sx G (.asg i own m e) r = evM m (ev G e) r fun x r' => .nx (r'.set i (cellOf own x)) := by rw [sx]
@[simp] theorem sx_unp {l : List Nat} {m : Md} {e : Ex} : sx G (.unp l m e) r = evM m (ev G e) r fun x r' => tgO (tgs Cell.val (.tp l) x.d r') .nx := by
  rw [sx]
  congr 1
@[simp] theorem sx_ite {c : Ex} {a b : Sxs} : sx G (.ite c a b) r = evT (ev G c) r fun t => if t = true then sxs G a r else sxs G b r := by rw [sx]
@[simp] theorem sx_ret {m : Md} {e : Ex} : sx G (.ret m e) r = evM m (ev G e) r fun x _ => .ret x := by rw [sx]
def retoK : Option Cell → Out
  | some (.own l) => .ret (.own l)
  | _ => .fail
@[simp] theorem retoK_own {l : List PyData} : retoK (some (.own l)) = .ret (.own l) := id rfl
@[simp] theorem sx_reto {i : Nat} : sx G (.reto i) r = retoK r[i]? := by rw [sx]; rfl
@[simp] theorem sx_retn : sx G .retn r = .ret (.val .none) := by rw [sx]
@[simp] theorem sx_drop {m : Md} {e : Ex} : sx G (.drop m e) r = evM m (ev G e) r fun _ r' => .nx r' := by rw [sx]
@[simp] theorem sx_pass : sx G .pass r = .nx r := by rw [sx]
@[simp] theorem sx_brk : sx G .brk r = .brk r := by rw [sx]
@[simp] theorem sx_cnt : sx G .cnt r = .cnt r := by rw [sx]
@[simp] theorem sx_rais {c : Nat} : sx G (.rais c) r = .exc c r := by rw [sx]
@[simp] theorem sx_whl {c : Ex} {b : Sxs} : sx G (.whl c b) r = whl (evB (ev G c)) (sxs G b) r := by rw [sx]
def outL (x : Res (List PyData)) (r : CE) (k : List PyData → Out) : Out := match x with
  | .ok x => k x
  | .exc c => .exc c r
  | .fail => .fail
@[simp] theorem outL_ok {x : List PyData} {r : CE} {k : List PyData → Out} : outL (.ok x) r k = k x := id rfl
@[simp] theorem outL_exc {c : Nat} {r : CE} {k : List PyData → Out} : outL (.exc c) r k = .exc c r := id rfl
@[simp] theorem outL_fail {r : CE} {k : List PyData → Out} : outL .fail r k = .fail := id rfl
noncomputable def bodyF (G : Gd) (t : Tg) (b : Sxs) (d : PyData) (r : CE) : Out := tgO (tgs Cell.val t d r) (sxs G b)
@[simp] theorem sx_for {t : Tg} {fz : List Nat} {it : Itx} {b : Sxs} : sx G (.for_ t fz it b) r = outL (evi G it ((frz r fz).map rdP)) (frz r fz) fun ds => forL (bodyF G t b) ds (frz r fz) := by
  rw [sx]
  rfl
def augK (o : Bop) (d : PyData) (i : Nat) (r1 : CE) (x : PyData) : Out := match bop o d x with
  | some (.val z) => if tupD z = true then .fail else .nx (r1.set i (.val z))
  | _ => .fail
def augR (G : Gd) (i : Nat) (o : Bop) (e : Ex) (r : CE) : Option Cell → Out
  | some (.val d) => evM ⟨[], true⟩ (ev G e) r fun x r1 => augK o d i r1 x.d
  | _ => .fail
@[simp] theorem augR_val {i : Nat} {o : Bop} {e : Ex} {d : PyData} : augR G i o e r (some (.val d)) = evM ⟨[], true⟩ (ev G e) r fun x r1 => augK o d i r1 x.d := id rfl
theorem augK_int {o : Bop} {d x : PyData} {i : Nat} {z : Int} (h : bop o d x = rint z) : augK o d i r x = .nx (r.set i (.val (.int z))) := by
  unfold augK
  rw [h]
  rfl
@[simp] theorem augK_add {i : Nat} {a b : Int} : augK .add (.int a) i r (.int b) = .nx (r.set i (.val (.int (a + b)))) := augK_int rfl
@[simp] theorem augK_sub {i : Nat} {a b : Int} : augK .sub (.int a) i r (.int b) = .nx (r.set i (.val (.int (a - b)))) := augK_int rfl
@[simp] theorem augK_xor {i : Nat} {a b : Int} : augK .bxor (.int a) i r (.int b) = .nx (r.set i (.val (.int (Builtin.bitXor a b)))) := augK_int rfl
@[simp] theorem augK_or {i : Nat} {a b : Int} : augK .bor (.int a) i r (.int b) = .nx (r.set i (.val (.int (Builtin.bitOr a b)))) := augK_int rfl
@[simp] theorem augK_shr1 {i : Nat} {a : Int} : augK .shr (.int a) i r (.int 1) = .nx (r.set i (.val (.int (a / 2)))) := augK_int rfl
@[simp] theorem sx_aug {i : Nat} {o : Bop} {e : Ex} : sx G (.aug i o e) r = augR G i o e r r[i]? := by
  rw [sx]
  rfl
def appR (G : Gd) (i : Nat) (m : Md) (e : Ex) (r : CE) : Option Cell → Out
  | some (.own l) => evM m (ev G e) r fun d r1 => if l.length < 16777216 then .nx (r1.set i (.own (l ++ [d.d]))) else .fail
  | _ => .fail
@[simp] theorem appR_own {i : Nat} {m : Md} {e : Ex} {l : List PyData} : appR G i m e r (some (.own l)) = evM m (ev G e) r fun d r1 => if l.length < 16777216 then .nx (r1.set i (.own (l ++ [d.d]))) else .fail := id rfl
@[simp] theorem sx_app {i : Nat} {m : Md} {e : Ex} : sx G (.app i m e) r = appR G i m e r (frz r m.fz)[i]? := by
  rw [sx]
  rfl
def setK (i : Nat) (l : List PyData) (d : PyData) (r1 : CE) : PyData → Out
  | .int z => match ixN l.length z with
    | some j => .nx (r1.set i (.own (l.set j d)))
    | none => .fail
  | _ => .fail
def setR (G : Gd) (i : Nat) (x : Ex) (d : PyData) (r1 : CE) : Option Cell → Out
  | some (.own l) => evM ⟨[], true⟩ (ev G x) r1 fun k _ => setK i l d r1 k.d
  | _ => .fail
@[simp] theorem setR_own {i : Nat} {x : Ex} {d : PyData} {l : List PyData} : setR G i x d r (some (.own l)) = evM ⟨[], true⟩ (ev G x) r fun k _ => setK i l d r k.d := id rfl
@[simp] theorem sx_setix {i : Nat} {m : Md} {x e : Ex} : sx G (.setix i m x e) r = evM m (ev G e) r fun d r1 => setR G i x d.d r1 r1[i]? := by
  rw [sx]
  rfl
def ioK (f : List PyData → Rr) (i : Nat) (l : List PyData) (r : CE) : Res (List PyData) → Out
  | .ok ds => ioO (f (.list l :: ds)) fun l' => .nx (r.set i (.own l'))
  | _ => .fail
def ioR (G : Gd) (f i : Nat) (es : Exs) (r : CE) : Option Cell → Out
  | some (.own l) => ioK (G.fn f) i l r (evs G es (r.map rdP))
  | _ => .fail
@[simp] theorem ioR_own {f i : Nat} {es : Exs} {l : List PyData} : ioR G f i es r (some (.own l)) = ioK (G.fn f) i l r (evs G es (r.map rdP)) := id rfl
@[simp] theorem sx_callio {f i : Nat} {es : Exs} : sx G (.callio f i es) r = ioR G f i es r r[i]? := by
  rw [sx]
  generalize r[i]? = o
  cases o with
  | none => rfl
  | some c =>
    cases c with
    | no => rfl
    | val d => rfl
    | dic d => rfl
    | own l =>
      rw [ioR_own]
      cases q : evs G es (r.map rdP) <;> rfl
end
/-- what a def's body leaves -/
def resO : Out → Rr
  | .ret x => .ok x
  | .nx _ => .ok (.val .none)
  | .exc c _ => .exc c
  | _ => .fail
@[simp] theorem resO_ret {x : RV} : resO (.ret x) = .ok x := id rfl
@[simp] theorem resO_nx {r : CE} : resO (.nx r) = .ok (.val .none) := id rfl
@[simp] theorem resO_exc {c : Nat} {r : CE} : resO (.exc c r) = .exc c := id rfl
@[simp] theorem resO_fail : resO .fail = .fail := id rfl
@[simp] theorem resO_ite {c : Prop} [Decidable c] {a b : Out} : resO (if c then a else b) = if c then resO a else resO b := by split <;> rfl
theorem fnD_res {G : Gd} {b : Sxs} {n : Nat} {ds : List PyData} : fnD G b n ds = resO (sxs G b (ds.map Cell.val ++ List.replicate (n - ds.length) Cell.no)) := by
  unfold fnD
  cases sxs G b (ds.map Cell.val ++ List.replicate (n - ds.length) Cell.no) <;> rfl
def resIO : Out → Rr
  | .nx (.own l' :: _) => .ok (.val (.list l'))
  | _ => .fail
/-! ### loops -/
theorem whN_det {c : CE → Res Bool} {b : CE → Out} : ∀ {n m : Nat} {r : CE} {o o' : Out}, whN c b n r = some o → whN c b m r = some o' → o = o'
  | 0, m, r, o, o', h, _ => by rw [whN] at h; cases h
  | n + 1, 0, r, o, o', _, h => by rw [whN] at h; cases h
  | n + 1, m + 1, r, o, o', h1, h2 => by
    rw [whN] at h1 h2
    cases e : c r with
    | exc x => rw [e] at h1 h2; exact Option.some.inj (h1.symm.trans h2)
    | fail => rw [e] at h1 h2; exact Option.some.inj (h1.symm.trans h2)
    | ok t =>
      rw [e] at h1 h2
      cases t with
      | false => exact Option.some.inj (h1.symm.trans h2)
      | true =>
        dsimp only at h1 h2
        cases e2 : b r with
        | nx r' => rw [e2] at h1 h2; exact whN_det h1 h2
        | cnt r' => rw [e2] at h1 h2; exact whN_det h1 h2
        | brk r' => rw [e2] at h1 h2; exact Option.some.inj (h1.symm.trans h2)
        | ret x => rw [e2] at h1 h2; exact Option.some.inj (h1.symm.trans h2)
        | exc x r' => rw [e2] at h1 h2; exact Option.some.inj (h1.symm.trans h2)
        | fail => rw [e2] at h1 h2; exact Option.some.inj (h1.symm.trans h2)
theorem whl_eq {c : CE → Res Bool} {b : CE → Out} {r : CE} {n : Nat} {o : Out} (h : whN c b n r = some o) : whl c b r = o := by
  have hx : ∃ n o, whN c b n r = some o := ⟨n, o, h⟩
  unfold whl
  rw [dif_pos hx]
  exact whN_det hx.choose_spec.choose_spec h
theorem whl_none {c : CE → Res Bool} {b : CE → Out} {r : CE} (h : ∀ n, whN c b n r = none) : whl c b r = .fail := by
  unfold whl
  rw [dif_neg]
  rintro ⟨n, o, e⟩
  rw [h n] at e
  cases e
/-- the loop by one turn -/
noncomputable def whK (c : CE → Res Bool) (b : CE → Out) : Out → Out
  | .nx r => whl c b r
  | .cnt r => whl c b r
  | .brk r => .nx r
  | o => o
theorem whl_step {c : CE → Res Bool} {b : CE → Out} {r : CE} : whl c b r = outB (c r) r fun t => if t = true then whK c b (b r) else .nx r := by
  have same : ∀ r', (∀ n, whN c b (n + 1) r = whN c b n r') → whl c b r = whl c b r' := fun r' h => by
    by_cases hx : ∃ n o, whN c b n r' = some o
    · obtain ⟨n, o, e⟩ := hx
      rw [whl_eq e]
      exact whl_eq (n := n + 1) (by rw [h n]; exact e)
    · have hn : ∀ n, whN c b n r' = none := fun n => by
        cases e : whN c b n r' with
        | none => rfl
        | some o => exact absurd ⟨n, o, e⟩ hx
      rw [whl_none hn]
      refine whl_none fun n => ?_
      cases n with
      | zero => rw [whN]
      | succ n => rw [h n]; exact hn n
  cases e : c r with
  | exc x => exact whl_eq (n := 1) (by rw [whN, e]; rfl)
  | fail => exact whl_eq (n := 1) (by rw [whN, e]; rfl)
  | ok t =>
    cases t with
    | false => exact whl_eq (n := 1) (by rw [whN, e]; rfl)
    | true =>
      show _ = whK c b (b r)
      cases e2 : b r with
      | nx r' => exact same r' fun n => by rw [whN, e]; simp only [e2]
      | cnt r' => exact same r' fun n => by rw [whN, e]; simp only [e2]
      | brk r' => exact whl_eq (n := 1) (by rw [whN, e]; simp only [e2]; rfl)
      | ret x => exact whl_eq (n := 1) (by rw [whN, e]; simp only [e2]; rfl)
      | exc x r' => exact whl_eq (n := 1) (by rw [whN, e]; simp only [e2]; rfl)
      | fail => exact whl_eq (n := 1) (by rw [whN, e]; simp only [e2]; rfl)
/-- what a turn leaves of a for -/
def forK (k : CE → Out) : Out → Out
  | .nx r => k r
  | .cnt r => k r
  | .brk r => .nx r
  | o => o
@[simp] theorem forK_nx {k : CE → Out} {r : CE} : forK k (.nx r) = k r := id rfl
@[simp] theorem forK_cnt {k : CE → Out} {r : CE} : forK k (.cnt r) = k r := id rfl
@[simp] theorem forK_brk {k : CE → Out} {r : CE} : forK k (.brk r) = .nx r := id rfl
@[simp] theorem forK_ret {k : CE → Out} {x : RV} : forK k (.ret x) = .ret x := id rfl
@[simp] theorem forK_exc {k : CE → Out} {c : Nat} {r : CE} : forK k (.exc c r) = .exc c r := id rfl
@[simp] theorem forK_fail {k : CE → Out} : forK k .fail = .fail := id rfl
@[simp] theorem forL_nil {b : PyData → CE → Out} {r : CE} : forL b [] r = .nx r := id rfl
theorem forL_cons {b : PyData → CE → Out} {d : PyData} {ds : List PyData} {r : CE} : forL b (d :: ds) r = forK (forL b ds) (b d r) := by
  rw [forL]
  cases b d r <;> rfl
/-- a for by what stands at each turn -/
theorem forL_ind {b : PyData → CE → Out} {ds : List PyData} {r : CE} (P : Nat → CE → Prop) (Q : Out → Prop) (h0 : P 0 r)
    (hs : ∀ i d r, ds[i]? = some d → P i r → (∃ r', (b d r = .nx r' ∨ b d r = .cnt r') ∧ P (i + 1) r') ∨ (∃ r', b d r = .brk r' ∧ Q (.nx r')) ∨ (∃ x, b d r = .ret x ∧ Q (.ret x)) ∨ (∃ c r', b d r = .exc c r' ∧ Q (.exc c r')))
    (hd : ∀ r, P ds.length r → Q (.nx r)) : Q (forL b ds r) := by
  have go : ∀ (es : List PyData) (i : Nat) (r : CE), ds.drop i = es → i ≤ ds.length → P i r → Q (forL b es r) := fun es => by
    induction es with
    | nil =>
      intro i r e hi h
      have hl : ds.length ≤ i := by
        have := congrArg List.length e
        rw [List.length_drop, List.length_nil] at this
        omega
      have e2 : i = ds.length := by omega
      subst e2
      exact hd r h
    | cons d es ih =>
      intro i r e hi h
      have ed : ds[i]? = some d := by
        have : (ds.drop i)[0]? = some d := by rw [e]; rfl
        rw [List.getElem?_drop] at this
        simpa using this
      have e2 : ds.drop (i + 1) = es := by
        rw [← List.drop_drop, e]
        rfl
      have hi2 : i + 1 ≤ ds.length := (List.getElem?_eq_some_iff.mp ed).1
      rw [forL_cons]
      rcases hs i d r ed h with ⟨r', h1, h2⟩ | ⟨r', h1, h2⟩ | ⟨x, h1, h2⟩ | ⟨c, r', h1, h2⟩
      · rcases h1 with h1 | h1 <;> rw [h1] <;> exact ih (i + 1) r' e2 hi2 h2
      · rw [h1]; exact h2
      · rw [h1]; exact h2
      · rw [h1]; exact h2
  exact go ds 0 r rfl (Nat.zero_le _) h0
/-! ### the defs at hand -/
@[simp] theorem fn_gd0 {f : List PyData → Rr} {fs : List (List PyData → Rr)} {cs : List PyData} {ts : List (List (Str × Int))} {hs : List (Nat × Tk → List PyData → Rr)} {ks : List (List PyData → Rr)} : (gdT (f :: fs) cs ts hs ks).fn 0 = f := id rfl
@[simp] theorem fn_gdS {f : List PyData → Rr} {fs : List (List PyData → Rr)} {cs : List PyData} {ts : List (List (Str × Int))} {hs : List (Nat × Tk → List PyData → Rr)} {ks : List (List PyData → Rr)} {n : Nat} : (gdT (f :: fs) cs ts hs ks).fn (n + 1) = (gdT fs cs ts hs ks).fn n := id rfl
@[simp] theorem con_gd {fs : List (List PyData → Rr)} {cs : List PyData} {ts : List (List (Str × Int))} {hs : List (Nat × Tk → List PyData → Rr)} {ks : List (List PyData → Rr)} {n : Nat} : (gdT fs cs ts hs ks).con n = cs[n]? := id rfl
@[simp] theorem tab_gd {fs : List (List PyData → Rr)} {cs : List PyData} {ts : List (List (Str × Int))} {hs : List (Nat × Tk → List PyData → Rr)} {ks : List (List PyData → Rr)} {n : Nat} : (gdT fs cs ts hs ks).tab n = ts[n]? := id rfl
@[simp] theorem fnh_gd0 {fs : List (List PyData → Rr)} {cs : List PyData} {ts : List (List (Str × Int))} {h : Nat × Tk → List PyData → Rr} {hs : List (Nat × Tk → List PyData → Rr)} {ks : List (List PyData → Rr)} : (gdT fs cs ts (h :: hs) ks).fnh 0 = h := id rfl
@[simp] theorem fnh_gdS {fs : List (List PyData → Rr)} {cs : List PyData} {ts : List (List (Str × Int))} {h : Nat × Tk → List PyData → Rr} {hs : List (Nat × Tk → List PyData → Rr)} {ks : List (List PyData → Rr)} {n : Nat} : (gdT fs cs ts (h :: hs) ks).fnh (n + 1) = (gdT fs cs ts hs ks).fnh n := id rfl
@[simp] theorem seth_fn {G : Gd} {c : Nat} {a : Tk} : (G.seth c a).fn = G.fn := id rfl
@[simp] theorem seth_con {G : Gd} {c : Nat} {a : Tk} : (G.seth c a).con = G.con := id rfl
@[simp] theorem seth_tab {G : Gd} {c : Nat} {a : Tk} : (G.seth c a).tab = G.tab := id rfl
@[simp] theorem seth_fnh {G : Gd} {c : Nat} {a : Tk} : (G.seth c a).fnh = G.fnh := id rfl
@[simp] theorem seth_hot {G : Gd} {c : Nat} {a : Tk} : (G.seth c a).hot = some (c, a) := id rfl
@[simp] theorem eisD_tok {c : Nat} {a : Tk} {cs : List Nat} : eisD (some (c, a)) cs (tok c a) = vB (catches c cs) := by
  show plcT c a (fun _ => .ok (.val (.bool (catches c cs)))) (tok c a) = _
  unfold tok
  by_cases h : c < 16
  · rw [if_pos h]
    exact if_pos ⟨h, rfl⟩
  · rw [if_neg h]
    exact if_pos ⟨⟨by omega, rfl⟩, rfl⟩
theorem plcD_tok {c : Nat} {a : Tk} (h : 16 ≤ c) : plcD (some (c, a)) (tok c a) = vI ((c / 16 - 1 : Nat) : Int) := by
  show plcT c a plcG (tok c a) = _
  unfold tok
  rw [if_neg (by omega)]
  exact if_pos ⟨⟨h, rfl⟩, rfl⟩
@[simp] theorem plcD_at {k p : Nat} {a : Tk} : plcD (some (k + 16 * (p + 1), a)) (tok (k + 16 * (p + 1)) a) = vI (((k + 16 * (p + 1)) / 16 - 1 : Nat) : Int) := plcD_tok (by omega)
@[simp] theorem ev_plc {G : Gd} {r : RE} {a : Ex} : ev G (.plc a) r = vof (ev G a r) fun x => plcD G.hot x := by rw [ev]
theorem catches_pl {k p : Nat} {cs : List Nat} (h : k < 16) : catches (k + 16 * (p + 1)) cs = catches k cs := by
  unfold catches
  rw [show (k + 16 * (p + 1)) % 16 = k % 16 by omega]
@[simp] theorem raisO_nat {c p : Nat} {r : CE} : raisO c (.val (.int (p : Int))) r = .exc (c + 16 * (p + 1)) r := by
  show (if 0 ≤ (p : Int) then Out.exc (c + 16 * ((p : Int).toNat + 1)) r else .fail) = _
  rw [if_pos (by omega)]
  rfl
@[simp] theorem sx_raisp {G : Gd} {c : Nat} {e : Ex} {r : CE} : sx G (.raisp c e) r = evM ⟨[], false⟩ (ev G e) r fun x r1 => raisO c x r1 := by rw [sx]
@[simp] theorem callhD_ok {p : Nat × Tk} {f : Nat × Tk → List PyData → Rr} {ds : List PyData} {x : RV} (h : f p ds = .ok x) : callhD (some p) f ds = .ok x := by
  unfold callhD
  simp only [h]
@[simp] theorem sx_try {G : Gd} {i : Option Nat} {cs al : List Nat} {b s e : Sxs} {r : CE} : sx G (.try_ i cs al b s e) r = tryO (sxs G b r) i cs al (fun c a r' => sxs (G.seth c a) s r') (sxs G e) := by rw [sx]
@[simp] theorem allA_const {o : Out} : allA (fun _ => o) = o := by
  have h : ∃ o', ∀ a : Tk, (fun _ => o) a = o' := ⟨o, fun _ => rfl⟩
  unfold allA
  rw [dif_pos h]
  exact (h.choose_spec (0, 0)).symm
theorem allA_eq {f : Tk → Out} {o : Out} (h : ∀ a, f a = o) : allA f = o := by
  rw [funext h]
  exact allA_const
@[simp] theorem tryO_nx {r : CE} {i : Option Nat} {cs al : List Nat} {s : Nat → Tk → CE → Out} {e : CE → Out} : tryO (.nx r) i cs al s e = e r := id rfl
@[simp] theorem tryO_ret {x : RV} {i : Option Nat} {cs al : List Nat} {s : Nat → Tk → CE → Out} {e : CE → Out} : tryO (.ret x) i cs al s e = .ret x := id rfl
@[simp] theorem ev_tget {G : Gd} {r : RE} {n : Nat} {a : Ex} {d : Int} : ev G (.tget n a d) r = vof (ev G a r) fun x => tgetD (G.tab n) d x := by rw [ev]
@[simp] theorem tgetD_str {t : List (Str × Int)} {d : Int} {z : Str} : tgetD (some t) d (.str z) = vI ((t.lookup z).getD d) := id rfl
@[simp] theorem strK_str {z : Str} {k : Str → Rr} : strK (.str z) k = k z := id rfl
@[simp] theorem ev_sfind {G : Gd} {r : RE} {a b : Ex} : ev G (.sfind a b) r = vof (ev G a r) fun x => strK x fun z => vof (ev G b r) fun y => strK y fun t => .ok (.val (.int (Txt.find z t))) := by rw [ev]
@[simp] theorem ev_sstart {G : Gd} {r : RE} {a b : Ex} : ev G (.sstart a b) r = vof (ev G a r) fun x => strK x fun z => vof (ev G b r) fun y => strK y fun t => .ok (.val (.bool (Txt.startswith z t))) := by rw [ev]
@[simp] theorem ev_join {G : Gd} {r : RE} {a b : Ex} : ev G (.join a b) r = vof (ev G a r) fun x => strK x fun z => vof (ev G b r) fun y => ofO (joinD z y) := by rw [ev]
@[simp] theorem noX_ok {x : RV} : noX (.ok x) = .ok x := id rfl
@[simp] theorem ev_callk {G : Gd} {r : RE} {f : Nat} {es : Exs} {mid : List PyData} {e : Ex} : ev G (.callk f es mid e) r = (evs G es r).bind fun ds => vof (ev G e r) fun x => noX (G.kfn f (ds ++ (mid ++ [x]))) := by rw [ev]
@[simp] theorem kfn_gd0 {fs : List (List PyData → Rr)} {cs : List PyData} {ts : List (List (Str × Int))} {hs : List (Nat × Tk → List PyData → Rr)} {f : List PyData → Rr} {ks : List (List PyData → Rr)} : (gdT fs cs ts hs (f :: ks)).kfn 0 = f := id rfl
@[simp] theorem kfn_gdS {fs : List (List PyData → Rr)} {cs : List PyData} {ts : List (List (Str × Int))} {hs : List (Nat × Tk → List PyData → Rr)} {f : List PyData → Rr} {ks : List (List PyData → Rr)} {n : Nat} : (gdT fs cs ts hs (f :: ks)).kfn (n + 1) = (gdT fs cs ts hs ks).kfn n := id rfl
@[simp] theorem bf_str1 {i : Int} : bf .str1 [.int i] = if decide (i.natAbs.log2 < 1920) = true then rv (.str (toString i)) else none := id rfl
@[simp] theorem bf_strS {z : Str} : bf .str1 [.str z] = rv (.str z) := id rfl
@[simp] theorem two_t {a b : PyData} {k : PyData → PyData → Out} : two (.tuple [a, b]) k = k a b := id rfl
/-! ### dicts with tuple keys -/
theorem keyD1_kDP : ∀ k : L2.Key, keyD1 (kD k) = some k
  | .inl _ => rfl
  | .inr _ => rfl
theorem keysD_mapP : ∀ k : List L2.Key, keysD (k.map kD) = some k
  | [] => rfl
  | a :: k => by rw [List.map_cons, keysD, keyD1_kDP, keysD_mapP k]
theorem decD_encP : ∀ kvs : Dic, decD (encD kvs) = some kvs
  | [] => rfl
  | p :: kvs => by
    have e : encD (p :: kvs) = (ksD p.1, p.2) :: encD kvs := rfl
    have q : keyD (ksD p.1) = some p.1 := keysD_mapP p.1
    rw [e, decD, q, decD_encP kvs]
def dnewK (i : Nat) (r : CE) (ds : List PyData) : Rr → Out
  | .ok x => (match keysD ds with
    | some k => if scalD x.d = true ∧ lineB ds.length = true then .nx (r.set i (.dic [(k, x.d)])) else .fail
    | none => .fail)
  | _ => .fail
def dnewR (i : Nat) (r : CE) (x : Rr) : Res (List PyData) → Out
  | .ok ds => dnewK i r ds x
  | _ => .fail
@[simp] theorem sx_dnew {G : Gd} {i : Nat} {ks : Exs} {e : Ex} {r : CE} : sx G (.dnew i ks e) r = dnewR i r (ev G e (r.map rdP)) (evs G ks (r.map rdP)) := by
  rw [sx]
  cases evs G ks (r.map rdP) with
  | ok ds => cases ev G e (r.map rdP) <;> rfl
  | exc c => rfl
  | fail => rfl
@[simp] theorem dnewR_int2 {i : Nat} {r : CE} {a b : Int} {d : Bool} : dnewR i r (.ok (.val (.bool d))) (.ok [.int a, .int b]) = .nx (r.set i (.dic [([.inl a, .inl b], .bool d)])) := if_pos (e := Out.fail) (c := scalD (.bool d) = true ∧ lineB 2 = true) ⟨rfl, by decide⟩
@[simp] theorem dnewR_int2i {i : Nat} {r : CE} {a b d : Int} : dnewR i r (.ok (.val (.int d))) (.ok [.int a, .int b]) = .nx (r.set i (.dic [([.inl a, .inl b], .int d)])) := if_pos (e := Out.fail) (c := scalD (.int d) = true ∧ lineB 2 = true) ⟨rfl, by decide⟩
def dputE (i : Nat) (kvs : Dic) (d : PyData) (r1 : CE) : Res (List PyData) → Out
  | .ok ds => (match keysD ds with
    | some k => if scalD d = true ∧ kvs.length < 16777216 ∧ lineB ds.length = true then .nx (r1.set i (.dic (dPut kvs k d))) else .fail
    | none => .fail)
  | .exc c => .exc c r1
  | .fail => .fail
def dputR (G : Gd) (i : Nat) (es : Exs) (d : PyData) (r1 : CE) : Option Cell → Out
  | some (.dic kvs) => dputE i kvs d r1 (evs G es (r1.map rdB))
  | _ => .fail
@[simp] theorem dputR_dic {G : Gd} {i : Nat} {es : Exs} {d : PyData} {r1 : CE} {kvs : Dic} : dputR G i es d r1 (some (.dic kvs)) = dputE i kvs d r1 (evs G es (r1.map rdB)) := id rfl
@[simp] theorem sx_dput {G : Gd} {i : Nat} {m : Md} {es : Exs} {e : Ex} {r : CE} : sx G (.dput i m es e) r = evM m (ev G e) r fun x r1 => dputR G i es x.d r1 r1[i]? := by
  rw [sx]
  rfl
theorem dputE_int2 {i : Nat} {kvs : Dic} {d : PyData} {r1 : CE} {a b : Int} (hd : scalD d = true) (hl : kvs.length < 16777216) : dputE i kvs d r1 (.ok [.int a, .int b]) = .nx (r1.set i (.dic (dPut kvs [.inl a, .inl b] d))) := if_pos (e := Out.fail) (c := scalD d = true ∧ kvs.length < 16777216 ∧ lineB 2 = true) ⟨hd, hl, by decide⟩
noncomputable def forbK (G : Gd) (t : Tg) (b : Sxs) (r1 : CE) : RV → Out
  | .own ds => forL (bodyF G t b) ds r1
  | .val _ => .fail
@[simp] theorem forbK_own {G : Gd} {t : Tg} {b : Sxs} {r1 : CE} {ds : List PyData} : forbK G t b r1 (.own ds) = forL (bodyF G t b) ds r1 := id rfl
@[simp] theorem sx_forb {G : Gd} {t : Tg} {e : Ex} {b : Sxs} {r : CE} : sx G (.forb t e b) r = evM ⟨[], true⟩ (ev G e) r fun x r1 => forbK G t b r1 x := by
  rw [sx]
  rfl
theorem cop_nin_dict {kvs : Dic} (ne : kvs ≠ []) {a b : Int} : cop .nin (.tuple [.int a, .int b]) (.dict (encD kvs)) = rbool (!dHas kvs [.inl a, .inl b]) := by
  have e : inD (.tuple [.int a, .int b]) (encD kvs) = some (dHas kvs [.inl a, .inl b]) := by
    unfold inD
    rw [decD_encP, show keyD (.tuple [.int a, .int b]) = some [.inl a, .inl b] from rfl]
    exact if_neg (by simpa using ne)
  show (inD (.tuple [.int a, .int b]) (encD kvs)).bind _ = _
  rw [e]
  rfl
theorem bf_list_dict {kvs : Dic} (ne : kvs ≠ []) : bf .list [.dict (encD kvs)] = some (.own (kvs.map fun q : List L2.Key × PyData => ksD q.1)) := by
  show (match decD (encD kvs) with
    | some (p :: r) => some (RV.own ((p :: r).map fun q : List L2.Key × PyData => ksD q.1))
    | _ => none) = _
  rw [decD_encP]
  cases kvs with
  | nil => exact absurd rfl ne
  | cons p r => rfl
@[simp] theorem sx_popx {G : Gd} {i j : Nat} {e : Ex} {r : CE} : sx G (.popx i j e) r = match r[i]? with
    | some (.own l) => evM ⟨[], true⟩ (ev G e) r fun k r1 => popO l i j k.d r1
    | _ => .fail := by rw [sx] <;> rfl
@[simp] theorem sx_swp {G : Gd} {i : Nat} {m : Md} {x y : Ex} {es : Exs} {r : CE} : sx G (.swp i m x y es) r = evM m (ev G (.tup es)) r fun t r1 => two t.d fun d1 d2 => pokeO i (ev G x) d1 r1 fun r2 => pokeO i (ev G y) d2 r2 .nx := by rw [sx]
@[simp] theorem ev_nset {G : Gd} {r : RE} {a : Ex} : ev G (.nset a) r = vof (ev G a r) fun x => ofO (nsetD x) := by rw [ev]
@[simp] theorem ev_g {G : Gd} {r : RE} {n : Nat} : ev G (.g n) r = (match G.con n with
    | some d => .ok (.val d)
    | none => .fail) := by
  rw [ev]
  all_goals (cases G.con n <;> rfl)
@[simp] theorem frz_nil {r : CE} : frz r [] = r := id rfl
@[simp] theorem frz_cons {r : CE} {i : Nat} {is : List Nat} : frz r (i :: is) = frz (frz1 r i) is := id rfl
theorem small62_of {i : Int} (h1 : -4611686018427387904 ≤ i) (h2 : i < 4611686018427387904) : small62 i = true := by
  unfold small62
  rw [decide_eq_true h1, decide_eq_true h2]
  rfl
theorem rngD1 {j : Int} (h : small62 j = true) : rngD [.int j] = some (rngs 0 1 j.toNat) := if_pos h
theorem rngs_length {lo c : Int} {n : Nat} : (rngs lo c n).length = n := by
  unfold rngs
  rw [List.length_map, List.length_range]
theorem rngs_at {lo c : Int} {n i : Nat} {d : PyData} (h : (rngs lo c n)[i]? = some d) : i < n ∧ d = .int (lo + i * c) := by
  unfold rngs at h
  by_cases hi : i < n
  · rw [List.getElem?_map, List.getElem?_range hi] at h
    exact ⟨hi, (Option.some.inj h).symm⟩
  · rw [List.getElem?_eq_none (by rw [List.length_map, List.length_range]; omega)] at h
    cases h
/-! ### sorted by a key -/
end PX

/-! PL2: ints, bits, tuples of ints, the defs that many laws share. -/
namespace PX
open PySem PySem.Spec PyProof.Rows L2

/-! ### bits of naturals -/
@[simp] theorem and_nat (a b : Nat) : Builtin.bitAnd (a : Int) (b : Int) = ((a &&& b : Nat) : Int) := by
  rw [bitAnd_pp (by omega) (by omega)]
  simp
@[simp] theorem xor_nat (a b : Nat) : Builtin.bitXor (a : Int) (b : Int) = ((a ^^^ b : Nat) : Int) := by
  rw [Bits.bitXor_pp (by omega) (by omega)]
  simp
@[simp] theorem or_nat (a b : Nat) : Builtin.bitOr (a : Int) (b : Int) = ((a ||| b : Nat) : Int) := by
  rw [Bits.bitOr_pp (by omega) (by omega)]
  simp
@[simp] theorem natCast_neg (n : Nat) : ((n : Int) < 0) = False := by
  simp only [eq_iff_iff, iff_false]
  omega
@[simp] theorem cast_eq (a b : Nat) : ((a : Int) = (b : Int)) = (a = b) := propext (by omega)
@[simp] theorem and_one (a : Int) : Builtin.bitAnd a 1 = a % 2 := bitAnd_m1 a
/-- ones among the bits -/
def popF (n : Nat) : Nat := if h : n = 0 then 0 else n % 2 + popF (n / 2)
decreasing_by omega
theorem pop_ex : ∃ p : Nat → Nat, p 0 = 0 ∧ ∀ n, n ≠ 0 → p n = n % 2 + p (n / 2) := ⟨popF, by unfold popF; rfl, fun n h => by rw [popF, dif_neg h]⟩
/-- .. as a thing that nobody unfolds -/
noncomputable def pop : Nat → Nat := pop_ex.choose
theorem pop_zero : pop 0 = 0 := pop_ex.choose_spec.1
theorem pop_eq {n : Nat} (h : n ≠ 0) : pop n = n % 2 + pop (n / 2) := pop_ex.choose_spec.2 n h
theorem pop_div (n : Nat) : pop n = n % 2 + pop (n / 2) := by
  by_cases h : n = 0
  · subst h
    simp [pop_zero]
  · exact pop_eq h
theorem pop_xor (a b : Nat) : pop (a ^^^ b) % 2 = (pop a + pop b) % 2 := by
  induction a using Nat.strongRecOn generalizing b with
  | ind a ih =>
    by_cases ha : a = 0
    · subst ha
      rw [Nat.zero_xor, pop_zero, Nat.zero_add]
    · rw [pop_div (a ^^^ b), pop_div a, pop_div b, Nat.xor_div_two]
      have := ih (a / 2) (by omega) (b / 2)
      have o := @Nat.xor_mod_two_eq_one a b
      omega
/-! ### conditions -/
theorem lineB_le {n : Nat} (h : n ≤ 16777216) : lineB n = true := decide_eq_true h
theorem mulOk_r {i j : Int} (h : j.natAbs < 18446744073709551616) : mulOk i j = true := by
  unfold mulOk
  rw [decide_eq_true h]
  simp
theorem mulOk_l {i j : Int} (h : i.natAbs < 18446744073709551616) : mulOk i j = true := by
  unfold mulOk
  rw [decide_eq_true h]
  simp
theorem log2_lt {n k : Nat} (h : n < 2 ^ k) (hk : 0 < k) : n.log2 < k := by
  by_cases hn : n = 0
  · subst hn
    simpa using hk
  · exact (Nat.log2_lt hn).mpr h
theorem divOk_lt {i j : Int} {k : Nat} (h0 : j ≠ 0) (h : j.natAbs < 2 ^ k) (hk : 0 < k) (h2 : k ≤ 9000) : divOk i j = true := by
  unfold divOk
  have := log2_lt h hk
  rw [decide_eq_true h0, decide_eq_true (show j.natAbs.log2 < 9000 by omega)]
  rfl
theorem divOk_s {i j : Int} (h0 : j ≠ 0) (h : j.natAbs < 18446744073709551616) : divOk i j = true := divOk_lt (k := 64) h0 h (by decide) (by decide)
theorem natAbs_two_pow (k : Nat) : ((2 : Int) ^ k).natAbs = 2 ^ k := by
  rw [Int.natAbs_pow]
  rfl
theorem two_pow_pos (k : Nat) : 0 < (2 : Int) ^ k := Int.pow_pos (by decide)
theorem divOk_p {i : Int} {k : Nat} (h : k < 9000) : divOk i ((2 : Int) ^ k) = true := divOk_lt (k := k + 1) (by have := two_pow_pos k; omega) (by rw [natAbs_two_pow]; exact Nat.pow_lt_pow_right (by decide) (Nat.lt_succ_self k)) (Nat.succ_pos k) h
theorem shlOk_1 {k : Nat} (h : k ≤ 1000000) : shlOk 1 (k : Int) = true := by
  have e : Builtin.Int.intBits 1 = 1 := by decide
  unfold shlOk
  rw [e, decide_eq_true (show (0 : Int) ≤ k by omega), decide_eq_true (show ((1 : Nat) : Int) + (k : Int) ≤ 134217728 by omega)]
  rfl
@[simp] theorem fdiv_pos {a b : Int} (h : 0 ≤ b) : a.fdiv b = a / b := Int.fdiv_eq_ediv_of_nonneg a h
@[simp] theorem fmod_pos {a b : Int} (h : 0 ≤ b) : a.fmod b = a % b := Int.fmod_eq_emod_of_nonneg a h
/-! ### what ints and tuples of ints are -/
@[simp] theorem isTy_ii {i : Int} : isTy (.int i) .int = true := id rfl
@[simp] theorem isTy_ib {i : Int} : isTy (.int i) .bool = false := id rfl
@[simp] theorem isTy_it {i : Int} : isTy (.int i) .tuple = false := id rfl
@[simp] theorem isTy_il {i : Int} : isTy (.int i) .list = false := id rfl
@[simp] theorem isTy_bb {b : Bool} : isTy (.bool b) .bool = true := id rfl
@[simp] theorem isTy_bi {b : Bool} : isTy (.bool b) .int = true := id rfl
@[simp] theorem isTy_tt {l : List PyData} : isTy (.tuple l) .tuple = true := id rfl
@[simp] theorem isTy_tl {l : List PyData} : isTy (.tuple l) .list = false := id rfl
@[simp] theorem isTy_ti {l : List PyData} : isTy (.tuple l) .int = false := id rfl
@[simp] theorem isTy_tb {l : List PyData} : isTy (.tuple l) .bool = false := id rfl
@[simp] theorem isTy_ll {l : List PyData} : isTy (.list l) .list = true := id rfl
@[simp] theorem isTy_lt {l : List PyData} : isTy (.list l) .tuple = false := id rfl
@[simp] theorem flat_int {i : Int} : (RV.val (.int i)).flat = true := id rfl
@[simp] theorem flat_bool {i : Bool} : (RV.val (.bool i)).flat = true := id rfl
@[simp] theorem flat_none : (RV.val .none).flat = true := id rfl
@[simp] theorem isNone_int {i : Int} : isNone (.int i) = false := id rfl
@[simp] theorem isNone_tup {l : List PyData} : isNone (.tuple l) = false := id rfl
@[simp] theorem isNone_lst {l : List PyData} : isNone (.list l) = false := id rfl
@[simp] theorem isNone_bool {b : Bool} : isNone (.bool b) = false := id rfl
@[simp] theorem isNone_none : isNone .none = true := id rfl
theorem plain_ints {l : List Int} : PyData.plainAll (l.map .int) = true := by
  induction l with
  | nil => rfl
  | cons i l ih => rw [List.map_cons, PyData.plainAll, ih]; rfl
theorem depth_ints {l : List Int} : PyData.depthAll (l.map .int) = 0 := by
  induction l with
  | nil => rfl
  | cons i l ih => rw [List.map_cons, PyData.depthAll, ih]; rfl
theorem eqvAll_ints : ∀ {l m : List Int}, PyData.eqvAll (l.map .int) (m.map .int) = decide (l = m)
  | [], [] => rfl
  | [], _ :: _ => rfl
  | _ :: _, [] => rfl
  | i :: l, j :: m => by
    rw [List.map_cons, List.map_cons, PyData.eqvAll, eqvAll_ints]
    have e : PyData.eqv (.int i) (.int j) = decide (i = j) := by
      rw [PyData.eqv]
      rfl
    rw [e]
    simp only [List.cons.injEq, Bool.decide_and]
@[simp] theorem cop_eq_int {i j : Int} : cop .eq (.int i) (.int j) = rbool (decide (i = j)) := id rfl
@[simp] theorem cop_ne_int {i j : Int} : cop .ne (.int i) (.int j) = rbool (!decide (i = j)) := id rfl
@[simp] theorem cop_eq_bool {i j : Bool} : cop .eq (.bool i) (.bool j) = rbool (i == j) := id rfl
@[simp] theorem cop_ne_bool {i j : Bool} : cop .ne (.bool i) (.bool j) = rbool (!(i == j)) := id rfl
theorem eqOk_it {l m : List Int} : eqOk (.tuple (l.map .int)) (.tuple (m.map .int)) = true := by
  unfold eqOk
  rw [PyData.plain, PyData.plain, plain_ints, plain_ints, PyData.depth, depth_ints]
  rfl
theorem cop_eq_it {l m : List Int} : cop .eq (.tuple (l.map .int)) (.tuple (m.map .int)) = rbool (decide (l = m)) := by
  rw [cop_eqD eqOk_it, PyData.eqv, eqvAll_ints]
theorem cop_ne_it {l m : List Int} : cop .ne (.tuple (l.map .int)) (.tuple (m.map .int)) = rbool (!decide (l = m)) := by
  rw [cop_neD eqOk_it, PyData.eqv, eqvAll_ints]
@[simp] theorem cop_eq_t2 {a b c d : Int} : cop .eq (.tuple [.int a, .int b]) (.tuple [.int c, .int d]) = rbool (decide (a = c ∧ b = d)) := by
  have := cop_eq_it (l := [a, b]) (m := [c, d])
  simpa using this
@[simp] theorem cop_ne_t2 {a b c d : Int} : cop .ne (.tuple [.int a, .int b]) (.tuple [.int c, .int d]) = rbool (!decide (a = c ∧ b = d)) := by
  have := cop_ne_it (l := [a, b]) (m := [c, d])
  simpa using this
/-! ### defs that many laws share -/
def cell (ns : List Int) (k : Nat) : Int := ns.getD k 0
def B_cell_at : Sxs := .cons (.ite (.cmp .lt (.v 1) (.bf .len (.cons (.v 0) .nil))) (.cons (.ret ⟨[], false⟩ (.ix (.v 0) (.v 1))) .nil) (.nil)) (.cons (.ret ⟨[], false⟩ (.c (.int 0))) .nil)
theorem ok_cell_at {G : Gd} {ns : List Int} {k : Nat} : fnD G B_cell_at 2 [.list (ns.map .int), .int k] = vI (cell ns k) := by
  by_cases h : k < ns.length
  · have e : (ns.map PyData.int)[k]? = some (.int (cell ns k)) := by simp [cell, h]
    simp [fnD_res, B_cell_at, h, ixD_list e]
  · have e : cell ns k = 0 := by simp [cell, h]
    simp [fnD_res, B_cell_at, h, e]
def B_ones : Sxs := .cons (.asg 1 false ⟨[], false⟩ (.c (.int 0))) (.cons (.whl (.cmp .gt (.v 0) (.c (.int 0))) (.cons (.aug 1 .add (.bop .band (.v 0) (.c (.int 1)))) (.cons (.aug 0 .shr (.c (.int 1))) .nil))) (.cons (.ret ⟨[], false⟩ (.v 1)) .nil))
theorem loop_ones {G : Gd} : ∀ (n m : Nat), whl (evB (ev G (.cmp .gt (.v 0) (.c (.int 0))))) (sxs G (.cons (.aug 1 .add (.bop .band (.v 0) (.c (.int 1)))) (.cons (.aug 0 .shr (.c (.int 1))) .nil))) [.val (.int n), .val (.int m)] = .nx [.val (.int 0), .val (.int (m + pop n : Nat))] := fun n => by
  induction n using Nat.strongRecOn with
  | ind n ih =>
    intro m
    rw [whl_step]
    by_cases h : n = 0
    · subst h
      simp [evB, pop_zero]
    · have := ih (n / 2) (by omega) (m + n % 2)
      simp at this
      have hp : 0 < n := by omega
      simp [evB, hp, whK]
      rw [this, pop_eq h]
      simp [Int.add_assoc]
theorem ok_ones {G : Gd} {n : Nat} : fnD G B_ones 2 [.int n] = vI (pop n : Nat) := by
  have := loop_ones (G := G) n 0
  simp at this
  simp [fnD_res, B_ones, this]
def B_bits : Sxs := .cons (.asg 1 false ⟨[], false⟩ (.c (.int 0))) (.cons (.whl (.cmp .gt (.v 0) (.c (.int 0))) (.cons (.asg 1 false ⟨[], false⟩ (.bop .add (.v 1) (.bop .mod (.v 0) (.c (.int 2))))) (.cons (.asg 0 false ⟨[], false⟩ (.bop .fdiv (.v 0) (.c (.int 2)))) .nil))) (.cons (.ret ⟨[], false⟩ (.v 1)) .nil))
theorem loop_bits {G : Gd} : ∀ (n m : Nat), whl (evB (ev G (.cmp .gt (.v 0) (.c (.int 0))))) (sxs G (.cons (.asg 1 false ⟨[], false⟩ (.bop .add (.v 1) (.bop .mod (.v 0) (.c (.int 2))))) (.cons (.asg 0 false ⟨[], false⟩ (.bop .fdiv (.v 0) (.c (.int 2)))) .nil))) [.val (.int n), .val (.int m)] = .nx [.val (.int 0), .val (.int (m + pop n : Nat))] := fun n => by
  induction n using Nat.strongRecOn with
  | ind n ih =>
    intro m
    rw [whl_step]
    by_cases h : n = 0
    · subst h
      simp [evB, pop_zero]
    · have := ih (n / 2) (by omega) (m + n % 2)
      simp at this
      have hp : 0 < n := by omega
      simp [evB, hp, whK, divOk_s]
      rw [this, pop_eq h]
      simp [Int.add_assoc]
theorem ok_bits {G : Gd} {n : Nat} : fnD G B_bits 2 [.int n] = vI (pop n : Nat) := by
  have := loop_bits (G := G) n 0
  simp at this
  simp [fnD_res, B_bits, this]
def B_mark_by : Sxs := .cons (.asg 2 false ⟨[], false⟩ (.bop .mod (.bop .mul (.v 0) (.c (.int 48271))) (.c (.int 2147483647)))) (.cons (.asg 3 false ⟨[], false⟩ (.bop .shl (.c (.int 1)) (.v 1))) (.cons (.ret ⟨[], false⟩ (.tup (.cons (.bop .mod (.v 2) (.c (.int 4))) (.cons (.bop .mod (.bop .fdiv (.v 2) (.c (.int 4))) (.v 3)) (.cons (.bop .mod (.bop .fdiv (.bop .fdiv (.v 2) (.c (.int 4))) (.v 3)) (.v 3)) .nil))))) .nil))
/-- a mark as the data has it -/
def M3 (q f s : Nat) : PyData := .tuple [.int q, .int f, .int s]
theorem M3_0 {q f s : Nat} : ixD (M3 q f s) (.int 0) = rv (.int q) := ixD_t0
theorem M3_1 {q f s : Nat} : ixD (M3 q f s) (.int 1) = rv (.int f) := ixD_t1
theorem M3_2 {q f s : Nat} : ixD (M3 q f s) (.int 2) = rv (.int s) := ixD_t2
end PX

/-! PL3: parity, highest bits, equality of the same data. -/
namespace PX
open PySem PySem.Spec PyProof.Rows L2

/-! ### parity -/
noncomputable def par (a b : Nat) : Nat := pop (a &&& b) % 2
theorem par_lt (a b : Nat) : par a b < 2 := Nat.mod_lt _ (by decide)
theorem par_xl (a b x : Nat) : par (a ^^^ b) x = (par a x + par b x) % 2 := by
  unfold par
  rw [Nat.and_xor_distrib_right, pop_xor]
  omega
theorem par_xr (a x y : Nat) : par a (x ^^^ y) = (par a x + par a y) % 2 := by
  unfold par
  rw [Nat.and_xor_distrib_left, pop_xor]
  omega
theorem zero_par (a : Nat) : par 0 a = 0 := by
  unfold par
  rw [Nat.zero_and, pop_zero]
theorem pop_two_pow : ∀ i : Nat, pop (2 ^ i) = 1
  | 0 => by rw [Nat.pow_zero, pop_eq (by decide), pop_zero]
  | i + 1 => by
    have hp : 0 < 2 ^ i := Nat.pow_pos (by decide)
    rw [Nat.pow_succ, pop_eq (by omega), Nat.mul_mod_left, Nat.mul_div_cancel _ (by decide), pop_two_pow i]
theorem and_pow (n i : Nat) : n &&& 2 ^ i = if n.testBit i = true then 2 ^ i else 0 := by
  apply Nat.eq_of_testBit_eq
  intro j
  rw [Nat.testBit_and, Nat.testBit_two_pow]
  by_cases h : i = j
  · subst h
    cases e : n.testBit i
    · simp
    · simp [Nat.testBit_two_pow]
  · cases e : n.testBit i
    · simp [h]
    · simp [Nat.testBit_two_pow, h]
theorem and_two_pow_cases (n i : Nat) : n &&& 2 ^ i = 0 ∨ n &&& 2 ^ i = 2 ^ i := by
  rw [and_pow]
  cases n.testBit i
  · left; simp
  · right; simp
/-- the highest bit -/
def tp (n : Nat) : Nat := 2 ^ n.log2
theorem and_tp {n : Nat} (h : n ≠ 0) : n &&& tp n = tp n := by
  unfold tp
  have t : n.testBit n.log2 = true := by
    have h1 := Nat.log2_self_le h
    have h2 := @Nat.lt_log2_self n
    rw [Nat.testBit_eq_decide_div_mod_eq]
    have : n / 2 ^ n.log2 = 1 := by
      rw [Nat.div_eq_iff (Nat.pow_pos (by decide))]
      constructor
      · omega
      · have e : 2 ^ (n.log2 + 1) = 2 ^ n.log2 * 2 := Nat.pow_succ ..
        omega
    rw [this]
    rfl
  rw [and_pow, t]
  simp
theorem xor_bits {a b : Nat} (ha : a < 2) (hb : b < 2) : a ^^^ b = (a + b) % 2 ∧ a ^^^ b < 2 := by
  rcases (show a = 0 ∨ a = 1 by omega) with rfl | rfl <;> rcases (show b = 0 ∨ b = 1 by omega) with rfl | rfl <;> decide
/-! ### the same data -/
mutual
theorem eqv_refl : ∀ d : PyData, d.plain = true → PyData.eqv d d = true
  | .none, _ => by rw [PyData.eqv]
  | .bool b, _ => by rw [PyData.eqv]; cases b <;> rfl
  | .int i, _ => by rw [PyData.eqv]; exact beq_self_eq_true i
  | .str x, _ => by rw [PyData.eqv]; exact beq_self_eq_true x
  | .list l, h => by
    rw [PyData.eqv]
    exact eqvAll_refl l (by rw [PyData.plain] at h; exact h)
  | .tuple l, h => by
    rw [PyData.eqv]
    exact eqvAll_refl l (by rw [PyData.plain] at h; exact h)
  | .dict kvs, h => by rw [PyData.plain] at h; cases h
theorem eqvAll_refl : ∀ l : List PyData, PyData.plainAll l = true → PyData.eqvAll l l = true
  | [], _ => by rw [PyData.eqvAll]
  | d :: l, h => by
    rw [PyData.plainAll, Bool.and_eq_true] at h
    rw [PyData.eqvAll, eqv_refl d h.1, eqvAll_refl l h.2]
    rfl
end
theorem plainAll_of {A : Type} {f : A → PyData} : ∀ {l : List A}, (∀ x ∈ l, (f x).plain = true) → PyData.plainAll (l.map f) = true
  | [], _ => rfl
  | a :: l, h => by
    rw [List.map_cons, PyData.plainAll, h a List.mem_cons_self, plainAll_of fun x hx => h x (List.mem_cons_of_mem _ hx)]
    rfl
theorem depthAll_of {A : Type} {f : A → PyData} {k : Nat} : ∀ {l : List A}, (∀ x ∈ l, (f x).depth ≤ k) → PyData.depthAll (l.map f) ≤ k
  | [], _ => Nat.zero_le _
  | a :: l, h => by
    rw [List.map_cons, PyData.depthAll]
    exact Nat.max_le.mpr ⟨h a List.mem_cons_self, depthAll_of fun x hx => h x (List.mem_cons_of_mem _ hx)⟩
theorem flats_of {A : Type} {f : A → PyData} : ∀ {l : List A}, (∀ x ∈ l, flat (f x) = true) → flats (l.map f) = true
  | [], _ => rfl
  | a :: l, h => by
    rw [List.map_cons, flats, h a List.mem_cons_self, flats_of fun x hx => h x (List.mem_cons_of_mem _ hx)]
    rfl
def E2 (m b : Nat) : PyData := .tuple [.int m, .int b]
theorem E2_0 {m b : Nat} : ixD (E2 m b) (.int 0) = rv (.int m) := ixD_t0
theorem E2_1 {m b : Nat} : ixD (E2 m b) (.int 1) = rv (.int b) := ixD_t1
theorem same_list {A : Type} {f : A → PyData} {l : List A} {k : Nat} (hp : ∀ x ∈ l, (f x).plain = true) (hd : ∀ x ∈ l, (f x).depth ≤ 60) : cop .ne (.list (l.map f)) (.list (l.map f)) = rbool false ∧ cop .eq (.list (l.map f)) (.list (l.map f)) = rbool true := by
  have p : (PyData.list (l.map f)).plain = true := by rw [PyData.plain]; exact plainAll_of hp
  have d : (PyData.list (l.map f)).depth ≤ 64 := by
    rw [PyData.depth]
    have := depthAll_of hd
    omega
  have e : eqOk (.list (l.map f)) (.list (l.map f)) = true := by
    unfold eqOk
    rw [p, decide_eq_true d]
    rfl
  rw [cop_neD e, cop_eqD e, eqv_refl _ p]
  exact ⟨rfl, rfl⟩
end PX

/-! PLA: amounts and boards as the laws make them; defs that many laws share, over any surroundings. -/
namespace PX
open PySem PySem.Spec PyProof.Rows L2
structure Am where
  a : Int
  b : Int
  c : Int
  d : Int
  h : Int
def AD (x : Am) : PyData := .tuple [.int x.a, .int x.b, .int x.c, .int x.d, .int x.h]
def Am.turn (x : Am) : Am := ⟨-x.d, x.a, x.b, x.c, x.h⟩
def spinN (x : Am) : Nat → Am
  | 0 => x
  | n + 1 => spinN x.turn n
def spB : Sxs := .cons (.unp [2, 3, 4, 5] ⟨[], false⟩ (.tup (.cons (.neg (.v 5)) (.cons (.v 2) (.cons (.v 3) (.cons (.v 4) .nil)))))) .nil
def spT : Sxs := .cons (.unp [2, 3, 4, 5, 6] ⟨[], false⟩ (.v 0)) (.cons (.for_ (.nm 7) [] (.rng1 (.bop .mod (.v 1) (.c (.int 8)))) spB) (.cons (.ret ⟨[], false⟩ (.tup (.cons (.v 2) (.cons (.v 3) (.cons (.v 4) (.cons (.v 5) (.cons (.v 6) .nil))))))) .nil))
/-! ### a list of four, halved -/
def P4 (a b c d : Int) : PyData := .list [.int a, .int b, .int c, .int d]
def loC : Ex := .band (.cons (.cmp .gt (.v 1) (.c (.int 0))) (.cons (.bf .all (.cons (.comp [("_law_part", 2)] (.cmp .eq (.bop .mod (.v 2) (.c (.int 2))) (.c (.int 0))) (.nm 2) (.seq (.v 0)) .no) .nil)) .nil))
def loB : Sxs := .cons (.asg 0 false ⟨[], false⟩ (.comp [("_law_part", 2)] (.bop .fdiv (.v 2) (.c (.int 2))) (.nm 2) (.seq (.v 0)) .no)) (.cons (.asg 1 false ⟨[], false⟩ (.bop .sub (.v 1) (.c (.int 1)))) .nil)
def Bd (m : Nat) (x : Int) : Prop := x.natAbs < 2 ^ m
theorem Bd.half {m : Nat} {x : Int} (h : Bd m x) (hm : 0 < m) : Bd m (x / 2) := by
  unfold Bd at *
  have : 2 ^ m = 2 ^ (m - 1) * 2 := by rw [← Nat.pow_succ]; congr 1; omega
  omega
structure GoodA (m H : Nat) (x : Am) : Prop where
  a : Bd m x.a
  b : Bd m x.b
  c : Bd m x.c
  d : Bd m x.d
  h0 : 0 ≤ x.h
  h1 : x.h ≤ H
theorem GoodA.turn {m H : Nat} {x : Am} (g : GoodA m H x) : GoodA m H x.turn := ⟨by have := g.d; unfold Bd at *; show (-x.d).natAbs < _; rw [Int.natAbs_neg]; exact this, g.a, g.b, g.c, g.h0, g.h1⟩
theorem GoodA.spin {m H : Nat} : ∀ {x : Am} (n : Nat), GoodA m H x → GoodA m H (spinN x n)
  | x, 0, g => g
  | x, n + 1, g => GoodA.spin n g.turn
theorem GoodA.mono {m m' H H' : Nat} {x : Am} (g : GoodA m H x) (h1 : m ≤ m') (h2 : H ≤ H') : GoodA m' H' x := by
  have p : 2 ^ m ≤ 2 ^ m' := Nat.pow_le_pow_right (by decide) h1
  exact ⟨Nat.lt_of_lt_of_le g.a p, Nat.lt_of_lt_of_le g.b p, Nat.lt_of_lt_of_le g.c p, Nat.lt_of_lt_of_le g.d p, g.h0, by have := g.h1; omega⟩
def B_low : Sxs := .cons (.ite (.cmp .eq (.v 0) (.lst (.cons (.c (.int 0)) (.cons (.c (.int 0)) (.cons (.c (.int 0)) (.cons (.c (.int 0)) .nil)))))) (.cons (.ret ⟨[], false⟩ (.tup (.cons (.c (.int 0)) (.cons (.c (.int 0)) (.cons (.c (.int 0)) (.cons (.c (.int 0)) (.cons (.c (.int 0)) .nil))))))) .nil) (.nil)) (.cons (.whl (.band (.cons (.cmp .gt (.v 1) (.c (.int 0))) (.cons (.bf .all (.cons (.comp [("_law_part", 2)] (.cmp .eq (.bop .mod (.v 2) (.c (.int 2))) (.c (.int 0))) (.nm 2) (.seq (.v 0)) .no) .nil)) .nil))) (.cons (.asg 0 false ⟨[], false⟩ (.comp [("_law_part", 2)] (.bop .fdiv (.v 2) (.c (.int 2))) (.nm 2) (.seq (.v 0)) .no)) (.cons (.asg 1 false ⟨[], false⟩ (.bop .sub (.v 1) (.c (.int 1)))) .nil))) (.cons (.ret ⟨[], false⟩ (.tup (.cons (.ix (.v 0) (.c (.int 0))) (.cons (.ix (.v 0) (.c (.int 1))) (.cons (.ix (.v 0) (.c (.int 2))) (.cons (.ix (.v 0) (.c (.int 3))) (.cons (.v 1) .nil))))))) .nil))
/-! ### an amount by a number -/
def amB : Sxs := .cons (.app 3 ⟨[], false⟩ (.bop .sub (.bop .mod (.v 1) (.v 2)) (.bop .fdiv (.v 2) (.c (.int 2))))) (.cons (.asg 1 false ⟨[], false⟩ (.bop .fdiv (.v 1) (.v 2))) .nil)
abbrev T29 : Int := 100000000000000000000000000000
theorem q1 : powOk 63 64 = true := by decide
theorem q2 : powOk 31 64 = true := by decide
theorem q3 : powOk 10 60 = true := by decide
theorem q4 : powOk 10 29 = true := by decide
theorem q5 : mulOk ((10 : Int) ^ 60) (10 ^ 60) = true := by decide
def Ev4 (a b c d : Int) : Prop := a % 2 = 0 ∧ b % 2 = 0 ∧ c % 2 = 0 ∧ d % 2 = 0
instance (a b c d : Int) : Decidable (Ev4 a b c d) := by unfold Ev4; infer_instance
/-- a lowest form -/
def Low (x : Am) : Prop := 0 ≤ x.h ∧ (x.h = 0 ∨ ¬ Ev4 x.a x.b x.c x.d)
theorem Low.turn {x : Am} (h : Low x) : Low x.turn := by
  refine ⟨h.1, h.2.imp id fun q z => q ?_⟩
  have z : Ev4 (-x.d) x.a x.b x.c := z
  obtain ⟨h1, h2, h3, h4⟩ := z
  exact ⟨h2, h3, h4, by omega⟩
theorem Low.spin {x : Am} : ∀ (n : Nat) {x : Am}, Low x → Low (spinN x n)
  | 0, x, h => h
  | n + 1, x, h => Low.spin (x := x) n h.turn
structure GL0 (x : Am) : Prop where
  g : GoodA 200 40 x
  l : Low x
theorem GL0.spin {x : Am} (n : Nat) (h : GL0 x) : GL0 (spinN x n) := ⟨h.g.spin n, Low.spin (x := x) n h.l⟩
def Am1 (r : Rr) : Prop := ∃ x, r = .ok (.val (AD x)) ∧ GL0 x
theorem Am1.mk {x : Am} (g : GL0 x) : Am1 (.ok (.val (AD x))) := ⟨x, rfl, g⟩
def amRest : Sxs := .cons (.ite (.cmp .eq (.bop .mod (.v 0) (.c (.int 6))) (.c (.int 4))) (.cons (.asg 5 false ⟨[], false⟩ (.bop .mod (.v 1) (.c (.int 6)))) (.cons (.ret ⟨[], false⟩ (.call 0 (.cons (.ix (.lst (.cons (.tup (.cons (.c (.int 1)) (.cons (.c (.int 0)) (.cons (.c (.int 0)) (.cons (.c (.int 0)) (.cons (.v 5) .nil)))))) (.cons (.tup (.cons (.c (.int 0)) (.cons (.c (.int 1)) (.cons (.c (.int 0)) (.cons (.neg (.c (.int 1))) (.cons (.bop .add (.v 5) (.c (.int 1))) .nil)))))) .nil))) (.bop .mod (.bop .fdiv (.v 1) (.c (.int 6))) (.c (.int 2)))) (.cons (.bop .mod (.bop .fdiv (.v 1) (.c (.int 12))) (.c (.int 8))) .nil)) [])) .nil)) (.nil)) (.cons (.ite (.cmp .eq (.bop .mod (.v 0) (.c (.int 6))) (.c (.int 5))) (.cons (.ret ⟨[], false⟩ (.tup (.cons (.bop .sub (.bop .mod (.v 1) (.c (.int 11))) (.c (.int 5))) (.cons (.c (.int 0)) (.cons (.bop .sub (.bop .mod (.bop .fdiv (.v 1) (.c (.int 11))) (.c (.int 11))) (.c (.int 5))) (.cons (.c (.int 0)) (.cons (.c (.int 0)) .nil))))))) .nil) (.nil)) (.cons (.ret ⟨[], false⟩ (.tup (.cons (.c (.int 0)) (.cons (.c (.int 0)) (.cons (.c (.int 0)) (.cons (.c (.int 0)) (.cons (.c (.int 0)) .nil))))))) .nil))
def B_amount : Sxs := .cons (.asg 1 false ⟨[], false⟩ (.bop .mod (.bop .add (.bop .mul (.bop .fdiv (.v 0) (.c (.int 6))) (.bop .pow (.c (.int 63)) (.c (.int 64)))) (.bop .pow (.c (.int 31)) (.c (.int 64)))) (.bop .mul (.bop .pow (.c (.int 10)) (.c (.int 60))) (.bop .pow (.c (.int 10)) (.c (.int 60)))))) (.cons (.asg 2 false ⟨[], false⟩ (.bop .pow (.c (.int 10)) (.c (.int 29)))) (.cons (.ite (.cmp .eq (.bop .mod (.v 0) (.c (.int 6))) (.c (.int 1))) (.cons (.ret ⟨[], false⟩ (.call 0 (.cons (.tup (.cons (.c (.int 1)) (.cons (.c (.int 0)) (.cons (.c (.int 0)) (.cons (.c (.int 0)) (.cons (.c (.int 0)) .nil)))))) (.cons (.bop .mod (.v 1) (.c (.int 8))) .nil)) [])) .nil) (.nil)) (.cons (.ite (.cmp .eq (.bop .mod (.v 0) (.c (.int 6))) (.c (.int 2))) (.cons (.asg 3 true ⟨[], false⟩ (.lst (.cons (.bop .sub (.bop .mod (.v 1) (.c (.int 7))) (.c (.int 3))) (.cons (.bop .sub (.bop .mod (.bop .fdiv (.v 1) (.c (.int 7))) (.c (.int 7))) (.c (.int 3))) (.cons (.bop .sub (.bop .mod (.bop .fdiv (.v 1) (.c (.int 49))) (.c (.int 7))) (.c (.int 3))) (.cons (.bop .sub (.bop .mod (.bop .fdiv (.v 1) (.c (.int 343))) (.c (.int 7))) (.c (.int 3))) .nil)))))) (.cons (.ret ⟨[3], false⟩ (.call 1 (.cons (.v 3) (.cons (.bop .mod (.bop .fdiv (.v 1) (.c (.int 2401))) (.c (.int 4))) .nil)) [])) .nil)) (.nil)) (.cons (.ite (.cmp .eq (.bop .mod (.v 0) (.c (.int 6))) (.c (.int 3))) (.cons (.asg 3 true ⟨[], false⟩ (.lst .nil)) (.cons (.for_ (.nm 4) [] (.rng1 (.c (.int 4))) (.cons (.app 3 ⟨[], false⟩ (.bop .sub (.bop .mod (.v 1) (.v 2)) (.bop .fdiv (.v 2) (.c (.int 2))))) (.cons (.asg 1 false ⟨[], false⟩ (.bop .fdiv (.v 1) (.v 2))) .nil))) (.cons (.ret ⟨[3], false⟩ (.call 1 (.cons (.v 3) (.cons (.bop .mod (.v 1) (.c (.int 40))) .nil)) [])) .nil))) (.nil)) (.cons (.ite (.cmp .eq (.bop .mod (.v 0) (.c (.int 6))) (.c (.int 4))) (.cons (.asg 5 false ⟨[], false⟩ (.bop .mod (.v 1) (.c (.int 6)))) (.cons (.ret ⟨[], false⟩ (.call 0 (.cons (.ix (.lst (.cons (.tup (.cons (.c (.int 1)) (.cons (.c (.int 0)) (.cons (.c (.int 0)) (.cons (.c (.int 0)) (.cons (.v 5) .nil)))))) (.cons (.tup (.cons (.c (.int 0)) (.cons (.c (.int 1)) (.cons (.c (.int 0)) (.cons (.neg (.c (.int 1))) (.cons (.bop .add (.v 5) (.c (.int 1))) .nil)))))) .nil))) (.bop .mod (.bop .fdiv (.v 1) (.c (.int 6))) (.c (.int 2)))) (.cons (.bop .mod (.bop .fdiv (.v 1) (.c (.int 12))) (.c (.int 8))) .nil)) [])) .nil)) (.nil)) (.cons (.ite (.cmp .eq (.bop .mod (.v 0) (.c (.int 6))) (.c (.int 5))) (.cons (.ret ⟨[], false⟩ (.tup (.cons (.bop .sub (.bop .mod (.v 1) (.c (.int 11))) (.c (.int 5))) (.cons (.c (.int 0)) (.cons (.bop .sub (.bop .mod (.bop .fdiv (.v 1) (.c (.int 11))) (.c (.int 11))) (.c (.int 5))) (.cons (.c (.int 0)) (.cons (.c (.int 0)) .nil))))))) .nil) (.nil)) (.cons (.ret ⟨[], false⟩ (.tup (.cons (.c (.int 0)) (.cons (.c (.int 0)) (.cons (.c (.int 0)) (.cons (.c (.int 0)) (.cons (.c (.int 0)) .nil))))))) .nil)))))))
def SpinOk (f : List PyData → Rr) : Prop := ∀ (x : Am) (k : Nat), f [AD x, .int k] = .ok (.val (AD (spinN x (k % 8))))
def LowOk (f : List PyData → Rr) : Prop := ∀ (m h : Nat) (a b c d : Int), 0 < m → Bd m a → Bd m b → Bd m c → Bd m d → ∃ x, f [P4 a b c d, .int h] = .ok (.val (AD x)) ∧ GoodA m h x ∧ Low x
/-! ### far -/
def faB : Sxs := .cons (.asg 1 false ⟨[], false⟩ (.bop .mul (.v 1) (.bop .pow (.c (.int 7)) (.c (.int 64))))) .nil
theorem q7 : powOk 7 64 = true := by decide
def B_far : Sxs := .cons (.ite (.cmp .eq (.v 0) (.tup (.cons (.c (.int 0)) (.cons (.c (.int 0)) (.cons (.c (.int 0)) (.cons (.c (.int 0)) (.cons (.c (.int 0)) .nil))))))) (.cons (.ret ⟨[], false⟩ (.v 0)) .nil) (.nil)) (.cons (.asg 1 false ⟨[], false⟩ (.c (.int 1))) (.cons (.for_ (.nm 2) [] (.rng1 (.c (.int 17))) (.cons (.asg 1 false ⟨[], false⟩ (.bop .mul (.v 1) (.bop .pow (.c (.int 7)) (.c (.int 64))))) .nil)) (.cons (.ret ⟨[], false⟩ (.call 0 (.cons (.comp [("_law_part", 3)] (.bop .mul (.v 3) (.v 1)) (.nm 3) (.seq (.sl (.v 0) .no (.yes (.c (.int 4))))) .no) (.cons (.bop .add (.ix (.v 0) (.c (.int 4))) (.c (.int 900))) .nil)) [])) .nil)))
/-! ### amounts and boards told alike -/
def B_ais : Sxs := .cons (.ite (.bor (.cons (.bnot (.isi (.v 0) .tuple)) (.cons (.cmp .ne (.bf .len (.cons (.v 0) .nil)) (.c (.int 5))) .nil))) (.cons (.ret ⟨[], false⟩ (.c (.bool false))) .nil) (.nil)) (.cons (.for_ (.nm 2) [] (.rng1 (.c (.int 5))) (.cons (.ite (.bor (.cons (.bnot (.call 0 (.cons (.ix (.v 0) (.v 2)) .nil) [])) (.cons (.cmp .ne (.ix (.v 0) (.v 2)) (.ix (.v 1) (.v 2))) .nil))) (.cons (.ret ⟨[], false⟩ (.c (.bool false))) .nil) (.nil)) .nil)) (.cons (.ret ⟨[], false⟩ (.c (.bool true))) .nil))
def biB : Sxs := .cons (.ite (.bnot (.call 0 (.cons (.ix (.v 0) (.v 2)) (.cons (.ix (.v 1) (.v 2)) .nil)) [])) (.cons (.ret ⟨[], false⟩ (.c (.bool false))) .nil) (.nil)) .nil
def B_bis : Sxs := .cons (.ite (.bor (.cons (.bnot (.isi (.v 0) .list)) (.cons (.cmp .ne (.bf .len (.cons (.v 0) .nil)) (.bf .len (.cons (.v 1) .nil))) .nil))) (.cons (.ret ⟨[], false⟩ (.c (.bool false))) .nil) (.nil)) (.cons (.for_ (.nm 2) [] (.rng1 (.bf .len (.cons (.v 1) .nil))) (.cons (.ite (.bnot (.call 0 (.cons (.ix (.v 0) (.v 2)) (.cons (.ix (.v 1) (.v 2)) .nil)) [])) (.cons (.ret ⟨[], false⟩ (.c (.bool false))) .nil) (.nil)) .nil)) (.cons (.ret ⟨[], false⟩ (.c (.bool true))) .nil))
def Small (M : Nat) (ns : List Int) : Prop := ∀ z ∈ ns, z.natAbs < 2 ^ M
theorem Small.cell {M : Nat} {ns : List Int} (h : Small M ns) (k : Nat) : (cell ns k).natAbs < 2 ^ M := by
  unfold PX.cell
  rw [List.getD_eq_getElem?_getD]
  cases e : ns[k]? with
  | none => exact Nat.pow_pos (by decide)
  | some z => exact h z (List.mem_of_getElem? e)
def CellOk (f : List PyData → Rr) : Prop := ∀ (ns : List Int) (k : Nat), f [.list (ns.map .int), .int k] = vI (PX.cell ns k)
def AmountOk (f : List PyData → Rr) : Prop := ∀ (c : Int) (N : Nat), c.natAbs < 2 ^ N → N ≤ 2000000 → Am1 (f [.int c])
def bbB : Sxs := .cons (.app 3 ⟨[], false⟩ (.call 1 (.cons (.bop .add (.call 0 (.cons (.v 0) (.cons (.bop .add (.v 1) (.bop .mod (.v 4) (.c (.int 8)))) .nil)) []) (.bop .mul (.bop .fdiv (.v 4) (.c (.int 8))) (.c (.int 7919)))) .nil) [])) .nil
def B_bby : Sxs := .cons (.asg 3 true ⟨[], false⟩ (.lst .nil)) (.cons (.for_ (.nm 4) [] (.rng1 (.bop .shl (.c (.int 1)) (.v 2))) (.cons (.app 3 ⟨[], false⟩ (.call 1 (.cons (.bop .add (.call 0 (.cons (.v 0) (.cons (.bop .add (.v 1) (.bop .mod (.v 4) (.c (.int 8)))) .nil)) []) (.bop .mul (.bop .fdiv (.v 4) (.c (.int 8))) (.c (.int 7919)))) .nil) [])) .nil)) (.cons (.ite (.bf .all (.cons (.comp [("_law_one", 5)] (.cmp .eq (.v 5) (.tup (.cons (.c (.int 0)) (.cons (.c (.int 0)) (.cons (.c (.int 0)) (.cons (.c (.int 0)) (.cons (.c (.int 0)) .nil))))))) (.nm 5) (.seq (.v 3)) .no) .nil)) (.cons (.setix 3 ⟨[], false⟩ (.bop .mod (.call 0 (.cons (.v 0) (.cons (.v 1) .nil)) []) (.bf .len (.cons (.v 3) .nil))) (.tup (.cons (.c (.int 1)) (.cons (.c (.int 0)) (.cons (.c (.int 0)) (.cons (.c (.int 0)) (.cons (.c (.int 0)) .nil))))))) .nil) (.nil)) (.cons (.reto 3) .nil)))
def B_cby : Sxs := .cons (.ite (.cmp .eq (.bop .mod (.bop .fdiv (.v 0) (.c (.int 3))) (.c (.int 8))) (.c (.int 5))) (.cons (.ret ⟨[], false⟩ (.bop .add (.c (.int 4)) (.bop .mod (.bop .fdiv (.v 0) (.c (.int 24))) (.c (.int 3))))) .nil) (.nil)) (.cons (.ret ⟨[], false⟩ (.bop .add (.c (.int 1)) (.bop .mod (.v 0) (.c (.int 3))))) .nil)
def FarOk (f : List PyData → Rr) : Prop := ∀ x : Am, GL0 x → ∃ x', f [AD x] = .ok (.val (AD x')) ∧ GoodA 3601 940 x' ∧ Low x'
def AmountIsOk (f : List PyData → Rr) : Prop := ∀ x : Am, f [AD x, AD x] = vB true
def BoardIsOk (f : List PyData → Rr) : Prop := ∀ bs : List Am, bs.length ≤ 100000 → f [.list (bs.map AD), .list (bs.map AD)] = vB true
def CellsByOk (f : List PyData → Rr) : Prop := ∀ c : Int, ∃ k : Nat, 1 ≤ k ∧ k ≤ 6 ∧ f [.int c] = vI k
def BoardByOk (f : List PyData → Rr) : Prop := ∀ (ns : List Int) (M k at_ : Nat), Small M ns → 17 ≤ M → M ≤ 1999999 → k ≤ 6 → ∃ bs : List Am, bs.length = 2 ^ k ∧ (∀ x ∈ bs, GL0 x) ∧ f [.list (ns.map .int), .int at_, .int k] = .ok (.own (bs.map AD))
end PX

/-! PLM: words, moves, boards turned by moves: the program's defs over any surroundings. -/
namespace PX
open PySem PySem.Spec PyProof.Rows L2 SB
/-! ### texts of moves -/
/-! ### words -/
theorem bit_int {w c : Nat} : decide ((w : Int) / 2 ^ c % 2 = 1) = w.testBit c := by
  have a : (w : Int) / (2 : Int) ^ c % 2 = ((w / 2 ^ c % 2 : Nat) : Int) := by simp
  rw [a, Nat.testBit_eq_decide_div_mod_eq]
  apply decide_eq_decide.mpr
  omega
theorem pw2 (c : Nat) : ((2 : Int) ^ c) = ((2 ^ c : Nat) : Int) := by simp
theorem xor_pow {w a : Nat} : Builtin.bitXor (w : Int) ((2 : Int) ^ a) = ((w ^^^ 2 ^ a : Nat) : Int) := by rw [pw2, xor_nat]
theorem or_pow {w a : Nat} : Builtin.bitOr (w : Int) ((2 : Int) ^ a) = ((w ||| 2 ^ a : Nat) : Int) := by rw [pw2, or_nat]
def HasOk (f : List PyData → Rr) : Prop := ∀ w c : Nat, f [.int w, .int c] = vB (w.testBit c)
def trd (w a b : Nat) : Nat := if w.testBit a = w.testBit b then w else w ^^^ (2 ^ a ||| 2 ^ b)
def TradedOk (f : List PyData → Rr) : Prop := ∀ w a b : Nat, a ≤ 100 → b ≤ 100 → f [.int w, .int a, .int b] = vI (trd w a b : Nat)
/-! ### moves -/
inductive Mv where
  | flip (a : Nat)
  | mix (a : Nat)
  | turn (a k : Nat)
  | iff (a b : Nat)
  | pair (a b : Nat)
  | swap (a b : Nat)
  | cross (a b c : Nat)
def mvD : Mv → PyData
  | .flip a => .tuple [.str "flip", .int a]
  | .mix a => .tuple [.str "mix", .int a]
  | .turn a k => .tuple [.str "turn", .int a, .int k]
  | .iff a b => .tuple [.str "if", .int a, .int b]
  | .pair a b => .tuple [.str "pair", .int a, .int b]
  | .swap a b => .tuple [.str "swap", .int a, .int b]
  | .cross a b c => .tuple [.str "cross", .int a, .int b, .int c]
def Mv.cells : Mv → List Nat
  | .flip a => [a]
  | .mix a => [a]
  | .turn a _ => [a]
  | .iff a b => [a, b]
  | .pair a b => [a, b]
  | .swap a b => [a, b]
  | .cross a b c => [a, b, c]
/-- one of so many cells -/
def Mv.ok (n : Nat) : Mv → Prop
  | .flip a => a < n
  | .mix a => a < n
  | .turn a k => a < n ∧ 1 ≤ k ∧ k ≤ 7
  | .iff a b => a < n ∧ b < n ∧ a ≠ b
  | .pair a b => a < n ∧ b < n ∧ a ≠ b
  | .swap a b => a < n ∧ b < n ∧ a ≠ b
  | .cross a b c => a < n ∧ b < n ∧ c < n ∧ a ≠ b ∧ a ≠ c ∧ b ≠ c
/-- a move that changes places -/
def Mv.led : Mv → Prop
  | .mix _ => False
  | .turn _ _ => False
  | .pair _ _ => False
  | _ => True
def glM (w : Nat) : Mv → Nat
  | .flip a => w ^^^ 2 ^ a
  | .swap a b => trd w a b
  | .iff a b => if w.testBit a = true then w ^^^ 2 ^ b else w
  | .cross a b c => if w.testBit a = true then trd w b c else w
  | _ => w
def SIZES : List (Str × Int) := [("flip", 2), ("mix", 2), ("turn", 3), ("if", 3), ("pair", 3), ("swap", 3), ("cross", 4)]
def WholeOk (f : List PyData → Rr) : Prop := ∀ i : Int, f [.int i] = vB true
@[simp] theorem isTy_ss {x : Str} : isTy (.str x) .str = true := id rfl
@[simp] theorem bf_all1 {a : Bool} : bf .all [.list [.bool a]] = rbool a := (bf_all (l := [a])).trans (by simp)
@[simp] theorem bf_all2 {a b : Bool} : bf .all [.list [.bool a, .bool b]] = rbool (a && b) := (bf_all (l := [a, b])).trans (by simp)
@[simp] theorem bf_all3 {a b c : Bool} : bf .all [.list [.bool a, .bool b, .bool c]] = rbool (a && (b && c)) := (bf_all (l := [a, b, c])).trans (by simp)
def IsMoveOk (f : List PyData → Rr) : Prop := ∀ (n : Nat) (m : Mv), m.ok n → f [mvD m] = vB true
def NamedOk (f : List PyData → Rr) : Prop := ∀ m : Mv, f [mvD m] = .ok (.own (m.cells.map fun (c : Nat) => PyData.int c))
def CheckOk (f : List PyData → Rr) : Prop := ∀ (n : Nat) (m : Mv), m.ok n → f [mvD m, .int n] = .ok (.val (mvD m))
def CellsOfOk (f : List PyData → Rr) : Prop := ∀ (l : List PyData) (n : Nat), l.length = 2 ^ n → f [.list l] = vI n
def GoalOk (f : List PyData → Rr) : Prop := ∀ (n w : Nat) (m : Mv), n ≤ 100 → m.ok n → m.led → f [.int w, mvD m] = vI (glM w m : Nat)
end PX

/-! PLQ: amounts reckoned: lowest forms, sums, products; the program's defs over any surroundings. -/
namespace PX
open PySem PySem.Spec PyProof.Rows L2 SB
def lowR : Nat → Int → Int → Int → Int → Am
  | 0, a, b, c, d => ⟨a, b, c, d, 0⟩
  | h + 1, a, b, c, d => if Ev4 a b c d then lowR h (a / 2) (b / 2) (c / 2) (d / 2) else ⟨a, b, c, d, (h + 1 : Nat)⟩
def lowA (h : Nat) (a b c d : Int) : Am := if a = 0 ∧ b = 0 ∧ c = 0 ∧ d = 0 then ⟨0, 0, 0, 0, 0⟩ else lowR h a b c d
def LowestOk (f : List PyData → Rr) : Prop := ∀ (h : Nat) (a b c d : Int), f [.int a, .int b, .int c, .int d, .int h] = .ok (.val (AD (lowA h a b c d)))
/-! ### sums -/
theorem Bd.neg {m : Nat} {x : Int} (h : Bd m x) : Bd m (-x) := by
  unfold Bd at *
  rw [Int.natAbs_neg]
  exact h
theorem Bd.add {m : Nat} {x y : Int} (h : Bd m x) (h2 : Bd m y) : Bd (m + 1) (x + y) := by
  unfold Bd at *
  have e : 2 ^ (m + 1) = 2 ^ m * 2 := Nat.pow_succ ..
  omega
theorem Bd.sub {m : Nat} {x y : Int} (h : Bd m x) (h2 : Bd m y) : Bd (m + 1) (x - y) := by
  unfold Bd at *
  have e : 2 ^ (m + 1) = 2 ^ m * 2 := Nat.pow_succ ..
  omega
theorem Bd.mono {m n : Nat} {x : Int} (h : Bd m x) (hn : m ≤ n) : Bd n x := Nat.lt_of_lt_of_le h (Nat.pow_le_pow_right (by decide) hn)
theorem Bd.mul {m n : Nat} {x y : Int} (h : Bd m x) (h2 : Bd n y) : Bd (m + n) (x * y) := by
  unfold Bd at *
  rw [Int.natAbs_mul, Nat.pow_add]
  exact Nat.mul_lt_mul_of_lt_of_le h (Nat.le_of_lt h2) (Nat.pow_pos (by decide))
theorem Bd.shl {m k : Nat} {x : Int} (h : Bd m x) : Bd (m + k) (x * 2 ^ k) := by
  unfold Bd at *
  rw [Int.natAbs_mul, natAbs_two_pow, Nat.pow_add]
  exact Nat.mul_lt_mul_of_pos_right h (Nat.pow_pos (by decide))
theorem lowR_good {m : Nat} (hm : 0 < m) : ∀ (h : Nat) {a b c d : Int}, Bd m a → Bd m b → Bd m c → Bd m d → GoodA m h (lowR h a b c d)
  | 0, a, b, c, d, ha, hb, hc, hd => ⟨ha, hb, hc, hd, Int.le_refl 0, Int.le_refl 0⟩
  | h + 1, a, b, c, d, ha, hb, hc, hd => by
    rw [lowR]
    split
    · exact (lowR_good hm h (ha.half hm) (hb.half hm) (hc.half hm) (hd.half hm)).mono (Nat.le_refl _) (Nat.le_succ h)
    · exact ⟨ha, hb, hc, hd, by show (0 : Int) ≤ ((h + 1 : Nat) : Int); omega, Int.le_refl _⟩
theorem lowA_good {m h : Nat} (hm : 0 < m) {a b c d : Int} (ha : Bd m a) (hb : Bd m b) (hc : Bd m c) (hd : Bd m d) : GoodA m h (lowA h a b c d) := by
  unfold lowA
  split
  · exact ⟨Nat.pow_pos (by decide), Nat.pow_pos (by decide), Nat.pow_pos (by decide), Nat.pow_pos (by decide), Int.le_refl 0, by show (0 : Int) ≤ h; omega⟩
  · exact lowR_good hm h ha hb hc hd
def hM (x y : Am) : Int := if y.h > x.h then y.h else x.h
def plusA (x y : Am) : Am := lowA (hM x y).toNat (x.a * 2 ^ (hM x y - x.h).toNat + y.a * 2 ^ (hM x y - y.h).toNat) (x.b * 2 ^ (hM x y - x.h).toNat + y.b * 2 ^ (hM x y - y.h).toNat) (x.c * 2 ^ (hM x y - x.h).toNat + y.c * 2 ^ (hM x y - y.h).toNat) (x.d * 2 ^ (hM x y - x.h).toNat + y.d * 2 ^ (hM x y - y.h).toNat)
def minusA (x y : Am) : Am := plusA x (spinN y 4)
def rootA (x : Am) : Am := lowA (x.h + 1).toNat (x.b - x.d) (x.a + x.c) (x.b + x.d) (x.c - x.a)
theorem hM_ge {x y : Am} : x.h ≤ hM x y ∧ y.h ≤ hM x y := by
  unfold hM
  split <;> omega
theorem hM_le {x y : Am} {H : Int} (hx : x.h ≤ H) (hy : y.h ≤ H) : hM x y ≤ H := by
  unfold hM
  split <;> omega
theorem plusA_good {m H : Nat} {x y : Am} (gx : GoodA m H x) (gy : GoodA m H y) : GoodA (m + H + 1) H (plusA x y) := by
  have h1 := hM_ge (x := x) (y := y)
  have h2 := hM_le gx.h1 gy.h1
  have x0 := gx.h0
  have y0 := gy.h0
  have k1 : (hM x y - x.h).toNat ≤ H := by omega
  have k2 : (hM x y - y.h).toNat ≤ H := by omega
  have s : ∀ {u v : Int}, Bd m u → Bd m v → Bd (m + H + 1) (u * 2 ^ (hM x y - x.h).toNat + v * 2 ^ (hM x y - y.h).toNat) := fun hu hv => (hu.shl.mono (by omega)).add (hv.shl.mono (by omega))
  exact (lowA_good (by omega) (s gx.a gy.a) (s gx.b gy.b) (s gx.c gy.c) (s gx.d gy.d)).mono (Nat.le_refl _) (by omega)
theorem rootA_good {m H : Nat} {x : Am} (gx : GoodA m H x) : GoodA (m + 1) (H + 1) (rootA x) := by
  have h0 := gx.h0
  have h1 := gx.h1
  exact (lowA_good (Nat.succ_pos m) (gx.b.sub gx.d) (gx.a.add gx.c) (gx.b.add gx.d) (gx.c.sub gx.a)).mono (Nat.le_refl _) (by omega)
def PlusOk (f : List PyData → Rr) : Prop := ∀ (m H : Nat) (x y : Am), GoodA m H x → GoodA m H y → m ≤ 10000000 → H ≤ 10000000 → f [AD x, AD y] = .ok (.val (AD (plusA x y)))
def MinusOk (f : List PyData → Rr) : Prop := ∀ (m H : Nat) (x y : Am), GoodA m H x → GoodA m H y → m ≤ 10000000 → H ≤ 10000000 → f [AD x, AD y] = .ok (.val (AD (minusA x y)))
def RootedOk (f : List PyData → Rr) : Prop := ∀ x : Am, 0 ≤ x.h → f [AD x] = .ok (.val (AD (rootA x)))
theorem minusA_good {m H : Nat} {x y : Am} (gx : GoodA m H x) (gy : GoodA m H y) : GoodA (m + H + 1) H (minusA x y) := plusA_good gx (gy.spin 4)
/-! ### the laws' own: a list of four halved; sums; over the root -/
def LawLowOk (f : List PyData → Rr) : Prop := ∀ (h : Nat) (a b c d : Int), f [P4 a b c d, .int h] = .ok (.val (AD (lowA h a b c d)))
theorem lowR_low : ∀ (h : Nat) (a b c d : Int), Low (lowR h a b c d)
  | 0, a, b, c, d => ⟨Int.le_refl 0, .inl rfl⟩
  | h + 1, a, b, c, d => by
    rw [lowR]
    split
    · exact lowR_low h _ _ _ _
    · rename_i e
      exact ⟨by show (0 : Int) ≤ ((h + 1 : Nat) : Int); omega, .inr e⟩
theorem lowA_low (h : Nat) (a b c d : Int) : Low (lowA h a b c d) := by
  unfold lowA
  split
  · exact ⟨Int.le_refl 0, .inl rfl⟩
  · exact lowR_low h a b c d
theorem LawLowOk.low {f : List PyData → Rr} (h : LawLowOk f) : LowOk f := fun m k a b c d hm ha hb hc hd => ⟨_, h k a b c d, lowA_good hm ha hb hc hd, lowA_low k a b c d⟩
def LawPlusOk (f : List PyData → Rr) : Prop := ∀ (m H : Nat) (x y : Am), GoodA m H x → GoodA m H y → m ≤ 10000000 → H ≤ 10000000 → f [AD x, AD y, .int 1] = .ok (.val (AD (plusA x y))) ∧ f [AD x, AD y, .int (-1)] = .ok (.val (AD (minusA x y)))
/-- a size that grows with the moves -/
def Sz (t : Nat) (x : Am) : Prop := GoodA (5000 + 3000 * t) (1000 + t) x
theorem Sz.mono {s t : Nat} {x : Am} (h : Sz s x) (q : s ≤ t) : Sz t x := GoodA.mono h (by omega) (by omega)
theorem Sz.spin {t : Nat} {x : Am} (n : Nat) (h : Sz t x) : Sz t (spinN x n) := GoodA.spin n h
theorem Sz.mixP {t : Nat} (ht : t ≤ 1000) {x y : Am} (hx : Sz t x) (hy : Sz t y) : Sz (t + 1) (rootA (plusA x y)) := (rootA_good (plusA_good hx hy)).mono (by omega) (by omega)
theorem Sz.mixM {t : Nat} (ht : t ≤ 1000) {x y : Am} (hx : Sz t x) (hy : Sz t y) : Sz (t + 1) (rootA (minusA x y)) := (rootA_good (minusA_good hx hy)).mono (by omega) (by omega)
end PX

/-! PLM2: boards turned by moves: the program's defs over any surroundings. -/
namespace PX
open PySem PySem.Spec PyProof.Rows L2 SB
/-! ### amounts spun at words -/
def swR (cs : List Nat) (k : Nat) : Nat → List Am → List Am
  | _, [] => []
  | n, x :: l => (if cs.all n.testBit = true then spinN x (k % 8) else x) :: swR cs k (n + 1) l
def SpunWhereOk (f : List PyData → Rr) : Prop := ∀ (cs : List Nat) (k : Nat) (bs : List Am), cs.length < 100 → bs.length < 16777216 → f [.list (bs.map AD), .list (cs.map fun (c : Nat) => PyData.int c), .int k] = .ok (.own ((swR cs k 0 bs).map AD))
/-! ### a mix -/
def blF (f g : Am → Am → Am) (bs : List Am) (c : Nat) : Nat → List Am
  | 0 => bs
  | i + 1 => if i.testBit c = true then blF f g bs c i else match bs[i]?, bs[i ||| 2 ^ c]? with
    | some x, some y => ((blF f g bs c i).set i (f x y)).set (i ||| 2 ^ c) (g x y)
    | _, _ => blF f g bs c i
def mixP (x y : Am) : Am := rootA (plusA x y)
def mixM (x y : Am) : Am := rootA (minusA x y)
def blB (bs : List Am) (c : Nat) : List Am := blF mixP mixM bs c bs.length
def BlendedOk (f : List PyData → Rr) : Prop := ∀ (bs : List Am) (n c m H : Nat), bs.length = 2 ^ n → c < n → n ≤ 6 → (∀ x ∈ bs, GoodA m H x) → m ≤ 10000000 → H ≤ 10000000 → f [.list (bs.map AD), .int c] = .ok (.own ((blB bs c).map AD))
/-! ### turned -/
def Am0 : Am := ⟨0, 0, 0, 0, 0⟩
def turnB (bs : List Am) : Mv → List Am
  | .mix a => blB bs a
  | .turn a k => swR [a] k 0 bs
  | .pair a b => swR [a, b] 4 0 bs
  | m => (List.range bs.length).map fun w => bs.getD (glM w m) Am0
theorem trd_lt {n w a b : Nat} (hw : w < 2 ^ n) (ha : a < n) (hb : b < n) : trd w a b < 2 ^ n := by
  unfold trd
  split
  · exact hw
  · exact Nat.xor_lt_two_pow hw (Nat.or_lt_two_pow (Nat.pow_lt_pow_right (by decide) ha) (Nat.pow_lt_pow_right (by decide) hb))
def TurnedOk (f : List PyData → Rr) : Prop := ∀ (bs : List Am) (n M H : Nat) (m : Mv), m.ok n → n ≤ 6 → bs.length = 2 ^ n → (∀ x ∈ bs, GoodA M H x) → M ≤ 10000000 → H ≤ 10000000 → f [.list (bs.map AD), mvD m] = .ok (.own ((turnB bs m).map AD))
end PX

/-! PLM3: moves drawn by a number, as many laws do. -/
namespace PX
open PySem PySem.Spec PyProof.Rows L2 SB
/-! ### a body in two parts -/
def dropS : Nat → Sxs → Sxs
  | 0, b => b
  | _ + 1, .nil => .nil
  | n + 1, .cons _ b => dropS n b
def takeS : Nat → Sxs → Sxs
  | 0, _ => .nil
  | _ + 1, .nil => .nil
  | n + 1, .cons s b => .cons s (takeS n b)
/-- the cells but one, .. but two -/
def restC (n a : Nat) : List Nat := (List.range n).filter fun c => decide (c ≠ a)
def restC2 (n a b : Nat) : List Nat := (restC n a).filter fun c => decide (c ≠ b)
/-! ### sizes behind moves; the word that a move leads to -/
def Mv.plain : Mv → Prop
  | .mix _ => False
  | _ => True
theorem two6 {n : Nat} (h : n ≤ 6) : 2 ^ n ≤ 64 := Nat.pow_le_pow_right (n := 2) (by decide) h
/-- finite checks -/
def allB : Nat → (Nat → Bool) → Bool
  | 0, _ => true
  | n + 1, p => p n && allB n p
/-- places set one by one, each led to by another one -/
def setF (f : Nat → Nat) (g : Nat → Am) (bs : List Am) : Nat → List Am
  | 0 => bs
  | i + 1 => (setF f g bs i).set (f i) (g i)
def MoveByOk (f : List PyData → Rr) : Prop := ∀ (n : Nat) (c : Int), 1 ≤ n → n ≤ 1000 → ∃ m : Mv, m.ok n ∧ f [.int c, .int n] = .ok (.val (mvD m))
end PX

/-! PLM4: a mix as the laws reckon it. -/
namespace PX
open PySem PySem.Spec PyProof.Rows L2 SB
theorem Sz.start {x : Am} (h : GoodA 3601 940 x) : Sz 0 x := h.mono (by decide) (by decide)
@[simp] theorem bf_int1f : bf .int1 [.bool false] = rint 0 := id rfl
@[simp] theorem bf_int1t : bf .int1 [.bool true] = rint 1 := id rfl
end PX

/-! PLV: what amounts stand for: a ring; boards as functions of words; moves as linear maps. -/
namespace PX
open PySem PySem.Spec PyProof.Rows L2 SB
structure Q8 where
  a : Rat
  b : Rat
  c : Rat
  d : Rat
theorem Q8.ext {x y : Q8} (h1 : x.a = y.a) (h2 : x.b = y.b) (h3 : x.c = y.c) (h4 : x.d = y.d) : x = y := by
  cases x; cases y; simp_all
namespace Q8
instance : Add Q8 := ⟨fun x y => ⟨x.a + y.a, x.b + y.b, x.c + y.c, x.d + y.d⟩⟩
instance : Neg Q8 := ⟨fun x => ⟨-x.a, -x.b, -x.c, -x.d⟩⟩
instance : Sub Q8 := ⟨fun x y => ⟨x.a - y.a, x.b - y.b, x.c - y.c, x.d - y.d⟩⟩
instance : Mul Q8 := ⟨fun x y => ⟨x.a * y.a - x.b * y.d - x.c * y.c - x.d * y.b, x.a * y.b + x.b * y.a - x.c * y.d - x.d * y.c, x.a * y.c + x.b * y.b + x.c * y.a - x.d * y.d, x.a * y.d + x.b * y.c + x.c * y.b + x.d * y.a⟩⟩
instance : NatCast Q8 := ⟨fun n => ⟨n, 0, 0, 0⟩⟩
instance : IntCast Q8 := ⟨fun n => ⟨n, 0, 0, 0⟩⟩
instance instOfNat {n : Nat} : OfNat Q8 n := ⟨⟨n, 0, 0, 0⟩⟩
def npow (x : Q8) : Nat → Q8
  | 0 => 1
  | n + 1 => npow x n * x
instance : HPow Q8 Nat Q8 := ⟨npow⟩
instance : SMul Nat Q8 := ⟨fun n x => (n : Q8) * x⟩
instance : SMul Int Q8 := ⟨fun n x => (n : Q8) * x⟩
theorem smul_n (n : Nat) (x : Q8) : n • x = (n : Q8) * x := rfl
theorem smul_z (n : Int) (x : Q8) : n • x = (n : Q8) * x := rfl
@[simp] theorem add_a (x y : Q8) : (x + y).a = x.a + y.a := rfl
@[simp] theorem add_b (x y : Q8) : (x + y).b = x.b + y.b := rfl
@[simp] theorem add_c (x y : Q8) : (x + y).c = x.c + y.c := rfl
@[simp] theorem add_d (x y : Q8) : (x + y).d = x.d + y.d := rfl
@[simp] theorem neg_a (x : Q8) : (-x).a = -x.a := rfl
@[simp] theorem neg_b (x : Q8) : (-x).b = -x.b := rfl
@[simp] theorem neg_c (x : Q8) : (-x).c = -x.c := rfl
@[simp] theorem neg_d (x : Q8) : (-x).d = -x.d := rfl
@[simp] theorem sub_a (x y : Q8) : (x - y).a = x.a - y.a := rfl
@[simp] theorem sub_b (x y : Q8) : (x - y).b = x.b - y.b := rfl
@[simp] theorem sub_c (x y : Q8) : (x - y).c = x.c - y.c := rfl
@[simp] theorem sub_d (x y : Q8) : (x - y).d = x.d - y.d := rfl
@[simp] theorem mul_a (x y : Q8) : (x * y).a = x.a * y.a - x.b * y.d - x.c * y.c - x.d * y.b := rfl
@[simp] theorem mul_b (x y : Q8) : (x * y).b = x.a * y.b + x.b * y.a - x.c * y.d - x.d * y.c := rfl
@[simp] theorem mul_c (x y : Q8) : (x * y).c = x.a * y.c + x.b * y.b + x.c * y.a - x.d * y.d := rfl
@[simp] theorem mul_d (x y : Q8) : (x * y).d = x.a * y.d + x.b * y.c + x.c * y.b + x.d * y.a := rfl
@[simp] theorem nat_a (n : Nat) : ((n : Nat) : Q8).a = n := rfl
@[simp] theorem nat_b (n : Nat) : ((n : Nat) : Q8).b = 0 := rfl
@[simp] theorem nat_c (n : Nat) : ((n : Nat) : Q8).c = 0 := rfl
@[simp] theorem nat_d (n : Nat) : ((n : Nat) : Q8).d = 0 := rfl
@[simp] theorem int_a (n : Int) : ((n : Int) : Q8).a = n := rfl
@[simp] theorem int_b (n : Int) : ((n : Int) : Q8).b = 0 := rfl
@[simp] theorem int_c (n : Int) : ((n : Int) : Q8).c = 0 := rfl
@[simp] theorem int_d (n : Int) : ((n : Int) : Q8).d = 0 := rfl
theorem lit_a (n : Nat) : (OfNat.ofNat (α := Q8) n).a = (n : Rat) := rfl
theorem lit_b (n : Nat) : (OfNat.ofNat (α := Q8) n).b = 0 := rfl
theorem lit_c (n : Nat) : (OfNat.ofNat (α := Q8) n).c = 0 := rfl
theorem lit_d (n : Nat) : (OfNat.ofNat (α := Q8) n).d = 0 := rfl
theorem zero_a : (0 : Q8).a = 0 := rfl
@[simp] theorem zero_b : (0 : Q8).b = 0 := rfl
@[simp] theorem zero_c : (0 : Q8).c = 0 := rfl
@[simp] theorem zero_d : (0 : Q8).d = 0 := rfl
@[simp] theorem one_a : (1 : Q8).a = 1 := rfl
@[simp] theorem one_b : (1 : Q8).b = 0 := rfl
@[simp] theorem one_c : (1 : Q8).c = 0 := rfl
@[simp] theorem one_d : (1 : Q8).d = 0 := rfl
@[simp] theorem zero_a' : (0 : Q8).a = 0 := rfl
instance : Lean.Grind.CommRing Q8 where
  nsmul := inferInstance
  zsmul := inferInstance
  add_assoc x y z := by apply Q8.ext <;> simp <;> grind
  add_comm x y := by apply Q8.ext <;> simp <;> grind
  add_zero x := by apply Q8.ext <;> simp <;> grind
  mul_assoc x y z := by apply Q8.ext <;> simp <;> grind
  mul_comm x y := by apply Q8.ext <;> simp <;> grind
  mul_one x := by apply Q8.ext <;> simp <;> grind
  one_mul x := by apply Q8.ext <;> simp <;> grind
  left_distrib x y z := by apply Q8.ext <;> simp <;> grind
  right_distrib x y z := by apply Q8.ext <;> simp <;> grind
  zero_mul x := by apply Q8.ext <;> simp <;> grind
  mul_zero x := by apply Q8.ext <;> simp <;> grind
  pow_zero x := rfl
  pow_succ x n := rfl
  ofNat_succ n := by apply Q8.ext <;> simp [lit_a, lit_b, lit_c, lit_d] <;> grind
  ofNat_eq_natCast n := rfl
  nsmul_eq_natCast_mul n x := rfl
  neg_add_cancel x := by apply Q8.ext <;> simp <;> grind
  sub_eq_add_neg x y := by apply Q8.ext <;> simp <;> grind
  neg_zsmul n x := by rw [smul_z, smul_z]; apply Q8.ext <;> simp <;> grind
  zsmul_natCast_eq_nsmul n x := by rw [smul_z, smul_n]; apply Q8.ext <;> simp [Rat.intCast_natCast]
  intCast_ofNat n := by apply Q8.ext <;> first | rfl | (show ((n : Int) : Rat) = (n : Rat); exact Rat.intCast_natCast n)
  intCast_neg n := by apply Q8.ext <;> simp
@[simp] theorem two_a : (2 : Q8).a = 2 := rfl
@[simp] theorem two_b : (2 : Q8).b = 0 := rfl
@[simp] theorem two_c : (2 : Q8).c = 0 := rfl
@[simp] theorem two_d : (2 : Q8).d = 0 := rfl
def z : Q8 := ⟨0, 1, 0, 0⟩
def r : Q8 := ⟨0, 1/2, 0, -1/2⟩
theorem z4 : z * z * z * z = -1 := by apply Q8.ext <;> simp [z] <;> grind
theorem rr : 2 * (r * r) = 1 := by apply Q8.ext <;> simp [r] <;> grind
theorem z8 : z ^ 8 = 1 := by have := z4; grind
end Q8

/-! ### what an amount stands for -/
def hp (h : Nat) : Rat := ((2 : Rat) ^ h)⁻¹
def mkV (h : Nat) (a b c d : Int) : Q8 := ⟨a * hp h, b * hp h, c * hp h, d * hp h⟩
def val (x : Am) : Q8 := mkV x.h.toNat x.a x.b x.c x.d
theorem z_pow_add (m n : Nat) : Q8.z ^ (m + n) = Q8.z ^ m * Q8.z ^ n := by grind
theorem z_pow8 : ∀ k : Nat, Q8.z ^ (8 * k) = 1
  | 0 => rfl
  | k + 1 => by
    have e : 8 * (k + 1) = 8 * k + 8 := by omega
    rw [e, z_pow_add, z_pow8 k, Q8.z8]
    grind
/-! ### lowest forms are told by what they stand for -/
/-! ### boards -/
def vB8 (bs : List Am) (w : Nat) : Q8 := val (bs.getD w Am0)
theorem xor_cancel (w c : Nat) : (w ^^^ 2 ^ c) ^^^ 2 ^ c = w := by rw [Nat.xor_assoc, Nat.xor_self, Nat.xor_zero]
theorem bit_flip (w c : Nat) : (w ^^^ 2 ^ c).testBit c = !w.testBit c := by
  rw [Nat.testBit_xor, Nat.testBit_two_pow_self, Bool.xor_true]
theorem or_xor {w c : Nat} (h : w.testBit c = false) : w ||| 2 ^ c = w ^^^ 2 ^ c := by
  apply Nat.eq_of_testBit_eq
  intro j
  rw [Nat.testBit_or, Nat.testBit_xor, Nat.testBit_two_pow]
  by_cases e : c = j
  · subst e
    simp [h]
  · simp [e]
def lowW (c w : Nat) : Nat := if w.testBit c = true then w ^^^ 2 ^ c else w
/-- a move as a linear map -/
def T8 (m : Mv) (f : Nat → Q8) (w : Nat) : Q8 := match m with
  | .mix c => if w.testBit c = true then Q8.r * (f (w ^^^ 2 ^ c) - f w) else Q8.r * (f w + f (w ^^^ 2 ^ c))
  | .turn a k => if w.testBit a = true then Q8.z ^ k * f w else f w
  | .pair a b => if (w.testBit a && w.testBit b) = true then -f w else f w
  | m => f (glM w m)
def H0 (bs : List Am) : Prop := ∀ x ∈ bs, 0 ≤ x.h
theorem getD_mem {P : Am → Prop} {bs : List Am} {w : Nat} (h : ∀ x ∈ bs, P x) (h0 : P Am0) : P (bs.getD w Am0) := by
  rw [List.getD_eq_getElem?_getD]
  cases e : bs[w]? with
  | none => exact h0
  | some x => exact h x (List.mem_of_getElem? e)
def LowB (bs : List Am) : Prop := ∀ x ∈ bs, Low x
theorem LowB.h0 {bs : List Am} (h : LowB bs) : H0 bs := fun x hx => (h x hx).1
end PX

/-! PLR: rows of moves: run, backward; there and back. -/
namespace PX
open PySem PySem.Spec PyProof.Rows L2 SB
def runB (bs : List Am) : List Mv → List Am
  | [] => bs
  | m :: ms => runB (turnB bs m) ms
def rowD (ms : List Mv) : PyData := .list (ms.map mvD)
def RunOk (f : List PyData → Rr) : Prop := ∀ (n t : Nat) (ms : List Mv) (bs : List Am), n ≤ 6 → bs.length = 2 ^ n → (∀ x ∈ bs, Sz t x) → t + ms.length ≤ 1000 → (∀ m ∈ ms, m.ok n) → f [.list (bs.map AD), rowD ms] = .ok (.own ((runB bs ms).map AD))
/-! ### rows as linear maps -/
def TR : List Mv → (Nat → Q8) → Nat → Q8
  | [], f => f
  | m :: ms, f => TR ms (T8 m f)
/-! ### back -/
def backM : Mv → Mv
  | .turn a k => .turn a (8 - k)
  | m => m
def backR (ms : List Mv) : List Mv := (ms.map backM).reverse
/-! ### the defs -/
def BackMoveOk (f : List PyData → Rr) : Prop := ∀ (n : Nat) (m : Mv), m.ok n → f [mvD m] = .ok (.val (mvD (backM m)))
def BackwardOk (f : List PyData → Rr) : Prop := ∀ (n : Nat) (ms : List Mv), (∀ m ∈ ms, m.ok n) → ms.length ≤ 10000 → f [rowD ms] = .ok (.own ((backR ms).map mvD))
/-! ### parts of rows -/
/-! ### low, the other text -/
end PX

/-! PLR2: rows told alike, turned about by the laws. -/
namespace PX
open PySem PySem.Spec PyProof.Rows L2 SB
def MoveIsOk (f : List PyData → Rr) : Prop := ∀ (n : Nat) (m : Mv), m.ok n → f [mvD m, mvD m] = vB true
def RowIsOk (f : List PyData → Rr) : Prop := ∀ (n : Nat) (ms : List Mv), (∀ m ∈ ms, m.ok n) → ms.length ≤ 10000 → f [rowD ms, rowD ms] = vB true
end PX

/-! PLW: weights, sums over words; products of amounts; hefts told alike. -/
namespace PX
open PySem PySem.Spec PyProof.Rows L2 SB
/-! ### sums -/
def sL : List Q8 → Q8
  | [] => 0
  | x :: l => x + sL l
def sQ (N : Nat) (f : Nat → Q8) : Q8 := sL ((List.range N).map f)
/-! ### mirrors and weights -/
def conj (x : Q8) : Q8 := ⟨x.a, -x.d, -x.c, -x.b⟩
def W8 (x : Q8) : Q8 := x * conj x
/-! ### rows are linear -/
/-! ### products -/
def timesA (x y : Am) : Am := lowA (x.h + y.h).toNat (x.a * y.a - x.b * y.d - x.c * y.c - x.d * y.b) (x.a * y.b + x.b * y.a - x.c * y.d - x.d * y.c) (x.a * y.c + x.b * y.b + x.c * y.a - x.d * y.d) (x.a * y.d + x.b * y.c + x.c * y.b + x.d * y.a)
def TimesOk (f : List PyData → Rr) : Prop := ∀ (m H k K : Nat) (x y : Am), GoodA m H x → GoodA k K y → m + k ≤ 100000000 → f [AD x, AD y] = .ok (.val (AD (timesA x y)))
/-! ### the laws' own product -/
def LawTimesOk (f : List PyData → Rr) : Prop := ∀ (m H k K : Nat) (x y : Am), GoodA m H x → GoodA k K y → m + k ≤ 100000000 → f [AD x, AD y] = .ok (.val (AD (timesA x y)))
/-! ### hefts told alike -/
def wt (x : Am) : Int := x.a * x.a + x.b * x.b + x.c * x.c + x.d * x.d
def ws (x : Am) : Int := x.a * x.b + x.b * x.c + x.c * x.d - x.d * x.a
def by_ (M : Int) (x : Am) : Int := 2 ^ (2 * (M - x.h)).toNat
def topS (M : Int) (f : Am → Int) (s : Int) : List Am → Int
  | [] => s
  | x :: l => topS M f (s + f x * by_ M x) l
/-- the heft of a board, as it stands -/
def heftB (bs : List Am) : Q8 := sL (bs.map fun x => W8 (val x))
def HeftsAreOk (f : List PyData → Rr) : Prop := ∀ (m H : Nat) (bs cs : List Am), m + H ≤ 1000000 → (∀ x ∈ bs, GoodA m H x) → (∀ x ∈ cs, GoodA m H x) → bs ≠ [] → bs.length + cs.length ≤ 100000 → heftB bs = heftB cs → f [.list (bs.map AD), .list (cs.map AD)] = vB true
end PX

/-! PLS: whole numbers and the root of two: a ring, its order; shares. -/
namespace PX
open PySem PySem.Spec PyProof.Rows L2 SB
structure Z2 where
  a : Int
  b : Int
theorem Z2.ext {x y : Z2} (h1 : x.a = y.a) (h2 : x.b = y.b) : x = y := by
  cases x; cases y; simp_all
namespace Z2
instance : Add Z2 := ⟨fun x y => ⟨x.a + y.a, x.b + y.b⟩⟩
instance : Neg Z2 := ⟨fun x => ⟨-x.a, -x.b⟩⟩
instance : Sub Z2 := ⟨fun x y => ⟨x.a - y.a, x.b - y.b⟩⟩
instance : Mul Z2 := ⟨fun x y => ⟨x.a * y.a + 2 * (x.b * y.b), x.a * y.b + x.b * y.a⟩⟩
instance : NatCast Z2 := ⟨fun n => ⟨n, 0⟩⟩
instance : IntCast Z2 := ⟨fun n => ⟨n, 0⟩⟩
instance instOfNat {n : Nat} : OfNat Z2 n := ⟨⟨n, 0⟩⟩
def npow (x : Z2) : Nat → Z2
  | 0 => 1
  | n + 1 => npow x n * x
instance : HPow Z2 Nat Z2 := ⟨npow⟩
instance : SMul Nat Z2 := ⟨fun n x => (n : Z2) * x⟩
instance : SMul Int Z2 := ⟨fun n x => (n : Z2) * x⟩
theorem smul_n (n : Nat) (x : Z2) : n • x = (n : Z2) * x := rfl
theorem smul_z (n : Int) (x : Z2) : n • x = (n : Z2) * x := rfl
@[simp] theorem add_a (x y : Z2) : (x + y).a = x.a + y.a := rfl
@[simp] theorem add_b (x y : Z2) : (x + y).b = x.b + y.b := rfl
@[simp] theorem neg_a (x : Z2) : (-x).a = -x.a := rfl
@[simp] theorem neg_b (x : Z2) : (-x).b = -x.b := rfl
@[simp] theorem sub_a (x y : Z2) : (x - y).a = x.a - y.a := rfl
@[simp] theorem sub_b (x y : Z2) : (x - y).b = x.b - y.b := rfl
@[simp] theorem mul_a (x y : Z2) : (x * y).a = x.a * y.a + 2 * (x.b * y.b) := rfl
@[simp] theorem mul_b (x y : Z2) : (x * y).b = x.a * y.b + x.b * y.a := rfl
@[simp] theorem nat_a (n : Nat) : ((n : Nat) : Z2).a = n := rfl
@[simp] theorem nat_b (n : Nat) : ((n : Nat) : Z2).b = 0 := rfl
@[simp] theorem int_a (n : Int) : ((n : Int) : Z2).a = n := rfl
@[simp] theorem int_b (n : Int) : ((n : Int) : Z2).b = 0 := rfl
theorem lit_a (n : Nat) : (OfNat.ofNat (α := Z2) n).a = (n : Int) := rfl
theorem lit_b (n : Nat) : (OfNat.ofNat (α := Z2) n).b = 0 := rfl
@[simp] theorem zero_a : (0 : Z2).a = 0 := rfl
@[simp] theorem zero_b : (0 : Z2).b = 0 := rfl
@[simp] theorem one_a : (1 : Z2).a = 1 := rfl
@[simp] theorem one_b : (1 : Z2).b = 0 := rfl
instance : Lean.Grind.CommRing Z2 where
  nsmul := inferInstance
  zsmul := inferInstance
  add_assoc x y z := by apply Z2.ext <;> simp <;> grind
  add_comm x y := by apply Z2.ext <;> simp <;> grind
  add_zero x := by apply Z2.ext <;> simp
  mul_assoc x y z := by apply Z2.ext <;> simp <;> grind
  mul_comm x y := by apply Z2.ext <;> simp <;> grind
  mul_one x := by apply Z2.ext <;> simp
  one_mul x := by apply Z2.ext <;> simp
  left_distrib x y z := by apply Z2.ext <;> simp <;> grind
  right_distrib x y z := by apply Z2.ext <;> simp <;> grind
  zero_mul x := by apply Z2.ext <;> simp
  mul_zero x := by apply Z2.ext <;> simp
  pow_zero x := rfl
  pow_succ x n := rfl
  ofNat_succ n := by apply Z2.ext <;> simp [lit_a, lit_b]
  ofNat_eq_natCast n := rfl
  nsmul_eq_natCast_mul n x := rfl
  neg_add_cancel x := by apply Z2.ext <;> simp <;> omega
  sub_eq_add_neg x y := by apply Z2.ext <;> simp <;> omega
  neg_zsmul n x := by rw [smul_z, smul_z]; apply Z2.ext <;> simp <;> grind
  zsmul_natCast_eq_nsmul n x := by rw [smul_z, smul_n]; apply Z2.ext <;> simp
  intCast_ofNat n := rfl
  intCast_neg n := by apply Z2.ext <;> simp
/-- above nought -/
def P (x : Z2) : Prop := (0 < x.a ∧ 2 * (x.b * x.b) < x.a * x.a) ∨ (0 < x.b ∧ x.a * x.a < 2 * (x.b * x.b))
instance (x : Z2) : Decidable (P x) := by unfold P; infer_instance
/-! ### squares -/
/-- by the signs of the parts -/
def P' (a b : Int) : Prop := (0 ≤ a ∧ 0 ≤ b ∧ ¬ (a = 0 ∧ b = 0)) ∨ (0 < a ∧ b < 0 ∧ 2 * (b * b) < a * a) ∨ (a < 0 ∧ 0 < b ∧ a * a < 2 * (b * b))
end Z2

open Z2
/-! ### two names set at once -/
@[simp] theorem sx_par2p {G : Gd} {r : CE} {i j : Nat} {es : Exs} : sx G (.par2 i j ⟨[], false⟩ es) r = outL (evs G es (r.map rdP)) r fun ds => if ds.length = 2 then .nx (setAll Cell.val [i, j] ds r) else .fail := by
  rw [sx]
  show (match evs G es (r.map rdP) with
    | .ok ds => if (false && !flats ds) = true then Out.fail else if ds.length = 2 then .nx (setAll Cell.val [i, j] ds r) else .fail
    | .exc c => .exc c r
    | .fail => .fail) = _
  cases evs G es (r.map rdP) <;> rfl
/-! ### bounds -/
def BdI (m : Nat) (x : Int) : Prop := x.natAbs < 2 ^ m
theorem BdI.mono {m n : Nat} {x : Int} (h : BdI m x) (hn : m ≤ n) : BdI n x := Nat.lt_of_lt_of_le h (Nat.pow_le_pow_right (by decide) hn)
theorem BdI.neg {m : Nat} {x : Int} (h : BdI m x) : BdI m (-x) := by
  unfold BdI at *
  rw [Int.natAbs_neg]
  exact h
theorem BdI.add {m : Nat} {x y : Int} (h : BdI m x) (h2 : BdI m y) : BdI (m + 1) (x + y) := by
  unfold BdI at *
  have e : 2 ^ (m + 1) = 2 ^ m * 2 := Nat.pow_succ ..
  omega
theorem BdI.sub {m : Nat} {x y : Int} (h : BdI m x) (h2 : BdI m y) : BdI (m + 1) (x - y) := by
  unfold BdI at *
  have e : 2 ^ (m + 1) = 2 ^ m * 2 := Nat.pow_succ ..
  omega
theorem BdI.mul {m n : Nat} {x y : Int} (h : BdI m x) (h2 : BdI n y) : BdI (m + n) (x * y) := by
  unfold BdI at *
  rw [Int.natAbs_mul, Nat.pow_add]
  exact Nat.mul_lt_mul_of_lt_of_le h (Nat.le_of_lt h2) (Nat.pow_pos (by decide))
/-! ### greatest divisors -/
def DivisorOk (f : List PyData → Rr) : Prop := ∀ a b : Int, f [.int a, .int b] = vI (Nat.gcd a.natAbs b.natAbs : Nat)
/-! ### shares -/
structure Sh where
  t : Int
  r : Int
  b : Int
def SD (x : Sh) : PyData := .tuple [.int x.t, .int x.r, .int x.b]
def g3 (t r b : Int) : Nat := Nat.gcd r.natAbs (Nat.gcd t.natAbs b.natAbs)
def ovr (t r b : Int) : Int := if b < 0 then -(g3 t r b : Int) else g3 t r b
def lowS (t r b : Int) : Sh := ⟨t.fdiv (ovr t r b), r.fdiv (ovr t r b), b.fdiv (ovr t r b)⟩
structure LowS (m : Nat) (x : Sh) : Prop where
  pos : 0 < x.b
  one : g3 x.t x.r x.b = 1
  bt : BdI m x.t
  br : BdI m x.r
  bb : BdI m x.b
theorem LowS.mono {m n : Nat} {x : Sh} (h : LowS m x) (hn : m ≤ n) : LowS n x := ⟨h.pos, h.one, h.bt.mono hn, h.br.mono hn, h.bb.mono hn⟩
/-- the share as it stands -/
def nm (x : Sh) : Z2 := ⟨x.t, x.r⟩
/-- the other less the one, times both bottoms -/
def Df (x y : Sh) : Z2 := ⟨y.t * x.b - x.t * y.b, y.r * x.b - x.r * y.b⟩
/-! ### the program's defs -/
def AboveOk (f : List PyData → Rr) : Prop := ∀ (m : Nat) (x : Sh), BdI m x.t → BdI m x.r → m ≤ 100000 → f [SD x] = vB (decide (P (nm x)))
def ShareOk (f : List PyData → Rr) : Prop := ∀ (m : Nat) (t r b : Int), b ≠ 0 → BdI m b → m ≤ 9000 → 0 < m → f [.int t, .int r, .int b] = .ok (.val (SD (lowS t r b)))
def subS (x y : Sh) : Sh := lowS (x.t * y.b - y.t * x.b) (x.r * y.b - y.r * x.b) (x.b * y.b)
def ShareMinusOk (f : List PyData → Rr) : Prop := ∀ (m : Nat) (x y : Sh), LowS m x → LowS m y → m ≤ 4000 → 0 < m → f [SD x, SD y] = .ok (.val (SD (subS x y)))
/-- what is under what, as it stands -/
def U (x y : Sh) : Prop := P (Df x y)
noncomputable instance (x y : Sh) : Decidable (U x y) := by unfold U; infer_instance
def UnderOk (f : List PyData → Rr) : Prop := ∀ (m : Nat) (x y : Sh), LowS m x → LowS m y → m ≤ 4000 → 0 < m → f [SD x, SD y] = vB (decide (U x y))
/-! ### the order -/
/-- nought, and the third one -/
def S0 : Sh := ⟨0, 0, 1⟩
def mulSh (x y : Sh) : Sh := lowS (x.t * y.t + 2 * x.r * y.r) (x.t * y.r + x.r * y.t) (x.b * y.b)
end PX

/-! PLD: amounts have no divisors of nought; boards that are alike crosswise. -/
namespace PX
open PySem PySem.Spec PyProof.Rows L2 SB
open Z2
/-- nought, by its parts -/
def Nz (x : Am) : Prop := x.a = 0 ∧ x.b = 0 ∧ x.c = 0 ∧ x.d = 0
/-- two boards alike, by the values: crosswise with the amounts at the word k -/
def AlikeAt (f g : Nat → Am) (k N : Nat) : Prop := ∀ w, w < N → val (f k) * val (g w) = val (f w) * val (g k)
/-! ### boards drawn are not nought -/
end PX

/-! PLT: marks, over any surroundings; a mark laid on a board, by values. -/
namespace PX
open PySem PySem.Spec PyProof.Rows L2 SB
/-! ### marks -/
def OnesOk (f : List PyData → Rr) : Prop := ∀ n : Nat, f [.int n] = vI (pop n : Nat)
theorem ones_ok {G : Gd} {n : Nat} : fnD G b_ones 2 [.int n] = vI (pop n : Nat) := ok_ones
def EvenOk (f : List PyData → Rr) : Prop := ∀ q f1 s : Nat, f [M3 q f1 s] = vB (decide ((q + pop (f1 &&& s)) % 2 = 0))
def CommuteOk (f : List PyData → Rr) : Prop := ∀ q f1 s q2 f2 s2 : Nat, f [M3 q f1 s, M3 q2 f2 s2] = vB (decide ((pop (f1 &&& s2) + pop (s &&& f2)) % 2 = 0))
theorem product_ok {G : Gd} (hO : OnesOk (G.fn 0)) {q f s q2 f2 s2 : Nat} : fnD G b_product 3 [M3 q f s, M3 q2 f2 s2] = .ok (.val (M3 ((q + q2 + 2 * pop (s &&& f2)) % 4) (f ^^^ f2) (s ^^^ s2))) := by
  have o := hO (s &&& f2)
  simp [fnD_res, b_product, M3, o, lineB_le, mulOk_l]
def ProductOk (f : List PyData → Rr) : Prop := ∀ q f1 s q2 f2 s2 : Nat, f [M3 q f1 s, M3 q2 f2 s2] = .ok (.val (M3 ((q + q2 + 2 * pop (s &&& f2)) % 4) (f1 ^^^ f2) (s ^^^ s2)))
def AboutOk (f : List PyData → Rr) : Prop := ∀ q f1 s : Nat, f [M3 q f1 s] = .ok (.val (M3 ((q + 2) % 4) f1 s))
def IsMarkOk (f : List PyData → Rr) : Prop := ∀ q f1 s k : Nat, f [M3 q f1 s, .int k] = vB (decide (q < 4) && (decide (f1 < 2 ^ k) && decide (s < 2 ^ k)))
/-! ### a mark laid on -/
noncomputable def laidB (bs : List Am) (q f s : Nat) : List Am := (List.range bs.length).map fun w => spinN (bs.getD (w ^^^ f) Am0) ((2 * q + 4 * pop ((w ^^^ f) &&& s)) % 8)
theorem xor_xor (w f : Nat) : (w ^^^ f) ^^^ f = w := by rw [Nat.xor_assoc, Nat.xor_self, Nat.xor_zero]
def LaidOnOk (f : List PyData → Rr) : Prop := ∀ (k q f1 s : Nat) (bs : List Am), bs.length = 2 ^ k → f1 < 2 ^ k → f [.list (bs.map AD), M3 q f1 s] = .ok (.own ((laidB bs q f1 s).map AD))
/-! ### a mark as a map of functions of words -/
noncomputable def mk8 (q f s : Nat) (F : Nat → Q8) (w : Nat) : Q8 := Q8.z ^ (2 * q + 4 * pop ((w ^^^ f) &&& s)) * F (w ^^^ f)
theorem z_four (k : Nat) : Q8.z ^ (4 * k) = if k % 2 = 0 then 1 else -1 := by
  have e : 4 * k = 8 * (k / 2) + 4 * (k % 2) := by omega
  rw [e, z_pow_add, z_pow8]
  have z4 := Q8.z4
  rcases (show k % 2 = 0 ∨ k % 2 = 1 by omega) with h | h
  · rw [h, if_pos rfl]
    show (1 : Q8) * 1 = 1
    grind
  · rw [h, if_neg (by decide)]
    grind
theorem z_four_mod {a b : Nat} (h : a % 2 = b % 2) : Q8.z ^ (4 * a) = Q8.z ^ (4 * b) := by rw [z_four, z_four, h]
theorem pop_xl (a b x : Nat) : pop ((a ^^^ b) &&& x) % 2 = (pop (a &&& x) + pop (b &&& x)) % 2 := by rw [Nat.and_xor_distrib_right, pop_xor]
theorem pop_xr (a x y : Nat) : pop (a &&& (x ^^^ y)) % 2 = (pop (a &&& x) + pop (a &&& y)) % 2 := by rw [Nat.and_xor_distrib_left, pop_xor]
end PX

/-! PLU: shares by values; products, quotients; hefts. -/
namespace PX
open PySem PySem.Spec PyProof.Rows L2 SB
open Z2
def eqS (x y : Sh) : Bool := decide (x.t = y.t ∧ x.r = y.r ∧ x.b = y.b)
theorem ratz {k : Int} (h : k ≠ 0) : (k : Rat) ≠ 0 := fun z => h (Rat.intCast_inj.mp (by rw [z]; rfl))
/-- the share stands for A + B root 2 -/
structure Is (s : Sh) (q : Q8) : Prop where
  t : (s.t : Rat) = q.a * s.b
  r : (s.r : Rat) = q.b * s.b
def RealQ (q : Q8) : Prop := q.c = 0 ∧ q.d = -q.b
theorem Is.eq {s : Sh} {p q : Q8} (hb : 0 < s.b) (hp : Is s p) (hq : Is s q) (rp : RealQ p) (rq : RealQ q) : p = q := by
  have b0 := ratz (k := s.b) (by omega)
  have t1 := hp.t
  have t2 := hq.t
  have r1 := hp.r
  have r2 := hq.r
  have ea : p.a = q.a := by grind
  have eb : p.b = q.b := by grind
  exact Q8.ext ea eb (by rw [rp.1, rq.1]) (by rw [rp.2, rq.2, eb])
/-- what a share stands for -/
def qS (x : Sh) : Q8 := ⟨x.t * (x.b : Rat)⁻¹, x.r * (x.b : Rat)⁻¹, 0, -(x.r * (x.b : Rat)⁻¹)⟩
theorem RealQ.add {p q : Q8} (h1 : RealQ p) (h2 : RealQ q) : RealQ (p + q) := by
  obtain ⟨a1, a2⟩ := h1
  obtain ⟨b1, b2⟩ := h2
  constructor <;> simp <;> grind
theorem RealQ.mul {p q : Q8} (h1 : RealQ p) (h2 : RealQ q) : RealQ (p * q) := by
  obtain ⟨a1, a2⟩ := h1
  obtain ⟨b1, b2⟩ := h2
  constructor <;> simp [a1, a2, b1, b2] <;> grind
/-! ### products and quotients -/
def ovS (x y : Sh) : Sh := mulSh x (lowS (y.b * y.t) (-y.b * y.r) (y.t * y.t - 2 * y.r * y.r))
def TimesShOk (f : List PyData → Rr) : Prop := ∀ (m : Nat) (x y : Sh), LowS m x → LowS m y → m ≤ 4400 → 0 < m → f [SD x, SD y] = .ok (.val (SD (mulSh x y)))
def OverOk (f : List PyData → Rr) : Prop := ∀ (m : Nat) (x y : Sh), LowS m x → LowS m y → y ≠ S0 → m ≤ 2190 → f [SD x, SD y] = .ok (.val (SD (ovS x y)))
/-! ### hefts -/
def heftM (bs : List Am) : Int := maxI (bs.map Am.h)
def heftS (bs : List Am) : Sh := lowS (topS (heftM bs) wt 0 bs) (topS (heftM bs) ws 0 bs) (2 ^ (2 * (heftM bs).toNat))
instance (x : Am) : Decidable (Nz x) := by unfold Nz; infer_instance
def HeftOk (f : List PyData → Rr) : Prop := ∀ (m H : Nat) (bs : List Am), bs ≠ [] → (∀ x ∈ bs, GoodA m H x) → bs.length ≤ 64 → m ≤ 100000 → H ≤ 4400 → f [.list (bs.map AD)] = .ok (.val (SD (heftS bs)))
end PX

/-! PLL: where moves lead words, as the laws reckon; amounts made, boards begun. -/
namespace PX
open PySem PySem.Spec PyProof.Rows L2 SB
def bt (w c : Nat) : Nat := w / 2 ^ c % 2
def AtOk (f : List PyData → Rr) : Prop := ∀ w c : Nat, c ≤ 100 → f [.int w, .int c] = vI (bt w c : Nat)
/-- how a move spins the amount that it leads -/
def lkM (w : Nat) : Mv → Nat
  | .turn a k => bt w a * k
  | .pair a b => 4 * bt w a * bt w b
  | _ => 0
theorem bt_bit (w c : Nat) : bt w c = if w.testBit c = true then 1 else 0 := by
  unfold bt
  rw [Nat.testBit_eq_decide_div_mod_eq]
  by_cases h : w / 2 ^ c % 2 = 1
  · simp [h]
  · simp [h]; omega
def LeadsOk (f : List PyData → Rr) : Prop := ∀ (n w : Nat) (m : Mv), n ≤ 6 → m.ok n → m.plain → w < 2 ^ n → f [mvD m, .int w] = .ok (.val (.tuple [.int (glM w m : Nat), .int (lkM w m : Nat)]))
/-! ### amounts made, boards begun -/
def AmountMk (f : List PyData → Rr) : Prop := ∀ (h : Nat) (a b c d : Int), f [.int a, .int b, .int c, .int d, .int h] = .ok (.val (AD (lowA h a b c d)))
def Am1' : Am := ⟨1, 0, 0, 0, 0⟩
def startB (n w : Nat) : List Am := (List.replicate (2 ^ n) Am0).set w Am1'
def StartOk (f : List PyData → Rr) : Prop := ∀ n w : Nat, 1 ≤ n → n ≤ 6 → w < 2 ^ n → f [.int n, .int w] = .ok (.own ((startB n w).map AD))
end PX

/-! PLK: looks: parts of boards, shares, over any surroundings and by values. -/
namespace PX
open PySem PySem.Spec PyProof.Rows L2 SB
open Z2
/-! ### amounts told apart; boards -/
def Z5 (x : Am) : Prop := x.a = 0 ∧ x.b = 0 ∧ x.c = 0 ∧ x.d = 0 ∧ x.h = 0
instance (x : Am) : Decidable (Z5 x) := by unfold Z5; infer_instance
def eqA (x y : Am) : Bool := decide (x.a = y.a ∧ x.b = y.b ∧ x.c = y.c ∧ x.d = y.d ∧ x.h = y.h)
/-- boards told apart -/
def eqL : List Am → List Am → Bool
  | [], [] => true
  | x :: l, y :: m => eqA x y && eqL l m
  | _, _ => false
abbrev brd (bs : List Am) : PyData := .list (bs.map AD)
def at_ (bs : List Am) (w : Nat) : Am := bs.getD w Am0
/-- a board: so many cells, a size -/
structure BD (n m H : Nat) (bs : List Am) : Prop where
  len : bs.length = 2 ^ n
  gd : ∀ x ∈ bs, GoodA m H x
  low : LowB bs
theorem BD.mono {n m H m' H' : Nat} {bs : List Am} (h : BD n m H bs) (h1 : m ≤ m') (h2 : H ≤ H') : BD n m' H' bs := ⟨h.len, fun x hx => (h.gd x hx).mono h1 h2, h.low⟩
theorem BD.ne {n m H : Nat} {bs : List Am} (h : BD n m H bs) : bs ≠ [] := fun z => by
  have := h.len
  rw [z] at this
  have p : 0 < 2 ^ n := Nat.pow_pos (by decide)
  simp at this
  omega
theorem BD.le {n m H : Nat} {bs : List Am} (h : BD n m H bs) (hn : n ≤ 6) : bs.length ≤ 64 := by
  rw [h.len]
  exact two6 hn
/-! ### what is left -/
def leftB (bs : List Am) : Bool := (bs.map fun x => !decide (Z5 x)).any id
def IsLeftOk (f : List PyData → Rr) : Prop := ∀ bs : List Am, bs.length ≤ 64 → f [.list (bs.map AD)] = vB (leftB bs)
/-! ### parts -/
def halfA (x : Am) : Am := lowA (x.h + 1).toNat x.a x.b x.c x.d
def prt (o : Nat) (x y : Am) : Am := halfA (if o = 0 then plusA x y else minusA x y)
noncomputable def partB (bs : List Am) (q f s o : Nat) : List Am := List.zipWith (prt o) bs (laidB bs q f s)
def PartOfOk (f : List PyData → Rr) : Prop := ∀ (n m H q f1 s o : Nat) (bs : List Am), BD n m H bs → n ≤ 6 → f1 < 2 ^ n → m ≤ 10000000 → H ≤ 10000000 → f [.list (bs.map AD), M3 q f1 s, .int o] = .ok (.own ((partB bs q f1 s o).map AD))
/-! ### by values -/
def hf8 : Q8 := ⟨1/2, 0, 0, 0⟩
def sg8 (o : Nat) : Q8 := if o = 0 then 1 else -1
noncomputable def pj8 (q f s o : Nat) (F : Nat → Q8) (w : Nat) : Q8 := hf8 * (F w + sg8 o * mk8 q f s F w)
end PX

/-! PLK2: looks refused, settled, shares of looks. -/
namespace PX
open PySem PySem.Spec PyProof.Rows L2 SB
open Z2
/-- an even mark of so many cells -/
structure EMk (n q f s : Nat) : Prop where
  hq : q < 4
  hf : f < 2 ^ n
  hs : s < 2 ^ n
  ev : (q + pop (f &&& s)) % 2 = 0
def CheckLookOk (f : List PyData → Rr) : Prop := ∀ (n q f1 s : Nat) (bs : List Am), bs.length = 2 ^ n → EMk n q f1 s → f [.list (bs.map AD), M3 q f1 s] = .ok (.val .none)
def SettledOk (f : List PyData → Rr) : Prop := ∀ (n m H q f1 s o : Nat) (bs : List Am), BD n m H bs → n ≤ 6 → EMk n q f1 s → m ≤ 10000000 → H ≤ 10000000 → f [.list (bs.map AD), M3 q f1 s, .int o] = if leftB (partB bs q f1 s o) = true then .ok (.val (.list ((partB bs q f1 s o).map AD))) else .exc 7
/-- the share of what is left -/
def shL (ps bs : List Am) : Sh := if leftB ps = true then ovS (heftS ps) (heftS bs) else S0
/-- a size at which hefts may be divided -/
def Sm (m H : Nat) : Prop := m + m + H + H + 10 ≤ 2190
def ShareLeftOk (f : List PyData → Rr) : Prop := ∀ (n m H : Nat) (ps bs : List Am), BD n m H ps → BD n m H bs → n ≤ 6 → Sm m H → leftB bs = true → f [.list (ps.map AD), SD (heftS bs)] = .ok (.val (SD (shL ps bs)))
def LookedOk (f : List PyData → Rr) : Prop := ∀ (n m H q f1 s : Nat) (bs : List Am), BD n m H bs → n ≤ 6 → EMk n q f1 s → Sm (m + H + 1) (H + 1) → leftB bs = true → f [.list (bs.map AD), M3 q f1 s] = .ok (.val (.tuple [SD (shL (partB bs q f1 s 0) bs), SD (shL (partB bs q f1 s 1) bs)]))
/-! ### what the shares are -/
def S1 : Sh := ⟨1, 0, 1⟩
end PX

/-! PLC: marks moved by moves: what they do on boards. -/
namespace PX
open PySem PySem.Spec PyProof.Rows L2 SB
/-! ### signs -/
noncomputable def ch8 (v s : Nat) : Q8 := Q8.z ^ (4 * pop (v &&& s))
theorem ch_xl (a b s : Nat) : ch8 (a ^^^ b) s = ch8 a s * ch8 b s := by
  unfold ch8
  rw [← z_pow_add, ← Nat.mul_add]
  exact z_four_mod (by rw [pop_xl])
theorem ch_xr (v s t : Nat) : ch8 v (s ^^^ t) = ch8 v s * ch8 v t := by
  unfold ch8
  rw [← z_pow_add, ← Nat.mul_add]
  exact z_four_mod (by rw [pop_xr])
theorem ch_zero (v : Nat) : ch8 v 0 = 1 := by
  unfold ch8
  rw [Nat.and_zero, pop_zero]
  rfl
theorem ch_pow (v a : Nat) : ch8 v (2 ^ a) = if v.testBit a = true then -1 else 1 := by
  unfold ch8
  rw [and_pow]
  have z4 := Q8.z4
  split
  · rw [pop_two_pow, Nat.mul_one]
    show Q8.z ^ 4 = -1
    grind
  · rw [pop_zero]
    rfl
theorem ch_comm (v s : Nat) : ch8 v s = ch8 s v := by unfold ch8; rw [Nat.and_comm]
theorem pow_ch (s a : Nat) : ch8 (2 ^ a) s = if s.testBit a = true then -1 else 1 := by rw [ch_comm, ch_pow]
/-! ### marks moved -/
structure Tm where
  q : Nat
  f : Nat
  s : Nat
def TD (x : Tm) : PyData := M3 x.q x.f x.s
def mvM (x : Tm) : Mv → Tm
  | .flip a => ⟨(x.q + 2 * bt x.s a) % 4, x.f, x.s⟩
  | .mix a => if x.f.testBit a = x.s.testBit a then ⟨(x.q + 2 * bt x.f a) % 4, x.f, x.s⟩ else ⟨x.q, x.f ^^^ 2 ^ a, x.s ^^^ 2 ^ a⟩
  | .turn a k => ⟨(x.q + bt x.f a * (k / 2)) % 4, x.f, x.s ^^^ bt x.f a * (k / 2) % 2 * 2 ^ a⟩
  | .iff a b => ⟨x.q, x.f ^^^ bt x.f a * 2 ^ b, x.s ^^^ bt x.s b * 2 ^ a⟩
  | .pair a b => ⟨(x.q + 2 * bt x.f a * bt x.f b) % 4, x.f, x.s ^^^ (bt x.f a * 2 ^ b ||| bt x.f b * 2 ^ a)⟩
  | .swap a b => ⟨x.q, trd x.f a b, trd x.s a b⟩
  | .cross _ _ _ => x
/-- a move that tables bear -/
def Mv.borne : Mv → Prop
  | .turn _ k => k % 2 = 0
  | .cross _ _ _ => False
  | _ => True
instance (m : Mv) : Decidable m.borne := by cases m <;> unfold Mv.borne <;> infer_instance
theorem bt1 {w c : Nat} (h : w.testBit c = true) : bt w c = 1 := by rw [bt_bit, if_pos h]
theorem bt0 {w c : Nat} (h : w.testBit c = false) : bt w c = 0 := by rw [bt_bit, if_neg (by rw [h]; decide)]
end PX

/-! PLC2: the other moves; rows. -/
namespace PX
open PySem PySem.Spec PyProof.Rows L2 SB
theorem flip_ne {w a b : Nat} (h : a ≠ b) : (w ^^^ 2 ^ b).testBit a = w.testBit a := by
  rw [Nat.testBit_xor, Nat.testBit_two_pow]
  have : decide (b = a) = false := decide_eq_false (Ne.symm h)
  rw [this, Bool.xor_false]
theorem or_ne {a b : Nat} (h : a ≠ b) : 2 ^ a ||| 2 ^ b = 2 ^ a ^^^ 2 ^ b := or_xor (by rw [Nat.testBit_two_pow]; exact decide_eq_false h)
theorem bit_mul {w a b : Nat} : bt w a * 2 ^ b = if w.testBit a = true then 2 ^ b else 0 := by
  rw [bt_bit]
  split <;> simp
theorem pair_s {f a b : Nat} (h : a ≠ b) : (bt f a * 2 ^ b ||| bt f b * 2 ^ a) = (if f.testBit a = true then 2 ^ b else 0) ^^^ (if f.testBit b = true then 2 ^ a else 0) := by
  rw [bit_mul, bit_mul]
  cases f.testBit a <;> cases f.testBit b <;> simp
  rw [or_ne (Ne.symm h)]
theorem ch_if {v a : Nat} {c : Bool} : ch8 v (if c = true then 2 ^ a else 0) = if (c && v.testBit a) = true then -1 else 1 := by
  cases c
  · simp [ch_zero]
  · simp [ch_pow]
theorem if_ch {s a : Nat} {c : Bool} : ch8 (if c = true then 2 ^ a else 0) s = if (c && s.testBit a) = true then -1 else 1 := by rw [ch_comm, ch_if]
theorem x4 (w f p q : Nat) : (w ^^^ p) ^^^ f = (w ^^^ (f ^^^ q)) ^^^ (p ^^^ q) := by
  apply Nat.eq_of_testBit_eq
  intro i
  simp only [Nat.testBit_xor]
  cases w.testBit i <;> cases f.testBit i <;> cases p.testBit i <;> cases q.testBit i <;> rfl
theorem trd_xor {w a b : Nat} (h : a ≠ b) : trd w a b = w ^^^ if (w.testBit a ^^ w.testBit b) = true then 2 ^ a ^^^ 2 ^ b else 0 := by
  unfold trd
  rw [or_ne h]
  cases w.testBit a <;> cases w.testBit b <;> simp
theorem trd_back {f a b : Nat} (h : a ≠ b) : trd (trd f a b) a b = f := by
  rw [trd_xor (w := trd f a b) h]
  have e : ((trd f a b).testBit a ^^ (trd f a b).testBit b) = (f.testBit a ^^ f.testBit b) := by
    rw [trd_xor h]
    cases q : (f.testBit a ^^ f.testBit b)
    · simp only [Bool.false_eq_true, if_false, Nat.xor_zero]
      exact q
    · simp only [if_true]
      have e1 : (f ^^^ (2 ^ a ^^^ 2 ^ b)).testBit a = !f.testBit a := by rw [← Nat.xor_assoc, flip_ne h, bit_flip]
      have e2 : (f ^^^ (2 ^ a ^^^ 2 ^ b)).testBit b = !f.testBit b := by rw [← Nat.xor_assoc, bit_flip, flip_ne (Ne.symm h)]
      rw [e1, e2]
      revert q
      cases f.testBit a <;> cases f.testBit b <;> simp
  rw [e, trd_xor h, Nat.xor_assoc, Nat.xor_self, Nat.xor_zero]
theorem ch_P {e : Bool} {a b s : Nat} : ch8 (if e = true then 2 ^ a ^^^ 2 ^ b else 0) s = if (e && (s.testBit a ^^ s.testBit b)) = true then -1 else 1 := by
  cases e
  · rw [ch_comm]
    simp [ch_zero]
  · rw [if_pos rfl, ch_xl, pow_ch, pow_ch]
    cases s.testBit a <;> cases s.testBit b <;> simp <;> grind
theorem ch_trd {u s a b : Nat} (h : a ≠ b) : ch8 (trd u a b) s = ch8 u (trd s a b) := by
  rw [trd_xor h, trd_xor h, ch_xl, ch_P, ch_xr, ch_comm u (if (s.testBit a ^^ s.testBit b) = true then 2 ^ a ^^^ 2 ^ b else 0), ch_P, Bool.and_comm]
def mvR (x : Tm) : List Mv → Tm
  | [] => x
  | m :: ms => mvR (mvM x m) ms
def Borne (n : Nat) (ms : List Mv) : Prop := ∀ m ∈ ms, m.ok n ∧ m.borne
/-! ### bounds, evenness -/
structure Tm.lt (n : Nat) (x : Tm) : Prop where
  q : x.q < 4
  f : x.f < 2 ^ n
  s : x.s < 2 ^ n
theorem if_lt {n a : Nat} {c : Bool} (h : a < n) : (if c = true then 2 ^ a else 0) < 2 ^ n := by
  split
  · exact Nat.pow_lt_pow_right (by decide) h
  · exact Nat.pow_pos (by decide)
theorem mvM_lt {n : Nat} {x : Tm} {m : Mv} (h : x.lt n) (ok : m.ok n) : (mvM x m).lt n := by
  have m4 : ∀ z : Nat, z % 4 < 4 := fun z => Nat.mod_lt _ (by decide)
  have pw : ∀ {a : Nat}, a < n → 2 ^ a < 2 ^ n := fun h => Nat.pow_lt_pow_right (by decide) h
  cases m with
  | flip a => exact ⟨m4 _, h.f, h.s⟩
  | mix a =>
    unfold mvM
    dsimp only
    split
    · exact ⟨m4 _, h.f, h.s⟩
    · exact ⟨h.q, Nat.xor_lt_two_pow h.f (pw ok), Nat.xor_lt_two_pow h.s (pw ok)⟩
  | turn a k =>
    refine ⟨m4 _, h.f, Nat.xor_lt_two_pow h.s ?_⟩
    rcases Nat.mod_two_eq_zero_or_one (bt x.f a * (k / 2)) with e | e <;> rw [e]
    · rw [Nat.zero_mul]; exact Nat.pow_pos (by decide)
    · rw [Nat.one_mul]; exact pw ok.1
  | iff a b =>
    unfold mvM
    dsimp only
    rw [bit_mul, bit_mul]
    exact ⟨h.q, Nat.xor_lt_two_pow h.f (if_lt ok.2.1), Nat.xor_lt_two_pow h.s (if_lt ok.1)⟩
  | pair a b =>
    unfold mvM
    dsimp only
    rw [pair_s ok.2.2]
    exact ⟨m4 _, h.f, Nat.xor_lt_two_pow h.s (Nat.xor_lt_two_pow (if_lt ok.2.1) (if_lt ok.1))⟩
  | swap a b => exact ⟨h.q, trd_lt h.f ok.1 ok.2.1, trd_lt h.s ok.1 ok.2.1⟩
  | cross a b c => exact h
theorem mvR_lt {n : Nat} : ∀ (ms : List Mv) {x : Tm}, x.lt n → (∀ m ∈ ms, m.ok n) → (mvR x ms).lt n
  | [], x, h, _ => h
  | m :: ms, x, h, ok => mvR_lt ms (mvM_lt h (ok m List.mem_cons_self)) fun k hk => ok k (List.mem_cons_of_mem _ hk)
theorem one_ne_neg : (1 : Q8) ≠ -1 := fun h => by
  have := congrArg Q8.a h
  exact absurd this (by decide)
theorem ch_par {v s v' s' : Nat} (h : ch8 v s = ch8 v' s') : pop (v &&& s) % 2 = pop (v' &&& s') % 2 := by
  unfold ch8 at h
  rw [z_four, z_four] at h
  rcases Nat.mod_two_eq_zero_or_one (pop (v &&& s)) with a | a <;> rcases Nat.mod_two_eq_zero_or_one (pop (v' &&& s')) with b | b <;> rw [a, b] at h ⊢ <;> simp at h
  · exact absurd h one_ne_neg
  · exact absurd h.symm one_ne_neg
/-- how even a mark is -/
noncomputable def Tm.par (x : Tm) : Nat := (x.q + pop (x.f &&& x.s)) % 2
theorem mvM_par {n : Nat} {x : Tm} {m : Mv} (ok : m.ok n) : (mvM x m).par = x.par := by
  cases m with
  | flip a =>
    show ((x.q + 2 * bt x.s a) % 4 + pop (x.f &&& x.s)) % 2 = (x.q + pop (x.f &&& x.s)) % 2
    omega
  | mix a =>
    unfold mvM
    dsimp only
    split
    · show ((x.q + 2 * bt x.f a) % 4 + pop (x.f &&& x.s)) % 2 = (x.q + pop (x.f &&& x.s)) % 2
      omega
    · rename_i h
      show (x.q + pop ((x.f ^^^ 2 ^ a) &&& (x.s ^^^ 2 ^ a))) % 2 = (x.q + pop (x.f &&& x.s)) % 2
      have e : ch8 (x.f ^^^ 2 ^ a) (x.s ^^^ 2 ^ a) = ch8 x.f x.s := by
        rw [ch_xl, ch_xr, ch_xr, ch_pow, pow_ch, ch_pow, Nat.testBit_two_pow_self]
        revert h
        cases x.f.testBit a <;> cases x.s.testBit a <;> simp <;> grind
      have := ch_par e
      omega
  | turn a k =>
    show ((x.q + bt x.f a * (k / 2)) % 4 + pop (x.f &&& (x.s ^^^ bt x.f a * (k / 2) % 2 * 2 ^ a))) % 2 = (x.q + pop (x.f &&& x.s)) % 2
    have px := pop_xr x.f x.s (bt x.f a * (k / 2) % 2 * 2 ^ a)
    rw [bt_bit] at px ⊢
    cases hf : x.f.testBit a
    · simp only [hf, Bool.false_eq_true, if_false, Nat.zero_mul, Nat.zero_mod, Nat.and_zero, pop_zero] at px ⊢
      omega
    · simp only [hf, if_true, Nat.one_mul] at px ⊢
      rcases Nat.mod_two_eq_zero_or_one (k / 2) with e | e <;> rw [e] at px ⊢
      · simp only [Nat.zero_mul, Nat.and_zero, pop_zero] at px ⊢
        omega
      · rw [Nat.one_mul] at px ⊢
        rw [and_pow, if_pos hf, pop_two_pow] at px
        omega
  | iff a b =>
    unfold mvM Tm.par
    dsimp only
    rw [bit_mul, bit_mul]
    have e : ch8 (x.f ^^^ if x.f.testBit a = true then 2 ^ b else 0) (x.s ^^^ if x.s.testBit b = true then 2 ^ a else 0) = ch8 x.f x.s := by
      have z : ch8 (if x.f.testBit a = true then 2 ^ b else 0) (if x.s.testBit b = true then 2 ^ a else 0) = 1 := by
        rw [if_ch]
        have : (if x.s.testBit b = true then 2 ^ a else 0).testBit b = false := by
          split
          · rw [Nat.testBit_two_pow]; exact decide_eq_false ok.2.2
          · exact Nat.zero_testBit b
        rw [this, Bool.and_false]
        rfl
      rw [ch_xl, ch_xr, ch_xr, z, ch_if, if_ch, Bool.and_comm]
      split <;> grind
    have := ch_par e
    omega
  | pair a b =>
    unfold mvM Tm.par
    dsimp only
    rw [pair_s ok.2.2]
    have e : ch8 x.f (x.s ^^^ ((if x.f.testBit a = true then 2 ^ b else 0) ^^^ (if x.f.testBit b = true then 2 ^ a else 0))) = ch8 x.f x.s := by
      rw [ch_xr, ch_xr, ch_if, ch_if, Bool.and_comm]
      split <;> grind
    have := ch_par e
    have e2 : 2 * bt x.f a * bt x.f b = 2 * (bt x.f a * bt x.f b) := Nat.mul_assoc ..
    rw [e2]
    generalize bt x.f a * bt x.f b = t
    omega
  | swap a b =>
    unfold mvM Tm.par
    dsimp only
    have e : ch8 (trd x.f a b) (trd x.s a b) = ch8 x.f x.s := by rw [ch_trd ok.2.2, trd_back ok.2.2]
    have := ch_par e
    omega
  | cross a b c => rfl
theorem mvR_par {n : Nat} : ∀ (ms : List Mv) {x : Tm}, (∀ m ∈ ms, m.ok n) → (mvR x ms).par = x.par
  | [], x, _ => rfl
  | m :: ms, x, ok => (mvR_par ms fun k hk => ok k (List.mem_cons_of_mem _ hk)).trans (mvM_par (ok m List.mem_cons_self))
/-! ### boards -/
noncomputable def layT (bs : List Am) (x : Tm) : List Am := laidB bs x.q x.f x.s
end PX

/-! PLC3: what the defs of marks behind moves tell. -/
namespace PX
open PySem PySem.Spec PyProof.Rows L2 SB
def AtCellOk (f : List PyData → Rr) : Prop := ∀ w c : Nat, f [.int w, .int c] = vI (bt w c : Nat)
def CellsChangedOk (f : List PyData → Rr) : Prop := ∀ w a b : Nat, a ≤ 100 → b ≤ 100 → f [.int w, .int a, .int b] = vI (trd w a b : Nat)
/-! ### one move -/
def MixedOk (f : List PyData → Rr) : Prop := ∀ (x : Tm) (a : Nat), a ≤ 100 → f [TD x, .int a] = .ok (.val (TD (mvM x (.mix a))))
def TwistedOk (f : List PyData → Rr) : Prop := ∀ (x : Tm) (a k : Nat), a ≤ 100 → k ≤ 7 → f [TD x, .int a, .int (k / 2 : Nat)] = .ok (.val (TD (mvM x (.turn a k))))
def ByTwoOk (f : List PyData → Rr) : Prop := ∀ (x : Tm) (m : Mv), (∃ a b : Nat, a ≤ 100 ∧ b ≤ 100 ∧ (m = .iff a b ∨ m = .pair a b ∨ m = .swap a b)) → f [TD x, mvD m] = .ok (.val (TD (mvM x m)))
def MovedOnceOk (f : List PyData → Rr) : Prop := ∀ (n : Nat) (x : Tm) (m : Mv), n ≤ 100 → m.ok n → m.borne → f [TD x, mvD m] = .ok (.val (TD (mvM x m)))
/-! ### rows -/
/-- the first move that tables do not bear -/
def brnI : List Mv → Nat → Option Nat
  | [], _ => none
  | m :: ms, i => if m.borne then brnI ms (i + 1) else some i
def noneI : Option Nat → PyData
  | none => .none
  | some i => .int (i : Int)
def BorneOk (f : List PyData → Rr) : Prop := ∀ ms : List Mv, f [rowD ms] = .ok (.val (noneI (brnI ms 0)))
def MovedMarkOk (f : List PyData → Rr) : Prop := ∀ (n : Nat) (x : Tm) (ms : List Mv), n ≤ 100 → (∀ m ∈ ms, m.ok n) → f [TD x, rowD ms] = match brnI ms 0 with
  | none => .ok (.val (TD (mvR x ms)))
  | some i => .exc (10 + 16 * (i + 1))
def MovedRowsOk (f : List PyData → Rr) : Prop := ∀ (n : Nat) (xs : List Tm) (ms : List Mv), n ≤ 100 → xs.length < 1000 → (∀ m ∈ ms, m.ok n) → f [.list (xs.map TD), rowD ms] = match brnI ms 0 with
  | none => .ok (.own ((xs.map fun x => mvR x ms).map TD))
  | some i => .exc (10 + 16 * (i + 1))
end PX

/-! PLC4: what moves keep of two marks; the way back. -/
namespace PX
open PySem PySem.Spec PyProof.Rows L2 SB
abbrev TM : Type := PX.Tm
/-- 1 where two marks commute, else -1 -/
noncomputable def sp (x y : PX.Tm) : Q8 := ch8 x.f y.s * ch8 x.s y.f
theorem mix_f {x : PX.Tm} {a : Nat} : (mvM x (.mix a)).f = x.f ^^^ (if (x.f.testBit a ^^ x.s.testBit a) = true then 2 ^ a else 0) ∧ (mvM x (.mix a)).s = x.s ^^^ (if (x.f.testBit a ^^ x.s.testBit a) = true then 2 ^ a else 0) := by
  unfold mvM
  dsimp only
  cases hf : x.f.testBit a <;> cases hs : x.s.testBit a <;> simp
theorem if_bit {a : Nat} {c : Bool} : (if c = true then 2 ^ a else 0).testBit a = c := by
  cases c
  · simp
  · rw [if_pos rfl, Nat.testBit_two_pow_self]
theorem turn_s {x : PX.Tm} {a k : Nat} : (mvM x (.turn a k)).s = x.s ^^^ (if (x.f.testBit a && decide (k / 2 % 2 = 1)) = true then 2 ^ a else 0) := by
  show x.s ^^^ bt x.f a * (k / 2) % 2 * 2 ^ a = _
  rw [bt_bit]
  cases x.f.testBit a
  · simp
  · simp only [if_true, Nat.one_mul, Bool.true_and, decide_eq_true_eq]
    rcases Nat.mod_two_eq_zero_or_one (k / 2) with e | e <;> rw [e] <;> simp
theorem sp_mv {n : Nat} {x y : PX.Tm} {m : Mv} (ok : m.ok n) : sp (mvM x m) (mvM y m) = sp x y := by
  cases m with
  | flip a => rfl
  | mix a =>
    unfold sp
    rw [mix_f.1, mix_f.2, mix_f.1, mix_f.2]
    rw [ch_xl, ch_xr, ch_xr, ch_xl, ch_xr, ch_xr, ch_if, if_ch, if_ch, if_bit, ch_if, if_ch]
    cases x.f.testBit a <;> cases x.s.testBit a <;> cases y.f.testBit a <;> cases y.s.testBit a <;> simp <;> grind
  | turn a k =>
    unfold sp
    rw [turn_s, turn_s]
    show ch8 x.f _ * ch8 _ y.f = _
    rw [ch_xr, ch_xl, ch_if, if_ch]
    cases x.f.testBit a <;> cases y.f.testBit a <;> cases decide (k / 2 % 2 = 1) <;> simp <;> grind
  | iff a b =>
    have e : ∀ f s : Nat, ch8 (f ^^^ if f.testBit a = true then 2 ^ b else 0) (s ^^^ if s.testBit b = true then 2 ^ a else 0) = ch8 f s := fun f s => by
      have z : ch8 (if f.testBit a = true then 2 ^ b else 0) (if s.testBit b = true then 2 ^ a else 0) = 1 := by
        rw [if_ch]
        have : (if s.testBit b = true then 2 ^ a else 0).testBit b = false := by
          split
          · rw [Nat.testBit_two_pow]; exact decide_eq_false ok.2.2
          · exact Nat.zero_testBit b
        rw [this, Bool.and_false]
        rfl
      rw [ch_xl, ch_xr, ch_xr, z, ch_if, if_ch, Bool.and_comm]
      split <;> grind
    unfold sp mvM
    dsimp only
    rw [bit_mul, bit_mul, bit_mul, bit_mul, e, ch_comm (x.s ^^^ _), e, ch_comm y.f]
  | pair a b =>
    unfold sp mvM
    dsimp only
    rw [pair_s ok.2.2, pair_s ok.2.2, ch_xr, ch_xr, ch_if, ch_if, ch_xl, ch_xl, if_ch, if_ch]
    cases x.f.testBit a <;> cases x.f.testBit b <;> cases y.f.testBit a <;> cases y.f.testBit b <;> simp <;> grind
  | swap a b =>
    unfold sp mvM
    dsimp only
    rw [ch_trd ok.2.2, trd_back ok.2.2, ch_trd ok.2.2, trd_back ok.2.2]
  | cross a b c => rfl
theorem sp_mvR {n : Nat} : ∀ (ms : List Mv) (x y : PX.Tm), (∀ m ∈ ms, m.ok n) → sp (mvR x ms) (mvR y ms) = sp x y
  | [], x, y, _ => rfl
  | m :: ms, x, y, ok => (sp_mvR ms (mvM x m) (mvM y m) fun k hk => ok k (List.mem_cons_of_mem _ hk)).trans (sp_mv (ok m List.mem_cons_self))
theorem tm_ext {x y : PX.Tm} (h1 : x.q = y.q) (h2 : x.f = y.f) (h3 : x.s = y.s) : x = y := by
  cases x; cases y
  simp at h1 h2 h3
  simp [h1, h2, h3]
/-- a move and its back move -/
theorem mvM_back {n : Nat} {x : PX.Tm} {m : Mv} (ok : m.ok n) (hb : m.borne) (hx : x.lt n) : mvM (mvM x m) (backM m) = x := by
  have hq := hx.q
  cases m with
  | flip a =>
    refine tm_ext ?_ rfl rfl
    show ((x.q + 2 * bt x.s a) % 4 + 2 * bt x.s a) % 4 = x.q
    omega
  | mix a =>
    show mvM (mvM x (.mix a)) (.mix a) = x
    by_cases h : x.f.testBit a = x.s.testBit a
    · have e : mvM x (.mix a) = ⟨(x.q + 2 * bt x.f a) % 4, x.f, x.s⟩ := by unfold mvM; dsimp only; rw [if_pos h]
      rw [e]
      unfold mvM
      dsimp only
      rw [if_pos h]
      refine tm_ext ?_ rfl rfl
      show ((x.q + 2 * bt x.f a) % 4 + 2 * bt x.f a) % 4 = x.q
      omega
    · have e : mvM x (.mix a) = ⟨x.q, x.f ^^^ 2 ^ a, x.s ^^^ 2 ^ a⟩ := by unfold mvM; dsimp only; rw [if_neg h]
      rw [e]
      unfold mvM
      dsimp only
      rw [if_neg (by rw [bit_flip, bit_flip]; revert h; cases x.f.testBit a <;> cases x.s.testBit a <;> simp)]
      exact tm_ext rfl (xor_cancel _ _) (xor_cancel _ _)
  | turn a k =>
    have hk : k % 2 = 0 := hb
    have h7 := ok.2.2
    have e : (8 - k) / 2 = 4 - k / 2 := by omega
    show mvM (mvM x (.turn a k)) (.turn a (8 - k)) = x
    refine tm_ext ?_ rfl ?_
    · show ((x.q + bt x.f a * (k / 2)) % 4 + bt x.f a * ((8 - k) / 2)) % 4 = x.q
      rw [e, bt_bit]
      cases x.f.testBit a
      · simp; omega
      · simp; omega
    · rw [turn_s]
      show (mvM x (.turn a k)).s ^^^ (if (x.f.testBit a && decide ((8 - k) / 2 % 2 = 1)) = true then 2 ^ a else 0) = x.s
      rw [turn_s, e, show (4 - k / 2) % 2 = k / 2 % 2 by omega, Nat.xor_assoc, Nat.xor_self, Nat.xor_zero]
  | iff a b =>
    show mvM (mvM x (.iff a b)) (.iff a b) = x
    unfold mvM
    dsimp only
    rw [bit_mul, bit_mul, bit_mul, bit_mul]
    refine tm_ext rfl ?_ ?_
    · dsimp only
      have e : (x.f ^^^ if x.f.testBit a = true then 2 ^ b else 0).testBit a = x.f.testBit a := by
        split
        · exact flip_ne ok.2.2
        · rw [Nat.xor_zero]
      rw [e, Nat.xor_assoc, Nat.xor_self, Nat.xor_zero]
    · dsimp only
      have e : (x.s ^^^ if x.s.testBit b = true then 2 ^ a else 0).testBit b = x.s.testBit b := by
        split
        · exact flip_ne (Ne.symm ok.2.2)
        · rw [Nat.xor_zero]
      rw [e, Nat.xor_assoc, Nat.xor_self, Nat.xor_zero]
  | pair a b =>
    show mvM (mvM x (.pair a b)) (.pair a b) = x
    unfold mvM
    dsimp only
    refine tm_ext ?_ rfl ?_
    · dsimp only
      have e2 : 2 * bt x.f a * bt x.f b = 2 * (bt x.f a * bt x.f b) := Nat.mul_assoc ..
      rw [e2]
      generalize bt x.f a * bt x.f b = t
      omega
    · dsimp only
      rw [Nat.xor_assoc, Nat.xor_self, Nat.xor_zero]
  | swap a b => exact tm_ext rfl (trd_back ok.2.2) (trd_back ok.2.2)
  | cross a b c => exact False.elim hb
end PX

/-! PLC5: steps that make of two marks the flip and the sign of a cell. -/
namespace PX
open PySem PySem.Spec PyProof.Rows L2 SB
theorem mvR_cut : ∀ (a b : List Mv) (x : PX.Tm), mvR x (a ++ b) = mvR (mvR x a) b
  | [], b, x => rfl
  | m :: a, b, x => mvR_cut a b (mvM x m)
/-! ### bits behind a move -/
theorem mix_fb {x : PX.Tm} {a i : Nat} : (mvM x (.mix a)).f.testBit i = (x.f.testBit i ^^ (decide (a = i) && (x.f.testBit a ^^ x.s.testBit a))) := by
  rw [mix_f.1, Nat.testBit_xor]
  congr 1
  cases h : (x.f.testBit a ^^ x.s.testBit a) <;> simp [Nat.testBit_two_pow]
theorem mix_sb {x : PX.Tm} {a i : Nat} : (mvM x (.mix a)).s.testBit i = (x.s.testBit i ^^ (decide (a = i) && (x.f.testBit a ^^ x.s.testBit a))) := by
  rw [mix_f.2, Nat.testBit_xor]
  congr 1
  cases h : (x.f.testBit a ^^ x.s.testBit a) <;> simp [Nat.testBit_two_pow]
theorem turn_sb {x : PX.Tm} {a k i : Nat} : (mvM x (.turn a k)).s.testBit i = (x.s.testBit i ^^ (decide (a = i) && (x.f.testBit a && decide (k / 2 % 2 = 1)))) := by
  rw [turn_s, Nat.testBit_xor]
  congr 1
  cases h : (x.f.testBit a && decide (k / 2 % 2 = 1)) <;> simp [Nat.testBit_two_pow]
theorem iff_fb {x : PX.Tm} {a b i : Nat} : (mvM x (.iff a b)).f.testBit i = (x.f.testBit i ^^ (decide (b = i) && x.f.testBit a)) := by
  show (x.f ^^^ bt x.f a * 2 ^ b).testBit i = _
  rw [bit_mul, Nat.testBit_xor]
  congr 1
  cases h : x.f.testBit a <;> simp [Nat.testBit_two_pow]
theorem iff_sb {x : PX.Tm} {a b i : Nat} : (mvM x (.iff a b)).s.testBit i = (x.s.testBit i ^^ (decide (a = i) && x.s.testBit b)) := by
  show (x.s ^^^ bt x.s b * 2 ^ a).testBit i = _
  rw [bit_mul, Nat.testBit_xor]
  congr 1
  cases h : x.s.testBit b <;> simp [Nat.testBit_two_pow]
theorem trd_b {w a b i : Nat} (h : a ≠ b) : (trd w a b).testBit i = (w.testBit i ^^ ((decide (a = i) ^^ decide (b = i)) && (w.testBit a ^^ w.testBit b))) := by
  rw [trd_xor h, Nat.testBit_xor]
  congr 1
  cases h : (w.testBit a ^^ w.testBit b) <;> simp [Nat.testBit_two_pow, Nat.testBit_xor]
/-! ### moves at cells from one on -/
def MvGe (c : Nat) : Mv → Prop
  | .flip a => c ≤ a
  | .mix a => c ≤ a
  | .turn a _ => c ≤ a
  | .iff a b => c ≤ a ∧ c ≤ b
  | .swap a b => c ≤ a ∧ c ≤ b
  | .pair _ _ => False
  | .cross _ _ _ => False
/-- a mark has nothing ahead of a cell -/
def UpC (c : Nat) (x : PX.Tm) : Prop := ∀ i, i < c → x.f.testBit i = false ∧ x.s.testBit i = false
/-- a mark has nothing at a cell or behind it -/
def Dn (c : Nat) (x : PX.Tm) : Prop := x.q < 4 ∧ ∀ i, c ≤ i → x.f.testBit i = false ∧ x.s.testBit i = false
theorem mvM_dn {c n : Nat} {x : PX.Tm} {m : Mv} (ok : m.ok n) (h : MvGe c m) (hx : Dn c x) : mvM x m = x := by
  obtain ⟨hq, hb⟩ := hx
  cases m with
  | flip a =>
    refine tm_ext ?_ rfl rfl
    show (x.q + 2 * bt x.s a) % 4 = x.q
    rw [bt0 (hb a h).2]
    omega
  | mix a =>
    unfold mvM
    dsimp only
    rw [if_pos (by rw [(hb a h).1, (hb a h).2]), bt0 (hb a h).1]
    refine tm_ext ?_ rfl rfl
    show (x.q + 2 * 0) % 4 = x.q
    omega
  | turn a k =>
    unfold mvM
    dsimp only
    rw [bt0 (hb a h).1]
    refine tm_ext ?_ rfl ?_
    · show (x.q + 0 * (k / 2)) % 4 = x.q
      rw [Nat.zero_mul]
      omega
    · show x.s ^^^ 0 * (k / 2) % 2 * 2 ^ a = x.s
      rw [Nat.zero_mul, Nat.zero_mod, Nat.zero_mul, Nat.xor_zero]
  | iff a b =>
    unfold mvM
    dsimp only
    rw [bt0 (hb a h.1).1, bt0 (hb b h.2).2, Nat.zero_mul, Nat.zero_mul, Nat.xor_zero, Nat.xor_zero]
  | swap a b =>
    unfold mvM trd
    dsimp only
    rw [if_pos (by rw [(hb a h.1).1, (hb b h.2).1]), if_pos (by rw [(hb a h.1).2, (hb b h.2).2])]
  | pair a b => exact False.elim h
  | cross a b d => exact False.elim h
theorem mvR_dn {c n : Nat} : ∀ (ms : List Mv) {x : PX.Tm}, (∀ m ∈ ms, m.ok n ∧ MvGe c m) → Dn c x → mvR x ms = x
  | [], x, _, h => rfl
  | m :: ms, x, ok, h => by
    have e := mvM_dn (ok m List.mem_cons_self).1 (ok m List.mem_cons_self).2 h
    show mvR (mvM x m) ms = x
    rw [e]
    exact mvR_dn ms (fun k hk => ok k (List.mem_cons_of_mem _ hk)) h
/-! ### the first steps: no sign is left where a mark has any -/
def ps1 (x : PX.Tm) (i : Nat) : List Mv := if x.s.testBit i = true then (if x.f.testBit i = true then [.turn i 2] else [.mix i]) else []
def pass1 (x : PX.Tm) (t : List Nat) : List Mv := (t.map (ps1 x)).flatten
end PX

/-! PLC6: a row made of images. -/
namespace PX
open PySem PySem.Spec PyProof.Rows L2 SB
def tch (x : PX.Tm) (c n : Nat) : List Nat := (List.range' c (n - c)).filter fun i => (x.f ||| x.s).testBit i
theorem tch_mem {x : PX.Tm} {c n i : Nat} : i ∈ tch x c n ↔ c ≤ i ∧ i < n ∧ (x.f.testBit i || x.s.testBit i) = true := by
  unfold tch
  rw [List.mem_filter, List.mem_range'_1, Nat.testBit_or]
  constructor
  · rintro ⟨⟨h1, h2⟩, h3⟩; exact ⟨h1, by omega, h3⟩
  · rintro ⟨h1, h2, h3⟩; exact ⟨⟨h1, by omega⟩, h3⟩
theorem tch_pw {x : PX.Tm} {c n : Nat} : (tch x c n).Pairwise (· < ·) := List.Pairwise.filter _ (List.pairwise_lt_range')
theorem tch_nd {x : PX.Tm} {c n : Nat} : (tch x c n).Nodup := tch_pw.imp Nat.ne_of_lt
theorem tch_len {x : PX.Tm} {c n : Nat} : (tch x c n).length ≤ n - c := Nat.le_trans (List.length_filter_le _ _) (by rw [List.length_range']; exact Nat.le_refl _)
def stF2 (c : Nat) : List Nat → List Mv
  | [] => []
  | h :: r => (if h = c then [] else [.swap c h]) ++ r.map (Mv.iff c)
def stF (x : PX.Tm) (c n : Nat) : List Mv := pass1 x (tch x c n) ++ stF2 c (tch x c n)
/-- what the steps are -/
def SOk (c n : Nat) (ms : List Mv) : Prop := ∀ m ∈ ms, (m.ok n ∧ MvGe c m) ∧ m.borne
theorem SOk.app {c n : Nat} {a b : List Mv} (ha : SOk c n a) (hb : SOk c n b) : SOk c n (a ++ b) := fun m hm => (List.mem_append.1 hm).elim (ha m) (hb m)
theorem SOk.nil {c n : Nat} : SOk c n [] := fun m hm => nomatch hm
theorem SOk.one {c n : Nat} {m : Mv} (h : (m.ok n ∧ MvGe c m) ∧ m.borne) : SOk c n [m] := fun k hk => by
  rw [List.mem_singleton.1 hk]
  exact h
theorem hi_bit {w n i : Nat} (h : w < 2 ^ n) (hi : n ≤ i) : w.testBit i = false := Nat.testBit_lt_two_pow (Nat.lt_of_lt_of_le h (Nat.pow_le_pow_right (by decide) hi))
theorem bit_pow {c j : Nat} : (2 ^ c).testBit j = decide (c = j) := Nat.testBit_two_pow
end PX

/-! PLC7: the steps of a cell; rows made of images. -/
namespace PX
open PySem PySem.Spec PyProof.Rows L2 SB
noncomputable def stP1 (x : PX.Tm) (c n : Nat) : List Mv := stF x c n ++ [.mix c]
noncomputable def stP2 (x y : PX.Tm) (c n : Nat) : List Mv := (stP1 x c n ++ stF (mvR y (stP1 x c n)) c n) ++ [.mix c]
noncomputable def stP3 (x y : PX.Tm) (c n : Nat) : List Mv := stP2 x y c n ++ (if (mvR x (stP2 x y c n)).q = 2 then [.turn c 4] else [])
noncomputable def stP (x y : PX.Tm) (c n : Nat) : List Mv := stP3 x y c n ++ (if (mvR y (stP3 x y c n)).q = 2 then [.flip c] else [])
theorem SOk.ok {c n : Nat} {ms : List Mv} (h : SOk c n ms) : ∀ m ∈ ms, m.ok n := fun m hm => (h m hm).1.1
theorem SOk.ge {c n : Nat} {ms : List Mv} (h : SOk c n ms) : ∀ m ∈ ms, m.ok n ∧ MvGe c m := fun m hm => (h m hm).1
theorem SOk.bo {c n : Nat} {ms : List Mv} (h : SOk c n ms) : Borne n ms := fun m hm => ⟨(h m hm).1.1, (h m hm).2⟩
theorem even_02 {q : Nat} (h : q < 4) (p : q % 2 = 0) : q = 0 ∨ q = 2 := by omega
theorem par_flip {q c : Nat} : (PX.Tm.mk q (2 ^ c) 0).par = q % 2 := by
  show (q + pop (2 ^ c &&& 0)) % 2 = _
  rw [Nat.and_zero, pop_zero]
  rfl
theorem par_sign {q c : Nat} : (PX.Tm.mk q 0 (2 ^ c)).par = q % 2 := by
  show (q + pop (0 &&& 2 ^ c)) % 2 = _
  rw [Nat.zero_and, pop_zero]
  rfl
theorem flip_sign {q c : Nat} : mvM ⟨q, 0, 2 ^ c⟩ (.flip c) = ⟨(q + 2) % 4, 0, 2 ^ c⟩ := by
  unfold mvM
  dsimp only
  rw [bt1 (Nat.testBit_two_pow_self)]
end PX

/-! PLC8: the row that a list of images has. -/
namespace PX
open PySem PySem.Spec PyProof.Rows L2 SB
/-- flips and signs of the cells in turn -/
def bsc (k : Nat) : PX.Tm := if k % 2 = 1 then ⟨0, 0, 2 ^ (k / 2)⟩ else ⟨0, 2 ^ (k / 2), 0⟩
theorem bsc_lt {n k : Nat} (h : k < 2 * n) : (bsc k).lt n := by
  have p : 2 ^ (k / 2) < 2 ^ n := Nat.pow_lt_pow_right (by decide) (by omega)
  have z : 0 < 2 ^ n := Nat.pow_pos (by decide)
  unfold bsc
  split
  · exact ⟨Nat.zero_lt_succ 3, z, p⟩
  · exact ⟨Nat.zero_lt_succ 3, p, z⟩
theorem bsc_par (k : Nat) : (bsc k).par = 0 := by
  unfold bsc
  split
  · exact par_sign
  · exact par_flip
theorem sp_comm (x y : PX.Tm) : sp x y = sp y x := by
  unfold sp
  rw [ch_comm x.f, ch_comm x.s]
  grind
/-- even marks that commute as the flips and signs at their places do -/
structure Gm (n : Nat) (g : Nat → PX.Tm) : Prop where
  lt : ∀ k, k < 2 * n → (g k).lt n
  par : ∀ k, k < 2 * n → (g k).par = 0
  sp : ∀ j k, j < 2 * n → k < 2 * n → PX.sp (g j) (g k) = PX.sp (bsc j) (bsc k)
theorem Gm.mv {n : Nat} {g : Nat → PX.Tm} (h : Gm n g) {ms : List Mv} (ok : ∀ m ∈ ms, m.ok n) : Gm n fun i => mvR (g i) ms :=
  ⟨fun k hk => mvR_lt ms (h.lt k hk) ok, fun k hk => (mvR_par ms ok).trans (h.par k hk), fun j k hj hk => (sp_mvR ms _ _ ok).trans (h.sp j k hj hk)⟩
noncomputable def rb (n : Nat) : Nat → Nat → (Nat → PX.Tm) → List Mv
  | 0, _, _ => []
  | k + 1, c, g => stP (g (2 * c)) (g (2 * c + 1)) c n ++ rb n k (c + 1) fun i => mvR (g i) (stP (g (2 * c)) (g (2 * c + 1)) c n)
theorem SOk.low {c d n : Nat} {ms : List Mv} (h : d ≤ c) (o : SOk c n ms) : SOk d n ms := fun m hm => by
  obtain ⟨⟨h1, h2⟩, h3⟩ := o m hm
  refine ⟨⟨h1, ?_⟩, h3⟩
  cases m with
  | flip a => exact Nat.le_trans h h2
  | mix a => exact Nat.le_trans h h2
  | turn a k => exact Nat.le_trans h h2
  | iff a b => exact ⟨Nat.le_trans h h2.1, Nat.le_trans h h2.2⟩
  | swap a b => exact ⟨Nat.le_trans h h2.1, Nat.le_trans h h2.2⟩
  | pair a b => exact False.elim h2
  | cross a b c => exact False.elim h2
theorem mvR_back {n : Nat} : ∀ (ms : List Mv) (x : PX.Tm), x.lt n → Borne n ms → mvR (mvR x ms) (backR ms) = x
  | [], x, _, _ => rfl
  | m :: ms, x, hx, h => by
    obtain ⟨h1, h2⟩ := h m List.mem_cons_self
    have e : backR (m :: ms) = backR ms ++ [backM m] := by
      unfold backR
      rw [List.map_cons, List.reverse_cons]
    rw [e, mvR_cut]
    show mvM (mvR (mvR (mvM x m) ms) (backR ms)) (backM m) = x
    rw [mvR_back ms (mvM x m) (mvM_lt hx h1) fun k hk => h k (List.mem_cons_of_mem _ hk)]
    exact mvM_back h1 h2 hx
/-- the row that a list of images has -/
noncomputable def rbR (n : Nat) (g : Nat → PX.Tm) : List Mv := backR (rb n n 0 g)
end PX

/-! PLTA: what marks span, but for spins; marks of which none is spanned by others. -/
namespace PX
open PySem PySem.Spec PyProof.Rows L2 SB
def xr (x y : Tm) : Tm := ⟨0, x.f ^^^ y.f, x.s ^^^ y.s⟩
def eqv (x y : Tm) : Prop := x.f = y.f ∧ x.s = y.s
theorem eqv.xr {x y a b : Tm} (h : eqv x y) (k : eqv a b) : eqv (PX.xr x a) (PX.xr y b) := ⟨by show x.f ^^^ a.f = y.f ^^^ b.f; rw [h.1, k.1], by show x.s ^^^ a.s = y.s ^^^ b.s; rw [h.2, k.2]⟩
theorem eqv.rfl {x : Tm} : eqv x x := ⟨Eq.refl _, Eq.refl _⟩
theorem eqv.symm {x y : Tm} (h : eqv x y) : eqv y x := ⟨h.1.symm, h.2.symm⟩
theorem eqv.trans {x y z : Tm} (h : eqv x y) (k : eqv y z) : eqv x z := ⟨h.1.trans k.1, h.2.trans k.2⟩
theorem xor_sw (a b c : Nat) : (a ^^^ b) ^^^ c = (a ^^^ c) ^^^ b := by rw [Nat.xor_assoc, Nat.xor_comm b c, ← Nat.xor_assoc]
theorem xr_comm (x y : Tm) : eqv (xr x y) (xr y x) := ⟨Nat.xor_comm .., Nat.xor_comm ..⟩
theorem xr_sw (x y z : Tm) : eqv (xr (xr x y) z) (xr (xr x z) y) := ⟨xor_sw .., xor_sw ..⟩
theorem xr_as (x y z : Tm) : eqv (xr (xr x y) z) (xr x (xr y z)) := ⟨Nat.xor_assoc .., Nat.xor_assoc ..⟩
theorem xr_can (x y : Tm) : eqv (xr (xr x y) y) x := ⟨xor_xor .., xor_xor ..⟩
theorem xr_two (x y a : Tm) : eqv (xr (xr x a) (xr y a)) (xr x y) := by
  refine (xr_as x a (xr y a)).trans (eqv.xr eqv.rfl ?_)
  exact (xr_comm a (xr y a)).trans (xr_can y a)
/-- spanned, but for spins -/
def SpT : List Tm → Tm → Prop
  | [], v => v.f = 0 ∧ v.s = 0
  | a :: L, v => SpT L v ∨ SpT L (xr v a)
theorem SpT.eq : ∀ {L : List Tm} {v w : Tm}, SpT L v → eqv v w → SpT L w
  | [], v, w, h, e => ⟨e.1.symm.trans h.1, e.2.symm.trans h.2⟩
  | a :: L, v, w, h, e => h.elim (fun h => .inl (SpT.eq h e)) fun h => .inr (SpT.eq h (e.xr eqv.rfl))
theorem SpT.iff {L : List Tm} {v w : Tm} (e : eqv v w) : SpT L v ↔ SpT L w := ⟨fun h => h.eq e, fun h => h.eq e.symm⟩
theorem SpT.zero : ∀ {L : List Tm} {v : Tm}, v.f = 0 → v.s = 0 → SpT L v
  | [], v, h1, h2 => ⟨h1, h2⟩
  | a :: L, v, h1, h2 => .inl (SpT.zero h1 h2)
theorem xr_self (a : Tm) : (xr a a).f = 0 ∧ (xr a a).s = 0 := ⟨Nat.xor_self _, Nat.xor_self _⟩
theorem SpT.mem : ∀ {L : List Tm} {a : Tm}, a ∈ L → SpT L a
  | b :: L, a, h => by
    rcases List.mem_cons.1 h with rfl | h
    · exact .inr (SpT.zero (xr_self a).1 (xr_self a).2)
    · exact .inl (SpT.mem h)
theorem SpT.add : ∀ {L : List Tm} {u v : Tm}, SpT L u → SpT L v → SpT L (xr u v)
  | [], u, v, h, k => ⟨by show u.f ^^^ v.f = 0; rw [h.1, k.1]; rfl, by show u.s ^^^ v.s = 0; rw [h.2, k.2]; rfl⟩
  | a :: L, u, v, h, k => by
    rcases h with h | h <;> rcases k with k | k
    · exact .inl (SpT.add h k)
    · exact .inr ((SpT.add h k).eq ((xr_as u v a).symm))
    · exact .inr ((SpT.add h k).eq (xr_sw u a v))
    · exact .inl ((SpT.add h k).eq (xr_two u v a))
theorem SpT.le : ∀ {L M : List Tm} {v : Tm}, (∀ a ∈ L, SpT M a) → SpT L v → SpT M v
  | [], M, v, _, h => SpT.zero h.1 h.2
  | a :: L, M, v, hm, h => by
    have k := fun x hx => hm x (List.mem_cons_of_mem a hx)
    rcases h with h | h
    · exact SpT.le k h
    · exact ((SpT.le k h).add (hm a List.mem_cons_self)).eq (xr_can v a)
theorem SpT.perm {L M : List Tm} (h : L.Perm M) {v : Tm} : SpT L v ↔ SpT M v :=
  ⟨SpT.le fun a ha => SpT.mem (h.mem_iff.1 ha), SpT.le fun a ha => SpT.mem (h.mem_iff.2 ha)⟩
/-- none is spanned by those behind it -/
def Ind : List Tm → Prop
  | [] => True
  | a :: L => ¬ SpT L a ∧ Ind L
theorem Ind.perm' {L M : List Tm} (h : L.Perm M) : Ind L → Ind M := by
  induction h with
  | nil => exact id
  | cons a p ih => exact fun k => ⟨fun s => k.1 ((SpT.perm p).2 s), ih k.2⟩
  | swap a b L =>
    rintro ⟨h1, h2, h3⟩
    refine ⟨fun s => ?_, fun s => h1 (.inl s), h3⟩
    rcases s with s | s
    · exact h2 s
    · exact h1 (.inr (s.eq (xr_comm a b)))
  | trans _ _ i1 i2 => exact fun k => i2 (i1 k)
theorem Ind.perm {L M : List Tm} (h : L.Perm M) : Ind L ↔ Ind M := ⟨Ind.perm' h, Ind.perm' h.symm⟩
theorem Ind.tail {L M : List Tm} : Ind (L ++ M) → Ind M := by
  induction L with
  | nil => exact id
  | cons a L ih => exact fun h => ih h.2
theorem Ind.mid {L R : List Tm} {a : Tm} : Ind (L ++ a :: R) ↔ ¬ SpT (L ++ R) a ∧ Ind (L ++ R) := Ind.perm List.perm_middle
theorem Ind.snoc {L : List Tm} {a : Tm} : Ind (L ++ [a]) ↔ ¬ SpT L a ∧ Ind L := by
  have := Ind.mid (L := L) (R := []) (a := a)
  rwa [List.append_nil] at this
/-! ### moves add -/
theorem mvM_add {c n : Nat} {x y : Tm} {m : Mv} (ok : m.ok n) (h : MvGe c m) : eqv (mvM (xr x y) m) (xr (mvM x m) (mvM y m)) := by
  cases m with
  | flip a => exact ⟨rfl, rfl⟩
  | mix a =>
    refine ⟨Nat.eq_of_testBit_eq fun j => ?_, Nat.eq_of_testBit_eq fun j => ?_⟩
    · show (mvM (xr x y) (.mix a)).f.testBit j = ((mvM x (.mix a)).f ^^^ (mvM y (.mix a)).f).testBit j
      rw [Nat.testBit_xor, mix_fb, mix_fb, mix_fb]
      show (((x.f ^^^ y.f).testBit j) ^^ (decide (a = j) && ((x.f ^^^ y.f).testBit a ^^ (x.s ^^^ y.s).testBit a))) = _
      rw [Nat.testBit_xor, Nat.testBit_xor, Nat.testBit_xor]
      cases decide (a = j) <;> cases x.f.testBit j <;> cases y.f.testBit j <;> cases x.f.testBit a <;> cases y.f.testBit a <;> cases x.s.testBit a <;> cases y.s.testBit a <;> rfl
    · show (mvM (xr x y) (.mix a)).s.testBit j = ((mvM x (.mix a)).s ^^^ (mvM y (.mix a)).s).testBit j
      rw [Nat.testBit_xor, mix_sb, mix_sb, mix_sb]
      show (((x.s ^^^ y.s).testBit j) ^^ (decide (a = j) && ((x.f ^^^ y.f).testBit a ^^ (x.s ^^^ y.s).testBit a))) = _
      rw [Nat.testBit_xor, Nat.testBit_xor, Nat.testBit_xor]
      cases decide (a = j) <;> cases x.s.testBit j <;> cases y.s.testBit j <;> cases x.f.testBit a <;> cases y.f.testBit a <;> cases x.s.testBit a <;> cases y.s.testBit a <;> rfl
  | turn a k =>
    refine ⟨rfl, Nat.eq_of_testBit_eq fun j => ?_⟩
    show (mvM (xr x y) (.turn a k)).s.testBit j = ((mvM x (.turn a k)).s ^^^ (mvM y (.turn a k)).s).testBit j
    rw [Nat.testBit_xor, turn_sb, turn_sb, turn_sb]
    show (((x.s ^^^ y.s).testBit j) ^^ (decide (a = j) && ((x.f ^^^ y.f).testBit a && decide (k / 2 % 2 = 1)))) = _
    rw [Nat.testBit_xor, Nat.testBit_xor]
    cases decide (a = j) <;> cases decide (k / 2 % 2 = 1) <;> cases x.f.testBit a <;> cases y.f.testBit a <;> cases x.s.testBit j <;> cases y.s.testBit j <;> rfl
  | iff a b =>
    refine ⟨Nat.eq_of_testBit_eq fun j => ?_, Nat.eq_of_testBit_eq fun j => ?_⟩
    · show (mvM (xr x y) (.iff a b)).f.testBit j = ((mvM x (.iff a b)).f ^^^ (mvM y (.iff a b)).f).testBit j
      rw [Nat.testBit_xor, iff_fb, iff_fb, iff_fb]
      show (((x.f ^^^ y.f).testBit j) ^^ (decide (b = j) && (x.f ^^^ y.f).testBit a)) = _
      rw [Nat.testBit_xor, Nat.testBit_xor]
      cases decide (b = j) <;> cases x.f.testBit j <;> cases y.f.testBit j <;> cases x.f.testBit a <;> cases y.f.testBit a <;> rfl
    · show (mvM (xr x y) (.iff a b)).s.testBit j = ((mvM x (.iff a b)).s ^^^ (mvM y (.iff a b)).s).testBit j
      rw [Nat.testBit_xor, iff_sb, iff_sb, iff_sb]
      show (((x.s ^^^ y.s).testBit j) ^^ (decide (a = j) && (x.s ^^^ y.s).testBit b)) = _
      rw [Nat.testBit_xor, Nat.testBit_xor]
      cases decide (a = j) <;> cases x.s.testBit j <;> cases y.s.testBit j <;> cases x.s.testBit b <;> cases y.s.testBit b <;> rfl
  | swap a b =>
    have ne : a ≠ b := ok.2.2
    have t : ∀ u w : Nat, trd (u ^^^ w) a b = trd u a b ^^^ trd w a b := fun u w => Nat.eq_of_testBit_eq fun j => by
      rw [Nat.testBit_xor, trd_b ne, trd_b ne, trd_b ne, Nat.testBit_xor, Nat.testBit_xor, Nat.testBit_xor]
      cases decide (a = j) <;> cases decide (b = j) <;> cases u.testBit j <;> cases w.testBit j <;> cases u.testBit a <;> cases w.testBit a <;> cases u.testBit b <;> cases w.testBit b <;> rfl
    exact ⟨t _ _, t _ _⟩
  | pair a b => exact False.elim h
  | cross a b c => exact False.elim h
theorem mvM_eqv {x y : Tm} {m : Mv} (e : eqv x y) : eqv (mvM x m) (mvM y m) := by
  obtain ⟨q, f, s⟩ := x
  obtain ⟨q', f', s'⟩ := y
  obtain ⟨h1, h2⟩ := e
  dsimp only at h1 h2
  subst h1 h2
  cases m with
  | mix a => unfold mvM; dsimp only; split <;> exact ⟨rfl, rfl⟩
  | _ => exact ⟨rfl, rfl⟩
theorem mvR_eqv : ∀ (ms : List Mv) {x y : Tm}, eqv x y → eqv (mvR x ms) (mvR y ms)
  | [], _, _, e => e
  | m :: ms, _, _, e => mvR_eqv ms (mvM_eqv e)
theorem mvR_add {c n : Nat} : ∀ (ms : List Mv) {x y : Tm}, SOk c n ms → eqv (mvR (xr x y) ms) (xr (mvR x ms) (mvR y ms))
  | [], _, _, _ => eqv.rfl
  | m :: ms, x, y, h => by
    have h0 := h m List.mem_cons_self
    exact (mvR_eqv ms (mvM_add h0.1.1 h0.1.2)).trans (mvR_add ms fun k hk => h k (List.mem_cons_of_mem _ hk))
theorem xr_lt {n : Nat} {x y : Tm} (h : x.lt n) (k : y.lt n) : (xr x y).lt n := ⟨by show 0 < 4; omega, Nat.xor_lt_two_pow h.f k.f, Nat.xor_lt_two_pow h.s k.s⟩
theorem mvR_zero : ∀ (ms : List Mv), eqv (mvR ⟨0, 0, 0⟩ ms) ⟨0, 0, 0⟩
  | [] => eqv.rfl
  | m :: ms => by
    have z : eqv (mvM ⟨0, 0, 0⟩ m) ⟨0, 0, 0⟩ := by
      cases m with
      | flip a => exact ⟨rfl, rfl⟩
      | mix a =>
        unfold mvM
        dsimp only
        rw [if_pos rfl]
        exact ⟨rfl, rfl⟩
      | turn a k =>
        refine ⟨rfl, ?_⟩
        show 0 ^^^ bt 0 a * (k / 2) % 2 * 2 ^ a = 0
        rw [bt0 (Nat.zero_testBit a)]
        simp
      | iff a b =>
        have b0 : ∀ i, bt 0 i = 0 := fun i => bt0 (Nat.zero_testBit i)
        constructor
        · show 0 ^^^ bt 0 a * 2 ^ b = 0
          rw [b0]; simp
        · show 0 ^^^ bt 0 b * 2 ^ a = 0
          rw [b0]; simp
      | pair a b =>
        have b0 : ∀ i, bt 0 i = 0 := fun i => bt0 (Nat.zero_testBit i)
        refine ⟨rfl, ?_⟩
        show 0 ^^^ (bt 0 a * 2 ^ b ||| bt 0 b * 2 ^ a) = 0
        rw [b0, b0]; simp
      | swap a b =>
        have t : trd 0 a b = 0 := by
          unfold trd
          rw [if_pos (by rw [Nat.zero_testBit, Nat.zero_testBit])]
        exact ⟨t, t⟩
      | cross a b c => exact eqv.rfl
    exact (mvR_eqv ms z).trans (mvR_zero ms)
/-- what the moved marks span is moved -/
theorem SpT.mv {n : Nat} {ms : List Mv} (ok : SOk 0 n ms) : ∀ {L : List Tm} {v : Tm}, (∀ a ∈ L, a.lt n) → v.lt n → SpT (L.map fun a => mvR a ms) (mvR v ms) → SpT L v
  | [], v, _, hv, h => by
    have b := mvR_back ms v hv ok.bo
    have e : eqv (mvR v ms) ⟨0, 0, 0⟩ := h
    have k := (mvR_eqv (backR ms) e).trans (mvR_zero (backR ms))
    rw [b] at k
    exact k
  | a :: L, v, hL, hv, h => by
    have hL2 := fun x hx => hL x (List.mem_cons_of_mem a hx)
    rcases h with h | h
    · exact .inl (SpT.mv ok hL2 hv h)
    · exact .inr (SpT.mv ok hL2 (xr_lt hv (hL a List.mem_cons_self)) (h.eq (mvR_add ms ok).symm))
theorem Ind.mv {n : Nat} {ms : List Mv} (ok : SOk 0 n ms) : ∀ {L : List Tm}, (∀ a ∈ L, a.lt n) → Ind L → Ind (L.map fun a => mvR a ms)
  | [], _, _ => trivial
  | a :: L, hL, h => by
    have hL2 := fun x hx => hL x (List.mem_cons_of_mem a hx)
    exact ⟨fun s => h.1 (SpT.mv ok hL2 (hL a List.mem_cons_self) s), Ind.mv ok hL2 h.2⟩
end PX

/-! PLN: amounts in one form, by whole numbers; the parts that the laws draw. -/
namespace PX
open PySem PySem.Spec PyProof.Rows L2 SB
/-- x stands for (a, b, c, d) halved h times -/
def Std (x : Am) (h : Nat) (a b c d : Int) : Prop := x.a * 2 ^ h = a * 2 ^ x.h.toNat ∧ x.b * 2 ^ h = b * 2 ^ x.h.toNat ∧ x.c * 2 ^ h = c * 2 ^ x.h.toNat ∧ x.d * 2 ^ h = d * 2 ^ x.h.toNat
@[simp] theorem ixD_l4 {a b c d e : PyData} {l : List PyData} : ixD (.list (a :: b :: c :: d :: e :: l)) (.int 4) = rv e := ixD_list (j := 4) rfl
/-- the parts that a law draws -/
def PartsOk (f : List PyData → Rr) : Prop := ∀ (ns : List Int) (t : Nat), ∃ (a b c d : Int) (h : Nat), Bd 250 a ∧ Bd 250 b ∧ Bd 250 c ∧ Bd 250 d ∧ h ≤ 40 ∧ f [.list (ns.map .int), .int t] = .ok (.val (.tuple [P4 a b c d, .int h]))
/-! ### one form -/
def OneFormOk (f : List PyData → Rr) : Prop := ∀ (M H h : Nat) (x : Am) (a b c d : Int), Low x → GoodA M H x → Bd M a → Bd M b → Bd M c → Bd M d → Std x h a b c d → M + h + H ≤ 100000000 → f [AD x, P4 a b c d, .int h] = vB true
def odd4 (x : Am) : Bool := decide (x.a % 2 = 1) || (decide (x.b % 2 = 1) || (decide (x.c % 2 = 1) || decide (x.d % 2 = 1)))
/-! ### five by five -/
end PX

/-! PLJ: what the laws about looks draw. -/
namespace PX
open PySem PySem.Spec PyProof.Rows L2 SB
/-! ### lowest form, told by any odd part -/
/-! ### drawn amounts -/
def AmountBy2Ok (f : List PyData → Rr) : Prop := ∀ (c : Int) (k : Nat), k ≤ 1000 → Am1 (f [.int c, .int k])
/-! ### drawn by digits -/
def SmallOk (f : List PyData → Rr) : Prop := ∀ (c : Int) (k : Nat), k ≤ 1000 → ∃ z : Int, -4 < z ∧ z < 4 ∧ f [.int c, .int k] = vI z
abbrev T30 : Int := 2000000000000000000000000000001
def AmountsInOk (f : List PyData → Rr) : Prop := ∀ (c : Int) (n : Nat), n ≤ 64 → ∃ bs : List Am, bs.length = n ∧ (∀ x ∈ bs, GL0 x) ∧ f [.int c, .int n] = .ok (.own (bs.map AD))
def BoardInOk (f : List PyData → Rr) : Prop := ∀ (ns : List Int) (n : Nat), 1 ≤ n → n ≤ 6 → ∃ bs : List Am, bs.length = 2 ^ n ∧ (∀ x ∈ bs, GL0 x) ∧ f [.list (ns.map .int), .int n] = .ok (.own (bs.map AD))
/-! ### drawn boards -/
def BoardBy3Ok (f : List PyData → Rr) : Prop := ∀ (ns : List Int) (n : Nat) (dg : Bool), 1 ≤ n → n ≤ 6 → ∃ bs : List Am, BD n 200 40 bs ∧ leftB bs = true ∧ f [.list (ns.map .int), .int n, .bool dg] = .ok (.own (bs.map AD))
def BoardBy2Ok (f : List PyData → Rr) : Prop := ∀ (ns : List Int) (n : Nat), 1 ≤ n → n ≤ 6 → ∃ bs : List Am, BD n 200 40 bs ∧ leftB bs = true ∧ f [.list (ns.map .int), .int n] = .ok (.own (bs.map AD))
end PX

/-! PLJ2: what the laws about looks draw and ask. -/
namespace PX
open PySem PySem.Spec PyProof.Rows L2 SB
open Z2
theorem law_ones_ok {G : Gd} {n : Nat} : fnD G b__law_ones 2 [.int n] = vI (pop n : Nat) := ok_bits
theorem md2 (z : Int) (n : Nat) : ∃ f : Nat, f < 2 ^ n ∧ z % (2 : Int) ^ n = (f : Int) := by
  have hp := two_pow_pos n
  obtain ⟨f, hf⟩ := Int.eq_ofNat_of_zero_le (Int.emod_nonneg z (show (2 : Int) ^ n ≠ 0 by omega))
  have := Int.emod_lt_of_pos z hp
  have pw : ((2 ^ n : Nat) : Int) = (2 : Int) ^ n := by simp
  exact ⟨f, by omega, hf⟩
theorem emk_of {n f s : Nat} {r : Int} (hf : f < 2 ^ n) (hs : s < 2 ^ n) : ∃ q : Nat, ((pop (f &&& s) : Nat) + 2 * r) % 4 = (q : Int) ∧ EMk n q f s := by
  obtain ⟨q, hq⟩ := Int.eq_ofNat_of_zero_le (show 0 ≤ ((pop (f &&& s) : Nat) + 2 * r) % 4 by omega)
  exact ⟨q, hq, ⟨by omega, hf, hs, by omega⟩⟩
/-- a drawn look -/
def LookByOk (f : List PyData → Rr) : Prop := ∀ (c : Int) (n : Nat) (dg : Bool), 1 ≤ n → n ≤ 6 → ∃ q f1 s o : Nat, EMk n q f1 s ∧ o < 2 ∧ f [.int c, .int n, .bool dg] = .ok (.val (.tuple [M3 q f1 s, .int o]))
def MarkBy2Ok (f : List PyData → Rr) : Prop := ∀ (c : Int) (n : Nat), n ≤ 6 → ∃ q f1 s : Nat, EMk n q f1 s ∧ f [.int c, .int n] = .ok (.val (M3 q f1 s))
/-! ### a board, as asked -/
def IsBoard2Ok (f : List PyData → Rr) : Prop := ∀ (n m H : Nat) (bs : List Am), BD n m H bs → n ≤ 6 → f [.list (bs.map AD), .int (bs.length : Nat)] = vB (leftB bs)
end PX

/-! PLJ3: hefts reckoned by the laws about looks; products of shares as asked. -/
namespace PX
open PySem PySem.Spec PyProof.Rows L2 SB
open Z2
/-- three ints that stand for a real -/
structure Raw (K : Nat) (t r b : Int) (q : Q8) : Prop where
  pos : 0 < b
  bt : BdI K t
  br : BdI K r
  bb : BdI K b
  ht : (t : Rat) = q.a * b
  hr : (r : Rat) = q.b * b
def LawHeftOk (f : List PyData → Rr) : Prop := ∀ (m H : Nat) (bs : List Am), bs ≠ [] → (∀ x ∈ bs, GoodA m H x) → bs.length ≤ 64 → m + H ≤ 100000 → ∃ t r b : Int, Raw (m + m + H + H + 10) t r b (heftB bs) ∧ f [.list (bs.map AD)] = .ok (.val (.tuple [.int t, .int r, .int b]))
theorem Raw.mono {K L : Nat} {t r b : Int} {q : Q8} (h : Raw K t r b q) (hl : K ≤ L) : Raw L t r b q := ⟨h.pos, h.bt.mono hl, h.br.mono hl, h.bb.mono hl, h.ht, h.hr⟩
def IsTimesOk (f : List PyData → Rr) : Prop := ∀ (K : Nat) (pt pr pb wt_ wr wb : Int) (x : Sh) (p w : Q8), Raw K pt pr pb p → LowS K x → Raw K wt_ wr wb w → RealQ w → qS x * w = p → K ≤ 100000 → f [.tuple [.int pt, .int pr, .int pb], SD x, .tuple [.int wt_, .int wr, .int wb]] = vB true
/-- a share from nought on, in lowest terms -/
structure ShOk (m : Nat) (x : Sh) : Prop where
  low : LowS m x
  nn : x = S0 ∨ P (nm x)
def IsShare3Ok (f : List PyData → Rr) : Prop := ∀ (m : Nat) (x : Sh), ShOk m x → m ≤ 100000 → f [SD x] = vB true
/-! ### looks as data; parts of a list -/
theorem cutNat {ns : List Int} {a b : Nat} : ∃ ms : List Int, ms.length ≤ b - a ∧ slD (.list (ns.map .int)) (some a) (some b) = some (.own (ms.map .int)) := by
  refine ⟨(ns.drop (HT.sIx ns.length 0 (some a))).take (HT.sIx ns.length ns.length (some b) - HT.sIx ns.length 0 (some a)), ?_, ?_⟩
  · rw [List.length_take, List.length_drop, HT.sIx_nat, HT.sIx_nat]
    omega
  · show some (RV.own (PX.cutD (ns.map .int) (some a) (some b))) = _
    unfold PX.cutD
    rw [List.length_map, List.map_take, List.map_drop]
/-- a look: a mark and an outcome -/
structure Lk where
  q : Nat
  f : Nat
  s : Nat
  o : Nat
def LD (L : Lk) : PyData := .tuple [M3 L.q L.f L.s, .int L.o]
structure LkOk (n : Nat) (L : Lk) : Prop where
  ek : EMk n L.q L.f L.s
  ho : L.o < 2
def comL (L M : Lk) : Prop := (pop (L.f &&& M.s) + pop (L.s &&& M.f)) % 2 = 0
theorem comL.symm {L M : Lk} (h : comL L M) : comL M L := by
  unfold comL at *
  rw [Nat.and_comm M.f, Nat.and_comm M.s, Nat.add_comm]
  exact h
noncomputable def pjL (L : Lk) (F : Nat → Q8) : Nat → Q8 := pj8 L.q L.f L.s L.o F
noncomputable def PJ : List Lk → (Nat → Q8) → Nat → Q8
  | [], F => F
  | L :: ls, F => PJ ls (pjL L F)
end PX

/-! PLI: what the defs of images and rebuilt rows tell. -/
namespace PX
open PySem PySem.Spec PyProof.Rows L2 SB
def TouchedOk (f : List PyData → Rr) : Prop := ∀ (x : Tm) (c n : Nat), n ≤ 100 → c ≤ 100 → f [TD x, .int c, .int n] = .ok (.own ((tch x c n).map fun i : Nat => PyData.int (i : Int)))
def StepsFlipOk (f : List PyData → Rr) : Prop := ∀ (x : Tm) (c n : Nat), n ≤ 100 → c ≤ 100 → tch x c n ≠ [] → f [TD x, .int c, .int n] = .ok (.own ((stF x c n).map mvD))
def StepsPairOk (f : List PyData → Rr) : Prop := ∀ (x y : Tm) (c n : Nat), n ≤ 100 → c < n → x.lt n → y.lt n → UpC c x → UpC c y → sp x y = -1 → f [TD x, TD y, .int c, .int n] = .ok (.own ((stP x y c n).map mvD))
end PX

/-! PLI2: flips and signs of all cells, images, whether marks go as them. -/
namespace PX
open PySem PySem.Spec PyProof.Rows L2 SB
noncomputable def cm (x y : Tm) : Bool := decide ((pop (x.f &&& y.s) + pop (x.s &&& y.f)) % 2 = 0)
theorem sp_cm (x y : Tm) : sp x y = if cm x y = true then 1 else -1 := by
  unfold sp cm ch8
  rw [← z_pow_add, ← Nat.mul_add, z_four]
  by_cases h : (pop (x.f &&& y.s) + pop (x.s &&& y.f)) % 2 = 0
  · rw [if_pos h, decide_eq_true h, if_pos rfl]
  · rw [if_neg h, decide_eq_false h, if_neg (by decide)]
theorem cm_sp {x y u v : Tm} : cm x y = cm u v ↔ sp x y = sp u v := by
  rw [sp_cm, sp_cm]
  cases cm x y <;> cases cm u v <;> simp
  · exact fun h => one_ne_neg h.symm
  · exact one_ne_neg
def mks (n : Nat) (g : Nat → Tm) : List Tm := (List.range (2 * n)).map g
theorem mks_len {n : Nat} {g : Nat → Tm} : (mks n g).length = 2 * n := by unfold mks; rw [List.length_map, List.length_range]
theorem mks_at {n : Nat} {g : Nat → Tm} {k : Nat} (h : k < 2 * n) : (mks n g)[k]? = some (g k) := by
  unfold mks
  rw [List.getElem?_map, List.getElem?_range h]
  rfl
def BasicsOk (f : List PyData → Rr) : Prop := ∀ n : Nat, n ≤ 100 → f [.int n] = .ok (.own ((mks n bsc).map TD))
def ImagesOk (f : List PyData → Rr) : Prop := ∀ (n : Nat) (ms : List Mv), n ≤ 100 → Borne n ms → f [rowD ms, .int n] = .ok (.own ((mks n fun i => mvR (bsc i) ms).map TD))
/-! ### whether marks go as flips and signs -/
end PX

/-! PLI3: whether marks go as flips and signs; rows rebuilt. -/
namespace PX
open PySem PySem.Spec PyProof.Rows L2 SB
/-- marks go as the flips and signs at their places do -/
def GoB (n : Nat) (L : List Tm) : Prop := L.length = 2 * n ∧ (∀ x ∈ L, x.par = 0) ∧ ∀ p o, o < p → p < 2 * n → ∀ x y, L[p]? = some x → L[o]? = some y → cm x y = cm (bsc p) (bsc o)
noncomputable instance (n : Nat) (L : List Tm) : Decidable (GoB n L) := Classical.propDecidable _
def GoOk (f : List PyData → Rr) : Prop := ∀ (n : Nat) (L : List Tm), n ≤ 100 → L.length ≤ 1000 → f [.list (L.map TD), .int n] = vB (decide (GoB n L))
end PX

/-! PLI4: rows rebuilt. -/
namespace PX
open PySem PySem.Spec PyProof.Rows L2 SB
theorem Gm.go {n : Nat} {g : Nat → Tm} (h : Gm n g) : GoB n (mks n g) := by
  refine ⟨mks_len, fun x hx => ?_, fun p o hop hp x y hx hy => ?_⟩
  · unfold mks at hx
    obtain ⟨i, hi, rfl⟩ := List.mem_map.1 hx
    exact h.par i (List.mem_range.1 hi)
  · rw [mks_at hp] at hx
    rw [mks_at (by omega)] at hy
    cases hx
    cases hy
    exact cm_sp.mpr (h.sp p o hp (by omega))
def RebuiltOk (f : List PyData → Rr) : Prop := (∀ (n : Nat) (g : Nat → Tm), n ≤ 6 → Gm n g → f [.list ((mks n g).map TD), .int n] = .ok (.own ((rbR n g).map mvD))) ∧ (∀ (n : Nat) (L : List Tm), n ≤ 6 → L.length ≤ 1000 → ¬ GoB n L → f [.list (L.map TD), .int n] = .exc 8)
end PX

/-! PLG: what the laws of rows draw: numbers, boards, moves that tables bear. -/
namespace PX
open PySem PySem.Spec PyProof.Rows L2 SB
def NumberOk (f : List PyData → Rr) : Prop := ∀ (ns : List Int) (k : Nat), k ≤ 1000000 → ∃ z : Nat, z < 2147483549 ∧ f [.list (ns.map .int), .int k] = vI z
/-! ### amounts -/
def Amount3Ok (f : List PyData → Rr) : Prop := ∀ z : Nat, z < 2147483549 → Am1 (f [.int z])
/-! ### boards -/
def BoardOk (f : List PyData → Rr) : Prop := ∀ (ns : List Int) (n : Nat), n ≤ 6 → ∃ bs : List Am, BD n 200 40 bs ∧ leftB bs = true ∧ f [.list (ns.map .int), .int n] = .ok (.own (bs.map AD))
/-! ### boards by digits -/
abbrev W30 : Int := 1999999999999999999999999999999
def dgV (d : Int) : Int := (d + 1) / 2 * (1 - d % 2 * 2)
def BoardBy4Ok (f : List PyData → Rr) : Prop := ∀ (ns : List Int) (a n : Nat), n ≤ 6 → ∃ bs : List Am, BD n 200 40 bs ∧ leftB bs = true ∧ f [.list (ns.map .int), .int a, .int n] = .ok (.own (bs.map AD))
end PX

/-! PLI5: marks drawn. -/
namespace PX
open PySem PySem.Spec PyProof.Rows L2 SB
theorem law_product2_ok {G : Gd} (hO : OnesOk (G.fn 0)) {q f s q2 f2 s2 : Nat} : fnD G b__law_product_2 3 [M3 q f s, M3 q2 f2 s2] = .ok (.val (M3 ((q + q2 + 2 * pop (s &&& f2)) % 4) (f ^^^ f2) (s ^^^ s2))) := by
  have o := hO (s &&& f2)
  simp [fnD_res, b__law_product_2, M3, o, lineB_le, mulOk_l]
theorem law_commute_ok {G : Gd} (hO : OnesOk (G.fn 0)) {q f s q2 f2 s2 : Nat} : fnD G b__law_commute 2 [M3 q f s, M3 q2 f2 s2] = vB (decide ((pop (f &&& s2) + pop (s &&& f2)) % 2 = 0)) := by
  have o1 := hO (f &&& s2)
  have o2 := hO (s &&& f2)
  simp [fnD_res, b__law_commute, M3, o1, o2]
  norm_cast
def BasicOk (f : List PyData → Rr) : Prop := ∀ k : Nat, k ≤ 100 → f [.int k] = .ok (.val (TD (bsc k)))
/-! ### a mark multiplied by one with which it does not commute -/
noncomputable def tvM (b x : Tm) : Tm := if cm b x = true then x else ⟨((b.q + x.q + 2 * pop (b.s &&& x.f)) % 4 + 1) % 4, b.f ^^^ x.f, b.s ^^^ x.s⟩
theorem tvM_lt {n : Nat} {b x : Tm} (hb : b.lt n) (hx : x.lt n) : (tvM b x).lt n := by
  unfold tvM
  split
  · exact hx
  · exact ⟨Nat.mod_lt _ (by decide), Nat.xor_lt_two_pow hb.f hx.f, Nat.xor_lt_two_pow hb.s hx.s⟩
theorem cm_odd {x y : Tm} (h : ¬ cm x y = true) : (pop (x.f &&& y.s) + pop (x.s &&& y.f)) % 2 = 1 := by
  unfold cm at h
  rw [decide_eq_true_eq] at h
  omega
theorem tvM_par {b x : Tm} (hb : b.par = 0) (hx : x.par = 0) : (tvM b x).par = 0 := by
  unfold tvM
  split
  · exact hx
  · rename_i h
    have o := cm_odd h
    unfold Tm.par at hb hx ⊢
    have p1 := pop_xl b.f x.f (b.s ^^^ x.s)
    have p2 := pop_xr b.f b.s x.s
    have p3 := pop_xr x.f b.s x.s
    show (((b.q + x.q + 2 * pop (b.s &&& x.f)) % 4 + 1) % 4 + pop ((b.f ^^^ x.f) &&& (b.s ^^^ x.s))) % 2 = 0
    have e : x.f &&& b.s = b.s &&& x.f := Nat.and_comm ..
    rw [e] at p3
    omega
theorem sp_mul {b x y : Tm} {q : Nat} : sp ⟨q, b.f ^^^ x.f, b.s ^^^ x.s⟩ y = sp b y * sp x y := by
  unfold sp
  dsimp only
  rw [ch_xl, ch_xl]
  grind
theorem sp_self (x : Tm) : sp x x = 1 := by
  unfold sp ch8
  rw [← z_pow_add, ← Nat.mul_add, z_four, Nat.and_comm x.s, if_pos (by omega)]
theorem tvM_sp {b x y : Tm} : sp (tvM b x) (tvM b y) = sp x y := by
  have c1 := sp_cm b x
  have c2 := sp_cm b y
  have c3 := sp_comm x b
  have ss := sp_self b
  unfold tvM
  by_cases h1 : cm b x = true <;> by_cases h2 : cm b y = true
  · rw [if_pos h1, if_pos h2]
  · rw [if_pos h1, if_neg h2, sp_comm, sp_mul, sp_comm y x]
    rw [if_pos h1] at c1
    rw [c1]
    grind
  · rw [if_neg h1, if_pos h2, sp_mul]
    rw [if_pos h2] at c2
    rw [c2]
    grind
  · rw [if_neg h1, if_neg h2, sp_mul]
    rw [if_neg h1] at c1
    rw [if_neg h2] at c2
    have k1 := sp_comm b ⟨((b.q + y.q + 2 * pop (b.s &&& y.f)) % 4 + 1) % 4, b.f ^^^ y.f, b.s ^^^ y.s⟩
    have k2 := sp_comm x ⟨((b.q + y.q + 2 * pop (b.s &&& y.f)) % 4 + 1) % 4, b.f ^^^ y.f, b.s ^^^ y.s⟩
    rw [k1, k2, sp_mul, sp_mul, ss, sp_comm y b, sp_comm y x, c1, c2]
    grind
theorem Gm.tv {n : Nat} {g : Nat → Tm} {b : Tm} (h : Gm n g) (hb : b.lt n) (pb : b.par = 0) : Gm n fun i => tvM b (g i) :=
  ⟨fun k hk => tvM_lt hb (h.lt k hk), fun k hk => tvM_par pb (h.par k hk), fun j k hj hk => tvM_sp.trans (h.sp j k hj hk)⟩
/-- turned about -/
def abM (x : Tm) : Tm := ⟨(x.q + 2) % 4, x.f, x.s⟩
theorem Gm.ab {n : Nat} {g : Nat → Tm} (h : Gm n g) (p : Nat → Bool) : Gm n fun i => if p i = true then abM (g i) else g i := by
  have l : ∀ x : Tm, x.lt n → (abM x).lt n := fun x hx => ⟨Nat.mod_lt _ (by decide), hx.f, hx.s⟩
  have r : ∀ x : Tm, x.par = 0 → (abM x).par = 0 := fun x hx => by
    unfold Tm.par abM at *
    dsimp only at *
    omega
  refine ⟨fun k hk => ?_, fun k hk => ?_, fun j k hj hk => ?_⟩
  · split
    · exact l _ (h.lt k hk)
    · exact h.lt k hk
  · split
    · exact r _ (h.par k hk)
    · exact h.par k hk
  · refine Eq.trans ?_ (h.sp j k hj hk)
    split <;> split <;> rfl
theorem Gm.start {n : Nat} : Gm n bsc := ⟨fun k hk => bsc_lt hk, fun k _ => bsc_par k, fun _ _ _ _ => rfl⟩
end PX

/-! PLI6: the drawn marks. -/
namespace PX
open PySem PySem.Spec PyProof.Rows L2 SB
/-- what stands when the places ahead of one are done -/
def upTo (i : Nat) (h : Tm → Nat → Tm) (g : Nat → Tm) : Nat → Tm := fun j => if j < i then h (g j) j else g j
end PX

/-! PLI7: the drawn marks, whole. -/
namespace PX
open PySem PySem.Spec PyProof.Rows L2 SB
/-- the mark that a number draws -/
noncomputable def byM (n z : Nat) : Tm := ⟨(pop (z % 2 ^ n &&& z / 64 % 2 ^ n) + z / 4096 % 2 * 2) % 4, z % 2 ^ n, z / 64 % 2 ^ n⟩
def LawMarksOk (f : List PyData → Rr) : Prop := ∀ (zs : List Nat) (n s : Nat), n ≤ 6 → ∃ g : Nat → Tm, Gm n g ∧ f [.list (zs.map fun z : Nat => PyData.int (z : Int)), .int n, .int s] = .ok (.own ((mks n g).map TD))
end PX

/-! PLI8: refusals; moves of a row; what the row does. -/
namespace PX
open PySem PySem.Spec PyProof.Rows L2 SB
def Refused9Ok (f : List PyData → Rr) : Prop := ∀ (n : Nat) (L : List Tm), n ≤ 6 → L.length ≤ 1000 → ¬ GoB n L → f [.list (L.map TD), .int n] = vB true
/-- what the law asks of a move -/
def LawMoveOk (f : List PyData → Rr) : Prop := ∀ (n : Nat) (m : Mv), m.ok n → m.borne → f [mvD m, .int n] = vB true
abbrev WD6 : PyData := .list [.str "flip", .str "mix", .str "turn", .str "if", .str "pair", .str "swap"]
abbrev WD2 : PyData := .list [.str "flip", .str "mix"]
abbrev WD3 : PyData := .list [.str "if", .str "pair", .str "swap"]
end PX

/-! PLI9: what the row does, asked by the law. -/
namespace PX
open PySem PySem.Spec PyProof.Rows L2 SB
def LawRowIsOk (f : List PyData → Rr) : Prop := ∀ (n : Nat) (g : Nat → Tm) (bs : List Am), n ≤ 6 → Gm n g → (n ≤ 2 → BD n 200 40 bs) → f [rowD (rbR n g), .list ((mks n g).map TD), .list (bs.map AD), .int n] = vB true
end PX

/-! PLI10: numbers by digits. -/
namespace PX
open PySem PySem.Spec PyProof.Rows L2 SB
def Digits2Ok (f : List PyData → Rr) : Prop := ∀ (ns : List Int) (a k : Nat), k ≤ 100 → ∃ zs : List Nat, f [.list (ns.map .int), .int a, .int k] = .ok (.own (zs.map fun z : Nat => PyData.int (z : Int)))
end PX

/-! PLI11: the drawn board of k74. -/
namespace PX
open PySem PySem.Spec PyProof.Rows L2 SB
end PX

/-! PLI12: the drawn board of k74, whole. -/
namespace PX
open PySem PySem.Spec PyProof.Rows L2 SB
end PX

/-! PLI13: what no row has as its images. -/
namespace PX
open PySem PySem.Spec PyProof.Rows L2 SB
/-- the place of the other one of a cell -/
def ptn (k : Nat) : Nat := if k % 2 = 1 then k - 1 else k + 1
theorem cm_comm (x y : Tm) : cm x y = cm y x := by
  unfold cm
  rw [Nat.and_comm x.f, Nat.and_comm x.s, Nat.add_comm]
end PX

/-! PLTB: steps that make the signs of the first cells of the marks of a table. -/
namespace PX
open PySem PySem.Spec PyProof.Rows L2 SB
/-- the sign of a cell -/
def sgn (c : Nat) : Tm := ⟨0, 0, 2 ^ c⟩
def ps2 (x : Tm) (i : Nat) : List Mv := if x.f.testBit i = true then (if x.s.testBit i = true then [.turn i 2] else []) ++ [.mix i] else []
def pass2 (x : Tm) (t : List Nat) : List Mv := (t.map (ps2 x)).flatten
theorem ps2_bits {x y : Tm} {i : Nat} (hf : y.f.testBit i = x.f.testBit i) (hs : y.s.testBit i = x.s.testBit i) (j : Nat) :
    (mvR y (ps2 x i)).f.testBit j = (if j = i then false else y.f.testBit j) ∧
    (mvR y (ps2 x i)).s.testBit j = (if j = i then (x.f.testBit i || x.s.testBit i) else y.s.testBit j) := by
  unfold ps2
  by_cases e : j = i
  · subst e
    rw [if_pos rfl, if_pos rfl]
    cases h : x.f.testBit j
    · rw [if_neg (by decide)]
      exact ⟨hf.trans h, by rw [Bool.false_or]; exact hs⟩
    · rw [if_pos rfl]
      cases g : x.s.testBit j
      · rw [if_neg (by decide)]
        show (mvM y (.mix j)).f.testBit j = _ ∧ (mvM y (.mix j)).s.testBit j = _
        rw [mix_fb, mix_sb, hf, hs, g, h, decide_eq_true rfl]
        exact ⟨rfl, rfl⟩
      · rw [if_pos rfl]
        show (mvM (mvM y (.turn j 2)) (.mix j)).f.testBit j = _ ∧ (mvM (mvM y (.turn j 2)) (.mix j)).s.testBit j = _
        have ef : (mvM y (.turn j 2)).f.testBit j = true := hf.trans h
        rw [mix_fb, mix_sb, turn_sb, ef, hf, hs, g, h, decide_eq_true rfl]
        exact ⟨rfl, rfl⟩
  · have d : decide (i = j) = false := decide_eq_false (Ne.symm e)
    rw [if_neg e, if_neg e]
    split
    · split
      · show (mvM (mvM y (.turn i 2)) (.mix i)).f.testBit j = _ ∧ (mvM (mvM y (.turn i 2)) (.mix i)).s.testBit j = _
        rw [mix_fb, mix_sb, turn_sb, d, Bool.false_and, Bool.xor_false, Bool.xor_false]
        exact ⟨rfl, by rw [turn_sb, d, Bool.false_and, Bool.xor_false]⟩
      · show (mvM y (.mix i)).f.testBit j = _ ∧ (mvM y (.mix i)).s.testBit j = _
        rw [mix_fb, mix_sb, d, Bool.false_and, Bool.xor_false, Bool.xor_false]
        exact ⟨rfl, rfl⟩
    · exact ⟨rfl, rfl⟩
theorem pass2_bits (x : Tm) : ∀ (t : List Nat) (y : Tm), t.Nodup → (∀ i ∈ t, y.f.testBit i = x.f.testBit i ∧ y.s.testBit i = x.s.testBit i) → ∀ j,
    (mvR y (pass2 x t)).f.testBit j = (if j ∈ t then false else y.f.testBit j) ∧
    (mvR y (pass2 x t)).s.testBit j = (if j ∈ t then (x.f.testBit j || x.s.testBit j) else y.s.testBit j)
  | [], y, _, _, j => ⟨rfl, rfl⟩
  | i :: t, y, nd, h, j => by
    obtain ⟨ni, nd'⟩ := List.nodup_cons.1 nd
    obtain ⟨h1, h2⟩ := h i List.mem_cons_self
    have b := ps2_bits h1 h2
    have r := pass2_bits x t (mvR y (ps2 x i)) nd' (fun k hk => by
      have ne : k ≠ i := fun e => ni (e ▸ hk)
      obtain ⟨g1, g2⟩ := h k (List.mem_cons_of_mem _ hk)
      rw [(b k).1, (b k).2, if_neg ne, if_neg ne]
      exact ⟨g1, g2⟩) j
    have e : pass2 x (i :: t) = ps2 x i ++ pass2 x t := rfl
    rw [e, mvR_cut, r.1, r.2, (b j).1, (b j).2]
    by_cases m : j ∈ t
    · rw [if_pos m, if_pos m, if_pos (List.mem_cons_of_mem _ m), if_pos (List.mem_cons_of_mem _ m)]
      exact ⟨rfl, rfl⟩
    · rw [if_neg m, if_neg m]
      by_cases e : j = i
      · subst e
        rw [if_pos rfl, if_pos rfl, if_pos List.mem_cons_self, if_pos List.mem_cons_self]
        exact ⟨rfl, rfl⟩
      · have nm : j ∉ i :: t := fun hm => by
          rcases List.mem_cons.1 hm with k | k
          · exact e k
          · exact m k
        rw [if_neg e, if_neg e, if_neg nm, if_neg nm]
        exact ⟨rfl, rfl⟩
abbrev ifc (c i : Nat) : Mv := .iff i c
theorem ifs2_bits {c : Nat} : ∀ (r : List Nat) (y : Tm), r.Nodup → c ∉ r → y.f = 0 → y.s.testBit c = true → ∀ j,
    (mvR y (r.map (ifc c))).f = 0 ∧ (mvR y (r.map (ifc c))).s.testBit j = (y.s.testBit j ^^ decide (j ∈ r))
  | [], y, _, _, hf, _, j => ⟨hf, by simp [mvR]⟩
  | b :: r, y, nd, hc, hf, hs, j => by
    obtain ⟨nb, nd'⟩ := List.nodup_cons.1 nd
    have hb : b ≠ c := fun e => hc (e ▸ List.mem_cons_self)
    have ef : (mvM y (.iff b c)).f = 0 := by
      show y.f ^^^ bt y.f b * 2 ^ c = 0
      rw [hf, bt0 (Nat.zero_testBit b), Nat.zero_mul]
      rfl
    obtain ⟨r1, r2⟩ := ifs2_bits r (mvM y (.iff b c)) nd' (fun k => hc (List.mem_cons_of_mem _ k)) ef (by rw [iff_sb, decide_eq_false hb, hs]; rfl) j
    show (mvR (mvM y (.iff b c)) (r.map (ifc c))).f = 0 ∧ (mvR (mvM y (.iff b c)) (r.map (ifc c))).s.testBit j = _
    refine ⟨r1, ?_⟩
    rw [r2, iff_sb, hs, Bool.and_true, Bool.xor_assoc]
    congr 1
    by_cases e : b = j
    · subst e
      rw [decide_eq_true rfl, decide_eq_false nb, decide_eq_true List.mem_cons_self]
      rfl
    · rw [decide_eq_false e, Bool.false_xor]
      congr 1
      exact propext ⟨List.mem_cons_of_mem _, fun k => (List.mem_cons.1 k).resolve_left (Ne.symm e)⟩
def sgW (c : Nat) : List Nat → List Mv
  | [] => []
  | h :: _ => if h = c then [] else [.swap c h]
def lwS (x : Tm) (c : Nat) : List Nat := (List.range c).filter x.s.testBit
def stG0 (x : Tm) (c n : Nat) : List Mv := pass2 x (tch x c n) ++ sgW c (tch x c n) ++ (tch x c n).tail.map (ifc c) ++ (lwS x c).map (ifc c)
def stG (x : Tm) (c n : Nat) : List Mv := stG0 x c n ++ if (mvR x (stG0 x c n)).q = 2 then [.flip c] else []
theorem lwS_mem {x : Tm} {c i : Nat} : i ∈ lwS x c ↔ i < c ∧ x.s.testBit i = true := by
  unfold lwS
  rw [List.mem_filter, List.mem_range]
def NoF (c : Nat) (x : Tm) : Prop := ∀ i, i < c → x.f.testBit i = false
theorem stG0_to {x : Tm} {c n : Nat} (hx : x.lt n) (hu : NoF c x) (ne : tch x c n ≠ []) : (mvR x (stG0 x c n)).f = 0 ∧ (mvR x (stG0 x c n)).s = 2 ^ c := by
  have p := pass2_bits x (tch x c n) x tch_nd (fun i _ => ⟨rfl, rfl⟩)
  unfold stG0
  rw [List.append_assoc, List.append_assoc, mvR_cut]
  generalize hy : mvR x (pass2 x (tch x c n)) = y at *
  have yf : y.f = 0 := by
    refine Nat.eq_of_testBit_eq fun j => ?_
    rw [Nat.zero_testBit, (p j).1]
    split
    · rfl
    · rename_i m
      by_cases a : j < c
      · exact hu j a
      · by_cases b : n ≤ j
        · exact hi_bit hx.f b
        · cases k : x.f.testBit j
          · rfl
          · exact absurd (tch_mem.2 ⟨by omega, by omega, by rw [k, Bool.true_or]⟩) m
  have ys : ∀ j, y.s.testBit j = (decide (j ∈ tch x c n) || decide (j ∈ lwS x c)) := fun j => by
    rw [(p j).2]
    by_cases m : j ∈ tch x c n
    · rw [if_pos m, decide_eq_true m, (tch_mem.1 m).2.2]
      rfl
    · rw [if_neg m, decide_eq_false m, Bool.false_or]
      by_cases a : j < c
      · by_cases b : x.s.testBit j = true
        · rw [b, decide_eq_true (lwS_mem.2 ⟨a, b⟩)]
        · rw [Bool.eq_false_iff.2 b, decide_eq_false fun k => b (lwS_mem.1 k).2]
      · rw [decide_eq_false fun k => a (lwS_mem.1 k).1]
        by_cases b : n ≤ j
        · exact hi_bit hx.s b
        · cases k : x.s.testBit j
          · rfl
          · exact absurd (tch_mem.2 ⟨by omega, by omega, by rw [k, Bool.or_true]⟩) m
  have pw := tch_pw (x := x) (c := c) (n := n)
  have mem := fun i => (tch_mem (x := x) (c := c) (n := n) (i := i)).1
  have lm := fun i => (lwS_mem (x := x) (c := c) (i := i)).1
  have ln : (lwS x c).Nodup := List.Pairwise.filter _ List.nodup_range
  generalize tch x c n = t at *
  generalize lwS x c = l at *
  cases t with
  | nil => exact absurd rfl ne
  | cons h r =>
    obtain ⟨p1, p2⟩ := List.pairwise_cons.1 pw
    have hc := mem h List.mem_cons_self
    have nd : r.Nodup := p2.imp Nat.ne_of_lt
    have nc : c ∉ r := fun k => by have := p1 c k; omega
    have nh : h ∉ r := fun k => by have := p1 h k; omega
    have nl : c ∉ l := fun k => by have := lm c k; omega
    have hl : h ∉ l := fun k => by have := lm h k; omega
    have rl : ∀ j, j ∈ r → j ∉ l := fun j a b => by
      have := mem j (List.mem_cons_of_mem _ a)
      have := lm j b
      omega
    show (mvR y ((if h = c then [] else [.swap c h]) ++ (r.map (ifc c) ++ l.map (ifc c)))).f = _ ∧ (mvR y ((if h = c then [] else [.swap c h]) ++ (r.map (ifc c) ++ l.map (ifc c)))).s = _
    rw [mvR_cut, ← List.map_append]
    have z : (mvR y (if h = c then [] else [.swap c h])).f = 0 ∧ ∀ j, (mvR y (if h = c then [] else [.swap c h])).s.testBit j = (decide (c = j) ^^ decide (j ∈ r ++ l)) := by
      by_cases e : h = c
      · rw [if_pos e]
        refine ⟨yf, fun j => ?_⟩
        show y.s.testBit j = _
        rw [ys]
        by_cases k : c = j
        · subst k
          rw [decide_eq_true (e ▸ List.mem_cons_self), decide_eq_true rfl, decide_eq_false fun q => (List.mem_append.1 q).elim nc nl]
          rfl
        · rw [decide_eq_false k, Bool.false_xor, ← Bool.decide_or]
          congr 1
          refine propext ⟨fun q => List.mem_append.2 (q.imp (fun q => (List.mem_cons.1 q).resolve_left fun a => k (by omega)) id), fun q => (List.mem_append.1 q).imp (List.mem_cons_of_mem _) id⟩
      · rw [if_neg e]
        have ec : c ≠ h := fun a => e a.symm
        refine ⟨?_, fun j => ?_⟩
        · show trd y.f c h = 0
          rw [yf]
          unfold trd
          rw [if_pos (by rw [Nat.zero_testBit, Nat.zero_testBit])]
        · show (trd y.s c h).testBit j = _
          have n0 : c ∉ h :: r := fun q => by
            rcases List.mem_cons.1 q with q | q
            · exact ec q
            · exact nc q
          rw [trd_b ec, ys, ys, ys, decide_eq_false n0, decide_eq_false nl, decide_eq_true (List.mem_cons_self (a := h) (l := r))]
          by_cases k : c = j
          · subst k
            rw [decide_eq_true rfl, decide_eq_false e, decide_eq_false n0, decide_eq_false nl, decide_eq_false fun q => (List.mem_append.1 q).elim nc nl]
            rfl
          · by_cases k2 : h = j
            · subst k2
              rw [decide_eq_false k, decide_eq_true rfl, decide_eq_false hl, decide_eq_true List.mem_cons_self, decide_eq_false fun q => (List.mem_append.1 q).elim nh hl]
              rfl
            · rw [decide_eq_false k, decide_eq_false k2, Bool.false_xor, ← Bool.decide_or]
              have : decide (j ∈ h :: r ∨ j ∈ l) = decide (j ∈ r ++ l) := by
                congr 1
                exact propext ⟨fun q => List.mem_append.2 (q.imp (fun q => (List.mem_cons.1 q).resolve_left fun a => k2 a.symm) id), fun q => (List.mem_append.1 q).imp (List.mem_cons_of_mem _) id⟩
              rw [this]
              cases decide (j ∈ r ++ l) <;> rfl
    generalize mvR y (if h = c then [] else [.swap c h]) = w at *
    obtain ⟨z1, z2⟩ := z
    have nrl : c ∉ r ++ l := fun q => (List.mem_append.1 q).elim nc nl
    have q := fun j => ifs2_bits (c := c) (r ++ l) w (List.nodup_append.2 ⟨nd, ln, fun a ha b hb e => rl a ha (e ▸ hb)⟩) nrl z1 (by rw [z2, decide_eq_true rfl, decide_eq_false nrl]; rfl) j
    refine ⟨(q 0).1, ?_⟩
    refine Nat.eq_of_testBit_eq fun j => ?_
    rw [(q j).2, z2, bit_pow]
    cases decide (c = j) <;> cases decide (j ∈ r ++ l) <;> rfl
theorem pass2_ok {x : Tm} {c n : Nat} : ∀ t : List Nat, (∀ i ∈ t, c ≤ i ∧ i < n) → SOk c n (pass2 x t)
  | [], _ => SOk.nil
  | i :: t, h => by
    have e : pass2 x (i :: t) = ps2 x i ++ pass2 x t := rfl
    rw [e]
    obtain ⟨h1, h2⟩ := h i List.mem_cons_self
    refine SOk.app ?_ (pass2_ok t fun k hk => h k (List.mem_cons_of_mem _ hk))
    unfold ps2
    split
    · refine SOk.app ?_ (SOk.one ⟨⟨h2, h1⟩, trivial⟩)
      split
      · exact SOk.one ⟨⟨⟨h2, by decide, by decide⟩, h1⟩, rfl⟩
      · exact SOk.nil
    · exact SOk.nil
theorem sgW_ok {c n : Nat} {t : List Nat} (ht : ∀ i ∈ t, c ≤ i ∧ i < n) : SOk c n (sgW c t) := by
  cases t with
  | nil => exact SOk.nil
  | cons h r =>
    obtain ⟨h1, h2⟩ := ht h List.mem_cons_self
    show SOk c n (if h = c then [] else [.swap c h])
    split
    · exact SOk.nil
    · rename_i ne
      exact SOk.one (m := .swap c h) ⟨⟨⟨by omega, h2, fun e => ne e.symm⟩, Nat.le_refl c, h1⟩, trivial⟩
theorem ifs2_ok {c n : Nat} {t : List Nat} (hc : c < n) (ht : ∀ i ∈ t, i ≠ c ∧ i < n) : SOk 0 n (t.map (ifc c)) := fun m hm => by
  obtain ⟨i, hi, rfl⟩ := List.mem_map.1 hm
  obtain ⟨h1, h2⟩ := ht i hi
  exact ⟨⟨⟨h2, hc, h1⟩, Nat.zero_le _, Nat.zero_le _⟩, trivial⟩
theorem tch_tail {x : Tm} {c n i : Nat} (h : i ∈ (tch x c n).tail) : i ≠ c ∧ i < n := by
  have pw := tch_pw (x := x) (c := c) (n := n)
  have mem := fun i => (tch_mem (x := x) (c := c) (n := n) (i := i)).1
  generalize tch x c n = t at *
  cases t with
  | nil => exact nomatch h
  | cons a r =>
    have h : i ∈ r := h
    have p := (List.pairwise_cons.1 pw).1 i h
    have m := mem a List.mem_cons_self
    have m2 := mem i (List.mem_cons_of_mem _ h)
    exact ⟨by omega, m2.2.1⟩
theorem tch_cn {x : Tm} {c n : Nat} (h : tch x c n ≠ []) : c < n := by
  obtain ⟨i, hi⟩ := List.exists_mem_of_ne_nil _ h
  have := tch_mem.1 hi
  omega
theorem stG0_ok {x : Tm} {c n : Nat} (hc : c < n) : SOk 0 n (stG0 x c n) := by
  have h : ∀ i ∈ tch x c n, c ≤ i ∧ i < n := fun i hi => ⟨(tch_mem.1 hi).1, (tch_mem.1 hi).2.1⟩
  refine SOk.app (SOk.app (SOk.app (SOk.low (Nat.zero_le c) (pass2_ok _ h)) (SOk.low (Nat.zero_le c) (sgW_ok h))) (ifs2_ok hc fun i hi => tch_tail hi)) (ifs2_ok hc fun i hi => ?_)
  have := (lwS_mem.1 hi).1
  omega
theorem stG_ok {x : Tm} {c n : Nat} (hc : c < n) : SOk 0 n (stG x c n) := by
  refine SOk.app (stG0_ok hc) ?_
  split
  · exact SOk.one ⟨⟨hc, Nat.zero_le _⟩, trivial⟩
  · exact SOk.nil
theorem pass2_len {x : Tm} : ∀ t : List Nat, (pass2 x t).length ≤ 2 * t.length
  | [] => Nat.le_refl _
  | i :: t => by
    have e : pass2 x (i :: t) = ps2 x i ++ pass2 x t := rfl
    have h1 : (ps2 x i).length ≤ 2 := by
      unfold ps2
      split
      · split <;> simp
      · simp
    have h2 := pass2_len (x := x) t
    rw [e, List.length_append, List.length_cons]
    omega
theorem stG0_len {x : Tm} {c n : Nat} (hc : c < n) : (stG0 x c n).length ≤ 4 * n := by
  have h3 := tch_len (x := x) (c := c) (n := n)
  have h4 : (lwS x c).length ≤ c := Nat.le_trans (List.length_filter_le _ _) (by rw [List.length_range]; exact Nat.le_refl _)
  unfold stG0
  rw [List.length_append, List.length_append, List.length_append, List.length_map, List.length_map]
  generalize tch x c n = t at *
  have h1 := pass2_len (x := x) t
  have h2 : (sgW c t).length + t.tail.length ≤ t.length := by
    cases t with
    | nil => exact Nat.le_refl _
    | cons a r =>
      have : (sgW c (a :: r)).length ≤ 1 := by
        show (if a = c then [] else [Mv.swap c a]).length ≤ 1
        split
        · exact Nat.zero_le _
        · exact Nat.le_refl _
      show (sgW c (a :: r)).length + r.length ≤ r.length + 1
      omega
  omega
theorem stG_len {x : Tm} {c n : Nat} (hc : c < n) : (stG x c n).length ≤ 4 * n + 1 := by
  have h1 := stG0_len (x := x) hc
  unfold stG
  rw [List.length_append]
  split
  · exact Nat.add_le_add h1 (Nat.le_refl 1)
  · exact Nat.le_trans h1 (Nat.le_succ _)
theorem stG_to {x : Tm} {c n : Nat} (hx : x.lt n) (px : x.par = 0) (hu : NoF c x) (ne : tch x c n ≠ []) : mvR x (stG x c n) = sgn c := by
  have hc := tch_cn ne
  have t := stG0_to hx hu ne
  have o := stG0_ok (x := x) hc
  have l := mvR_lt _ hx o.ok
  have p := mvR_par (x := x) _ o.ok
  rw [px] at p
  unfold stG
  generalize hS : stG0 x c n = S at *
  rw [mvR_cut]
  generalize mvR x S = y at *
  obtain ⟨q, f, s⟩ := y
  obtain ⟨t1, t2⟩ := t
  dsimp only at t1 t2
  subst t1 t2
  rw [par_sign] at p
  have lq : q < 4 := l.q
  rcases even_02 lq p with rfl | rfl
  · rw [if_neg (by show ¬ (0 : Nat) = 2; decide)]
    rfl
  · rw [if_pos rfl]
    show mvM ⟨2, 0, 2 ^ c⟩ (.flip c) = _
    rw [flip_sign]
    rfl
theorem sgn_dn {c i : Nat} (h : i < c) : Dn c (sgn i) := by
  refine ⟨by show 0 < 4; decide, fun j hj => ⟨Nat.zero_testBit j, ?_⟩⟩
  show (2 ^ i).testBit j = false
  rw [bit_pow]
  exact decide_eq_false (by omega)
theorem ifs2_sgn {c i : Nat} (h : i ≠ c) : ∀ t : List Nat, mvR (sgn i) (t.map (ifc c)) = sgn i
  | [] => rfl
  | a :: t => by
    have e : mvM (sgn i) (.iff a c) = sgn i := by
      refine tm_ext rfl ?_ ?_
      · show 0 ^^^ bt 0 a * 2 ^ c = 0
        rw [bt0 (Nat.zero_testBit a), Nat.zero_mul]
        rfl
      · show 2 ^ i ^^^ bt (2 ^ i) c * 2 ^ a = 2 ^ i
        rw [bt0 (by rw [bit_pow]; exact decide_eq_false h), Nat.zero_mul, Nat.xor_zero]
    show mvR (mvM (sgn i) (.iff a c)) (t.map (ifc c)) = sgn i
    rw [e]
    exact ifs2_sgn h t
theorem stG_keep {x : Tm} {c n i : Nat} (hc : c < n) (h : i < c) : mvR (sgn i) (stG x c n) = sgn i := by
  have ht : ∀ i ∈ tch x c n, c ≤ i ∧ i < n := fun i hi => ⟨(tch_mem.1 hi).1, (tch_mem.1 hi).2.1⟩
  have d := sgn_dn h
  have ne : i ≠ c := by omega
  unfold stG stG0
  rw [mvR_cut, mvR_cut, mvR_cut, mvR_cut, mvR_dn _ (pass2_ok _ ht).ge d, mvR_dn _ (sgW_ok ht).ge d, ifs2_sgn ne, ifs2_sgn ne]
  refine mvR_dn (c := c) (n := n) _ ?_ d
  intro m hm
  split at hm
  · rw [List.mem_singleton.1 hm]
    exact ⟨hc, Nat.le_refl c⟩
  · exact nomatch hm
/-! ### tables -/
structure Tab (n : Nat) (L : List Tm) : Prop where
  lt : ∀ x ∈ L, x.lt n
  par : ∀ x ∈ L, x.par = 0
  cm : ∀ x ∈ L, ∀ y ∈ L, PX.cm x y = true
  ind : Ind L
theorem cm_mv {n : Nat} {ms : List Mv} (ok : ∀ m ∈ ms, m.ok n) (x y : Tm) : cm (mvR x ms) (mvR y ms) = cm x y := cm_sp.2 (sp_mvR ms x y ok)
theorem Tab.mv {n : Nat} {L : List Tm} (h : Tab n L) {ms : List Mv} (ok : SOk 0 n ms) : Tab n (L.map fun x => mvR x ms) := by
  refine ⟨fun y hy => ?_, fun y hy => ?_, fun y hy z hz => ?_, Ind.mv ok h.lt h.ind⟩
  · obtain ⟨x, hx, rfl⟩ := List.mem_map.1 hy
    exact mvR_lt _ (h.lt x hx) ok.ok
  · obtain ⟨x, hx, rfl⟩ := List.mem_map.1 hy
    exact (mvR_par _ ok.ok).trans (h.par x hx)
  · obtain ⟨x, hx, rfl⟩ := List.mem_map.1 hy
    obtain ⟨w, hw, rfl⟩ := List.mem_map.1 hz
    rw [cm_mv ok.ok]
    exact h.cm x hx w hw
theorem cm_sgn {x : Tm} {i : Nat} : cm x (sgn i) = !x.f.testBit i := by
  unfold cm sgn
  dsimp only
  rw [Nat.and_zero, pop_zero, and_pow]
  cases x.f.testBit i
  · rw [if_neg (by decide), pop_zero]; rfl
  · rw [if_pos rfl, pop_two_pow]; rfl
/-- a mark with signs at the first cells alone is spanned by these -/
theorem low_span : ∀ (c : Nat) (v : Tm), v.f = 0 → v.s < 2 ^ c → SpT ((List.range c).map sgn) v
  | 0, v, h1, h2 => ⟨h1, by have : v.s < 1 := h2; omega⟩
  | c + 1, v, h1, h2 => by
    have sub : ∀ a ∈ (List.range c).map sgn, SpT ((List.range (c + 1)).map sgn) a := fun a ha => by
      obtain ⟨i, hi, rfl⟩ := List.mem_map.1 ha
      refine SpT.mem (List.mem_map.2 ⟨i, ?_, rfl⟩)
      have := List.mem_range.1 hi
      exact List.mem_range.2 (by omega)
    have top : SpT ((List.range (c + 1)).map sgn) (sgn c) := SpT.mem (List.mem_map.2 ⟨c, List.mem_range.2 (Nat.lt_succ_self c), rfl⟩)
    by_cases b : v.s.testBit c = true
    · have k := low_span c (xr v (sgn c)) (by show v.f ^^^ 0 = 0; rw [h1]; rfl) (by
        show v.s ^^^ 2 ^ c < 2 ^ c
        refine Nat.lt_pow_two_of_testBit _ fun j hj => ?_
        rw [Nat.testBit_xor, bit_pow]
        by_cases e : c = j
        · subst e
          rw [b, decide_eq_true rfl]
          rfl
        · rw [decide_eq_false e, Bool.xor_false]
          exact hi_bit h2 (by omega))
      exact ((SpT.le sub k).add top).eq (xr_can v (sgn c))
    · refine SpT.le sub (low_span c v h1 ?_)
      refine Nat.lt_pow_two_of_testBit _ fun j hj => ?_
      by_cases e : c = j
      · subst e
        exact Bool.eq_false_iff.2 b
      · exact hi_bit h2 (by omega)
/-- the first ones are signs by now -/
structure Lv (n c : Nat) (L : List Tm) : Prop where
  tab : Tab n L
  sg : ∀ i, i < c → L[i]? = some (sgn i)
theorem Lv.ready {n c : Nat} {L : List Tm} (h : Lv n c L) {x : Tm} (hx : L[c]? = some x) : NoF c x ∧ tch x c n ≠ [] := by
  have mx : x ∈ L := List.mem_of_getElem? hx
  have lx := h.tab.lt x mx
  have nf : NoF c x := fun i hi => by
    have := h.tab.cm x mx (sgn i) (List.mem_of_getElem? (h.sg i hi))
    rw [cm_sgn] at this
    cases q : x.f.testBit i
    · rfl
    · rw [q] at this; exact absurd this (by decide)
  refine ⟨nf, fun e => ?_⟩
  have no : ∀ i, c ≤ i → x.f.testBit i = false ∧ x.s.testBit i = false := fun i hi => by
    by_cases b : n ≤ i
    · exact ⟨hi_bit lx.f b, hi_bit lx.s b⟩
    · cases q1 : x.f.testBit i <;> cases q2 : x.s.testBit i
      · exact ⟨rfl, rfl⟩
      all_goals
        have : i ∈ tch x c n := tch_mem.2 ⟨hi, by omega, by rw [q1, q2]; rfl⟩
        rw [e] at this
        exact nomatch this
  have f0 : x.f = 0 := Nat.eq_of_testBit_eq fun j => by
    rw [Nat.zero_testBit]
    by_cases a : j < c
    · exact nf j a
    · exact (no j (by omega)).1
  have s0 : x.s < 2 ^ c := Nat.lt_pow_two_of_testBit _ fun j hj => (no j hj).2
  have sp := low_span c x f0 s0
  have hc : c < L.length := (List.getElem?_eq_some_iff.1 hx).1
  have eL : L = L.take c ++ x :: L.drop (c + 1) := by
    have e1 := List.take_append_drop c L
    have e2 : L.drop c = x :: L.drop (c + 1) := by
      rw [List.drop_eq_getElem_cons hc]
      congr 1
      have := List.getElem?_eq_getElem hc
      rw [hx] at this
      exact (Option.some.inj this).symm
    rw [e2] at e1
    exact e1.symm
  have hi := h.tab.ind
  rw [eL] at hi
  refine (Ind.mid.1 hi).1 (SpT.le (fun a ha => ?_) sp)
  obtain ⟨i, hi, rfl⟩ := List.mem_map.1 ha
  have hi := List.mem_range.1 hi
  refine SpT.mem (List.mem_append.2 (.inl ?_))
  refine List.mem_of_getElem? (i := i) ?_
  rw [List.getElem?_take_of_lt hi]
  exact h.sg i hi
theorem Lv.step {n c : Nat} {L : List Tm} (h : Lv n c L) {x : Tm} (hx : L[c]? = some x) : Lv n (c + 1) (L.map fun y => mvR y (stG x c n)) := by
  obtain ⟨nf, ne⟩ := h.ready hx
  have hc := tch_cn ne
  have mx : x ∈ L := List.mem_of_getElem? hx
  refine ⟨h.tab.mv (stG_ok hc), fun i hi => ?_⟩
  rw [List.getElem?_map]
  by_cases e : i < c
  · rw [h.sg i e]
    show some (mvR (sgn i) _) = _
    rw [stG_keep hc e]
  · have : i = c := by omega
    subst this
    rw [hx]
    show some (mvR x _) = _
    rw [stG_to (h.tab.lt x mx) (h.tab.par x mx) nf ne]
/-- the steps for all rows -/
def lay (n : Nat) : Nat → Nat → List Tm → List Mv
  | 0, _, _ => []
  | k + 1, c, L => stG (L.getD c ⟨0, 0, 0⟩) c n ++ lay n k (c + 1) (L.map fun y => mvR y (stG (L.getD c ⟨0, 0, 0⟩) c n))
theorem getD_of {L : List Tm} {c : Nat} {x : Tm} (h : L[c]? = some x) : L.getD c ⟨0, 0, 0⟩ = x := by rw [List.getD_eq_getElem?_getD, h]; rfl
theorem lay_step {n k c : Nat} {L : List Tm} {x : Tm} (h : L[c]? = some x) : lay n (k + 1) c L = stG x c n ++ lay n k (c + 1) (L.map fun y => mvR y (stG x c n)) := by
  rw [lay, getD_of h]
theorem at_of {L : List Tm} {c : Nat} (h : c < L.length) : ∃ x, L[c]? = some x := ⟨L[c], List.getElem?_eq_getElem h⟩
theorem lay_facts {n : Nat} : ∀ (k c : Nat) (L : List Tm), c + k = L.length → Lv n c L → SOk 0 n (lay n k c L) ∧ (lay n k c L).length ≤ k * (4 * n + 1) ∧ (∀ i x, L[i]? = some x → mvR x (lay n k c L) = sgn i) ∧ c + k ≤ max n c
  | 0, c, L, h, hL => ⟨SOk.nil, Nat.zero_le _, fun i x hx => by
      have hi := (List.getElem?_eq_some_iff.1 hx).1
      have := hL.sg i (by omega)
      rw [hx] at this
      exact Option.some.inj this, by omega⟩
  | k + 1, c, L, h, hL => by
    obtain ⟨x, hx⟩ := at_of (L := L) (c := c) (by omega)
    obtain ⟨nf, ne⟩ := hL.ready hx
    have hc := tch_cn ne
    rw [lay_step hx]
    obtain ⟨a1, a2, a3, a4⟩ := lay_facts k (c + 1) (L.map fun y => mvR y (stG x c n)) (by rw [List.length_map]; omega) (hL.step hx)
    refine ⟨SOk.app (stG_ok hc) a1, ?_, fun i y hy => ?_, by omega⟩
    · have := stG_len (x := x) hc
      rw [List.length_append, Nat.add_mul]
      omega
    · rw [mvR_cut]
      exact a3 i _ (by rw [List.getElem?_map, hy]; rfl)
/-- the row that lays a table -/
def layR (n : Nat) (L : List Tm) : List Mv := backR (lay n L.length 0 L)
theorem Tab.lv {n : Nat} {L : List Tm} (h : Tab n L) : Lv n 0 L := ⟨h, fun i hi => by omega⟩
theorem Tab.len {n : Nat} {L : List Tm} (h : Tab n L) : L.length ≤ n := by
  have := (lay_facts L.length 0 L (Nat.zero_add _) h.lv).2.2.2
  omega
end PX

/-! PLTC: codes of marks, rows reduced, by what the defs of tables do. -/
namespace PX
open PySem PySem.Spec PyProof.Rows L2 SB
def places (n p : Nat) : List Nat := if h : n = 0 then [] else if n % 2 = 1 then p :: places (n / 2) (p + 1) else places (n / 2) (p + 1)
decreasing_by all_goals omega
theorem places_head : ∀ (n p : Nat), n ≠ 0 → ∃ j r, places n p = (p + j) :: r ∧ n.testBit j = true ∧ ∀ i, i < j → n.testBit i = false := fun n => by
  induction n using Nat.strongRecOn with
  | ind n ih =>
    intro p h
    rw [places, dif_neg h]
    by_cases o : n % 2 = 1
    · rw [if_pos o]
      exact ⟨0, _, rfl, by rw [Nat.testBit_zero, decide_eq_true o], fun i hi => by omega⟩
    · rw [if_neg o]
      obtain ⟨j, r, h1, h2, h3⟩ := ih (n / 2) (by omega) (p + 1) (by omega)
      refine ⟨j + 1, r, by rw [h1]; congr 1; omega, by rw [Nat.testBit_succ]; exact h2, fun i hi => ?_⟩
      cases i with
      | zero => rw [Nat.testBit_zero, decide_eq_false o]
      | succ i => rw [Nat.testBit_succ]; exact h3 i (by omega)
/-- a mark's code -/
def cd (x : Tm) : Nat := x.f ^^^ x.s <<< 6
def cb (x : Tm) (j : Nat) : Bool := (cd x).testBit j
theorem shl_bit (s j : Nat) : (s <<< 6).testBit j = (decide (6 ≤ j) && s.testBit (j - 6)) := Nat.testBit_shiftLeft ..
theorem cd_or {x : Tm} (h : x.lt 6) : x.f ||| x.s <<< 6 = cd x := by
  refine Nat.eq_of_testBit_eq fun j => ?_
  unfold cd
  rw [Nat.testBit_or, Nat.testBit_xor, shl_bit]
  by_cases a : 6 ≤ j
  · rw [hi_bit h.f a]
    cases (decide (6 ≤ j) && x.s.testBit (j - 6)) <;> rfl
  · rw [decide_eq_false a, Bool.false_and, Bool.or_false, Bool.xor_false]
theorem cd_xr (x y : Tm) : cd (xr x y) = cd x ^^^ cd y := by
  refine Nat.eq_of_testBit_eq fun j => ?_
  unfold cd xr
  dsimp only
  simp only [Nat.testBit_xor, shl_bit]
  cases x.f.testBit j <;> cases y.f.testBit j <;> cases decide (6 ≤ j) <;> cases x.s.testBit (j - 6) <;> cases y.s.testBit (j - 6) <;> rfl
theorem cd_nought {x : Tm} (h1 : x.f = 0) (h2 : x.s = 0) : cd x = 0 := by unfold cd; rw [h1, h2]; rfl
theorem cd_zero {x : Tm} (h : x.lt 6) (e : cd x = 0) : x.f = 0 ∧ x.s = 0 := by
  have b : ∀ j, (x.f.testBit j ^^ (decide (6 ≤ j) && x.s.testBit (j - 6))) = false := fun j => by
    have : (cd x).testBit j = (0 : Nat).testBit j := by rw [e]
    unfold cd at this
    rwa [Nat.testBit_xor, shl_bit, Nat.zero_testBit] at this
  constructor
  · refine Nat.eq_of_testBit_eq fun j => ?_
    rw [Nat.zero_testBit]
    by_cases a : 6 ≤ j
    · exact hi_bit h.f a
    · have := b j
      rwa [decide_eq_false a, Bool.false_and, Bool.xor_false] at this
  · refine Nat.eq_of_testBit_eq fun j => ?_
    rw [Nat.zero_testBit]
    have := b (j + 6)
    rwa [hi_bit h.f (Nat.le_add_left 6 j), decide_eq_true (Nat.le_add_left 6 j), Bool.true_and, Bool.false_xor, Nat.add_sub_cancel] at this
theorem cb_xr (x y : Tm) (j : Nat) : cb (xr x y) j = (cb x j ^^ cb y j) := by unfold cb; rw [cd_xr, Nat.testBit_xor]
theorem cb_nought {x : Tm} (h1 : x.f = 0) (h2 : x.s = 0) (j : Nat) : cb x j = false := by unfold cb; rw [cd_nought h1 h2, Nat.zero_testBit]
noncomputable def mulT (x y : Tm) : Tm := ⟨(x.q + y.q + 2 * pop (x.s &&& y.f)) % 4, x.f ^^^ y.f, x.s ^^^ y.s⟩
theorem mulT_eqv (x y : Tm) : eqv (mulT x y) (xr x y) := ⟨rfl, rfl⟩
theorem cb_mul (x y : Tm) (j : Nat) : cb (mulT x y) j = (cb x j ^^ cb y j) := cb_xr x y j
theorem mulT_lt {n : Nat} {x y : Tm} (h : x.lt n) (k : y.lt n) : (mulT x y).lt n := ⟨Nat.mod_lt _ (by decide), Nat.xor_lt_two_pow h.f k.f, Nat.xor_lt_two_pow h.s k.s⟩
/-- the least place at which a mark's code is at 1 -/
def ld (x : Tm) : Nat := (places (cd x) 0).headD 0
theorem ld_spec {x : Tm} (h : cd x ≠ 0) : cb x (ld x) = true ∧ ∀ i, i < ld x → cb x i = false := by
  obtain ⟨j, r, h1, h2, h3⟩ := places_head (cd x) 0 h
  have e : ld x = j := by
    unfold ld
    rw [h1, Nat.zero_add]
    rfl
  rw [e]
  exact ⟨h2, h3⟩
theorem cb_ne {x : Tm} {j : Nat} (h : cb x j = true) : cd x ≠ 0 := fun e => by
  unfold cb at h
  rw [e, Nat.zero_testBit] at h
  exact absurd h (by decide)
theorem ld_eq {x : Tm} {j : Nat} (h1 : cb x j = true) (h2 : ∀ i, i < j → cb x i = false) : ld x = j := by
  obtain ⟨k1, k2⟩ := ld_spec (cb_ne h1)
  rcases Nat.lt_trichotomy (ld x) j with a | a | a
  · rw [h2 _ a] at k1; exact absurd k1 (by decide)
  · exact a
  · rw [k2 _ a] at h1; exact absurd h1 (by decide)
/-- reduced, in whatever order -/
structure Red (K : List Tm) : Prop where
  nz : ∀ k ∈ K, cd k ≠ 0
  pw : K.Pairwise fun a b => cb a (ld b) = false ∧ cb b (ld a) = false
theorem Red.tl {a : Tm} {K : List Tm} (h : Red (a :: K)) : Red K := ⟨fun k hk => h.nz k (List.mem_cons_of_mem _ hk), (List.pairwise_cons.1 h.pw).2⟩
theorem sp_bit : ∀ {K : List Tm} {v : Tm} {j : Nat}, (∀ k ∈ K, cb k j = false) → SpT K v → cb v j = false
  | [], v, j, _, h => cb_nought h.1 h.2 j
  | a :: K, v, j, hk, h => by
    have hk2 := fun k m => hk k (List.mem_cons_of_mem a m)
    rcases h with h | h
    · exact sp_bit hk2 h
    · have := sp_bit hk2 h
      rwa [cb_xr, hk a List.mem_cons_self, Bool.xor_false] at this
theorem red_zero : ∀ {K : List Tm} {v : Tm}, Red K → SpT K v → (∀ k ∈ K, cb v (ld k) = false) → v.f = 0 ∧ v.s = 0
  | [], v, _, h, _ => h
  | a :: K, v, hr, h, hz => by
    rcases h with h | h
    · exact red_zero hr.tl h fun k m => hz k (List.mem_cons_of_mem a m)
    · have b := sp_bit (j := ld a) (fun k m => ((List.pairwise_cons.1 hr.pw).1 k m).2) h
      rw [cb_xr, hz a List.mem_cons_self, (ld_spec (hr.nz a List.mem_cons_self)).1] at b
      exact absurd b (by decide)
noncomputable def fre1 (x k : Tm) : Tm := if cb x (ld k) = true then mulT x k else x
noncomputable def fre (K : List Tm) (x : Tm) : Tm := K.foldl fre1 x
noncomputable def wt1 (x k : Tm) : Tm := if cb k (ld x) = true then mulT k x else k
noncomputable def wth (K : List Tm) (x : Tm) : List Tm := x :: K.map (wt1 x)
noncomputable def gat : List Tm → List Tm → Option (List Tm)
  | [], K => some K
  | r :: R, K => if cd (fre K r) = 0 then none else gat R (wth K (fre K r))
structure Gat (R K : List Tm) : Prop where
  red : Red K
  lt : ∀ n, (∀ r ∈ R, r.lt n) → ∀ k ∈ K, k.lt n
  sp : ∀ v, SpT K v ↔ SpT R v
  len : K.length = R.length
end PX

/-! PLTD: what the defs of tables tell. -/
namespace PX
open PySem PySem.Spec PyProof.Rows L2 SB
def PlacesOk (f : List PyData → Rr) : Prop := ∀ n : Nat, n < 2 ^ 64 → f [.int n] = .ok (.own ((places n 0).map fun (i : Nat) => PyData.int i))
theorem pl_loop {G : Gd} : ∀ (n p k : Nat) (acc : List PyData), n < 2 ^ k → acc.length ≤ p → p + k ≤ 1000 → ∃ y, whl (evB (ev G b_places_of_c1)) (sxs G b_places_of_w1) [.val (.int n), .own acc, .val (.int p)] = .nx [.val (.int 0), .own (acc ++ (places n p).map fun (i : Nat) => PyData.int i), y] := fun n => by
  induction n using Nat.strongRecOn with
  | ind n ih =>
    intro p k acc hn ha hk
    rw [whl_step]
    by_cases h : n = 0
    · subst h
      refine ⟨.val (.int p), ?_⟩
      rw [places, dif_pos rfl]
      simp [evB, b_places_of_c1]
    · have hp : 0 < n := by omega
      have hk0 : k ≠ 0 := fun z => by
        subst z
        simp at hn
        omega
      have e2 : 2 ^ k = 2 ^ (k - 1) * 2 := by
        rw [← Nat.pow_succ]
        congr 1
        omega
      rw [places, dif_neg h]
      by_cases ho : n % 2 = 1
      · obtain ⟨y, e⟩ := ih (n / 2) (by omega) (p + 1) (k - 1) (acc ++ [.int p]) (by omega) (by simp; omega) (by omega)
        refine ⟨y, ?_⟩
        rw [if_pos ho]
        have ho2 : (n : Int) % 2 = 1 := by omega
        have hl : acc.length < 16777216 := by omega
        simp at e
        simp [evB, b_places_of_c1, b_places_of_w1, whK, hp, ho2, hl] at e ⊢
        rw [e]
      · obtain ⟨y, e⟩ := ih (n / 2) (by omega) (p + 1) (k - 1) acc (by omega) (by omega) (by omega)
        refine ⟨y, ?_⟩
        rw [if_neg ho]
        have ho2 : ¬ (n : Int) % 2 = 1 := by omega
        simp at e
        simp [evB, b_places_of_c1, b_places_of_w1, whK, hp, ho2] at e ⊢
        rw [e]
theorem places_ok {G : Gd} {n : Nat} (h : n < 2 ^ 64) : fnD G b_places_of 3 [.int n] = .ok (.own ((places n 0).map fun (i : Nat) => PyData.int i)) := by
  obtain ⟨y, e⟩ := pl_loop (G := G) n 0 64 [] h (by simp) (by decide)
  have l0 : lineB 0 = true := by decide
  simp at e
  simp [fnD_res, b_places_of, l0, e]
def CodeOk (f : List PyData → Rr) : Prop := ∀ x : Tm, x.lt 6 → f [TD x] = vI (cd x : Nat)
theorem shl_6 : ∀ s : Nat, s < 64 → shlOk (s : Int) 6 = true := by decide
theorem shl_nat (s : Nat) : (s : Int) * (64 : Int) = ((s <<< 6 : Nat) : Int) := by
  have : s <<< 6 = s * 64 := Nat.shiftLeft_eq s 6
  omega
theorem code_ok {G : Gd} (hC : G.con 0 = some (.int 6)) {x : Tm} (h : x.lt 6) : fnD G b_code_of 1 [TD x] = vI (cd x : Nat) := by
  have sh := shl_6 x.s h.s
  have e := cd_or h
  have sn := shl_nat x.s
  rw [← e]
  simp [fnD_res, b_code_of, TD, M3, hC, sh]
  rw [sn, or_nat]
def HasAtOk (f : List PyData → Rr) : Prop := ∀ (x : Tm) (j : Nat), x.lt 6 → f [TD x, .int j] = vB (cb x j)
theorem has_at_ok {G : Gd} (hC : CodeOk (G.fn 0)) {x : Tm} {j : Nat} (h : x.lt 6) : fnD G b_has_at 2 [TD x, .int j] = vB (cb x j) := by
  have c := hC x h
  have hj : (0 : Int) ≤ (j : Int) := by omega
  unfold cb
  simp [fnD_res, b_has_at, c, hj, bit_int]
def LeadOk (f : List PyData → Rr) : Prop := ∀ x : Tm, x.lt 6 → cd x ≠ 0 → f [TD x] = vI (ld x : Nat)
theorem prodT {f : List PyData → Rr} (h : ProductOk f) (x y : Tm) : f [TD x, TD y] = .ok (.val (TD (mulT x y))) := h x.q x.f x.s y.q y.f y.s
def FreedOk (f : List PyData → Rr) : Prop := ∀ (K : List Tm) (x : Tm), (∀ k ∈ K, k.lt 6 ∧ cd k ≠ 0) → x.lt 6 → f [.list (K.map TD), TD x] = .ok (.val (TD (fre K x)))
def WithOk (f : List PyData → Rr) : Prop := ∀ (K : List Tm) (x : Tm), (∀ k ∈ K, k.lt 6) → x.lt 6 → cd x ≠ 0 → K.length ≤ 1000 → f [.list (K.map TD), TD x] = .ok (.own ((wth K x).map TD))
def gatD : Option (List Tm) → PyData
  | none => .none
  | some K => .list (K.map TD)
def GatheredOk (f : List PyData → Rr) : Prop := ∀ L : List Tm, (∀ x ∈ L, x.lt 6) → L.length ≤ 1000 → f [.list (L.map TD)] = .ok (.val (gatD (gat L [])))
end PX

/-! PLTE: whether rows are a table; the steps to a sign; a table laid. -/
namespace PX
open PySem PySem.Spec PyProof.Rows L2 SB
theorem commT {f : List PyData → Rr} (h : CommuteOk f) (x y : Tm) : f [TD x, TD y] = vB (cm x y) := h x.q x.f x.s y.q y.f y.s
theorem cm_self (x : Tm) : cm x x = true := by
  unfold cm
  rw [Nat.and_comm x.s x.f]
  exact decide_eq_true (by omega)
def GoodR : List Tm → List Tm → Prop
  | _, [] => True
  | P, x :: R => x.par = 0 ∧ (∀ y ∈ P, cm x y = true) ∧ GoodR (P ++ [x]) R
noncomputable instance (n : Nat) (L : List Tm) : Decidable (Tab n L) := Classical.propDecidable _
def TableOk (f : List PyData → Rr) : Prop := ∀ (n : Nat) (L : List Tm), n ≤ 6 → L.length ≤ 1000 → (∀ x ∈ L, x.lt n) → f [.list (L.map TD), .int n] = vB (decide (Tab n L))
theorem Tm.lt.up {m n : Nat} {x : Tm} (h : x.lt m) (l : m ≤ n) : x.lt n := ⟨h.q, Nat.lt_of_lt_of_le h.f (Nat.pow_le_pow_right (by decide) l), Nat.lt_of_lt_of_le h.s (Nat.pow_le_pow_right (by decide) l)⟩
end PX

/-! PLTF: the steps to a sign, a table laid, by the defs. -/
namespace PX
open PySem PySem.Spec PyProof.Rows L2 SB
abbrev nD (t : List Nat) : List PyData := t.map fun i : Nat => PyData.int (i : Int)
def StepsSignOk (f : List PyData → Rr) : Prop := ∀ (x : Tm) (c n : Nat), n ≤ 100 → tch x c n ≠ [] → f [TD x, .int c, .int n] = .ok (.own ((stG x c n).map mvD))
def LaidTOk (f : List PyData → Rr) : Prop := (∀ (n : Nat) (L : List Tm), n ≤ 6 → Tab n L → f [.list (L.map TD), .int n] = .ok (.own ((layR n L).map mvD))) ∧ (∀ (n : Nat) (L : List Tm), n ≤ 6 → L.length ≤ 1000 → (∀ x ∈ L, x.lt n) → ¬ Tab n L → f [.list (L.map TD), .int n] = .exc 8)
end PX

/-! PLTG: tables drawn by the laws. -/
namespace PX
open PySem PySem.Spec PyProof.Rows L2 SB
def EvenMarkOk (f : List PyData → Rr) : Prop := ∀ (c : Int) (n : Nat), n ≤ 6 → ∃ x : Tm, x.lt n ∧ x.par = 0 ∧ f [.int c, .int n] = .ok (.val (TD x))
theorem even_mark_ok {G : Gd} (hO : OnesOk (G.fn 0)) {c : Int} {n : Nat} (hn : n ≤ 6) : ∃ x : Tm, x.lt n ∧ x.par = 0 ∧ fnD G b__law_even_mark 5 [.int c, .int n] = .ok (.val (TD x)) := by
  have sh := shlOk_1 (k := n) (Nat.le_trans hn (by decide))
  have dv : ∀ z : Int, divOk z ((2 : Int) ^ n) = true := fun z => divOk_p (by omega)
  have hp := two_pow_pos n
  have n0 : ¬ (2 : Int) ^ n = 0 := by omega
  have nn : (0 : Int) ≤ 2 ^ n := by omega
  have l3 : lineB 3 = true := by decide
  have mo : ∀ z : Int, mulOk z 381966011250107 = true := fun z => mulOk_r (by decide)
  have pw : powOk 10 15 = true := by decide
  generalize hF : c * 381966011250107 % 1000000000000000 = F
  obtain ⟨f', hf', ef'⟩ := md2 (F / 2) n
  obtain ⟨s', hs', es'⟩ := md2 (F / 128) n
  have o1' := hO (f' &&& s')
  obtain ⟨q', eq', k'⟩ := emk_of (r := F % 2) hf' hs'
  have m2' : mulOk 2 (F % 2) = true := mulOk_l (by decide)
  refine ⟨⟨q', f', s'⟩, ⟨k'.hq, k'.hf, k'.hs⟩, k'.ev, ?_⟩
  simp [mulOk_r, mo, pw, fnD_res, b__law_even_mark, sh, dv, nn, n0, hF, l3, ef', es', divOk_s, o1', m2', eq', M3, TD]
/-! ### dicts of pairs -/
abbrev kPr (p : Nat × Nat) : List L2.Key := [.inl (p.1 : Int), .inl (p.2 : Int)]
def dP (ps : List (Nat × Nat)) : Dic := ps.map fun p => (kPr p, PyData.bool true)
theorem kPr_inj {p q : Nat × Nat} : kPr p = kPr q ↔ p = q := by
  constructor
  · intro h
    injection h with h1 h2
    injection h2 with h2 _
    injection h1 with h1
    injection h2 with h2
    exact Prod.ext (by omega) (by omega)
  · intro h; rw [h]
theorem dHas_dP (ps : List (Nat × Nat)) (p : Nat × Nat) : dHas (dP ps) (kPr p) = decide (p ∈ ps) := by
  unfold dHas dP
  rw [List.any_map]
  by_cases h : p ∈ ps
  · rw [decide_eq_true h, List.any_eq_true]
    exact ⟨p, h, decide_eq_true rfl⟩
  · rw [decide_eq_false h, List.any_eq_false]
    intro q hq e
    exact h ((kPr_inj.1 (of_decide_eq_true e)) ▸ hq)
def putP (ps : List (Nat × Nat)) (p : Nat × Nat) : List (Nat × Nat) := if p ∈ ps then ps else ps ++ [p]
theorem dPut_dP (ps : List (Nat × Nat)) (p : Nat × Nat) : dPut (dP ps) (kPr p) (.bool true) = dP (putP ps p) := by
  unfold dPut putP
  rw [dHas_dP]
  by_cases h : p ∈ ps
  · rw [if_pos h, if_pos (decide_eq_true h)]
    unfold dP
    rw [List.map_map]
    refine List.map_congr_left fun q _ => ?_
    show (if kPr q = kPr p then (kPr q, PyData.bool true) else (kPr q, PyData.bool true)) = _
    split <;> rfl
  · rw [if_neg h, if_neg (by rw [decide_eq_false h]; decide)]
    unfold dP
    rw [List.map_append]
    rfl
theorem putP_mem {ps : List (Nat × Nat)} {p q : Nat × Nat} : q ∈ putP ps p ↔ q ∈ ps ∨ q = p := by
  unfold putP
  split
  · rename_i h
    exact ⟨.inl, fun k => k.elim id fun e => e ▸ h⟩
  · rw [List.mem_append, List.mem_singleton]
theorem putP_len {ps : List (Nat × Nat)} {p : Nat × Nat} : (putP ps p).length ≤ ps.length + 1 := by
  unfold putP
  split
  · exact Nat.le_succ _
  · rw [List.length_append]; exact Nat.le_refl _
abbrev prX (x : Tm) (p : Nat × Nat) : Nat × Nat := (p.1 ^^^ x.f, p.2 ^^^ x.s)
def putA (x : Tm) (qs ps : List (Nat × Nat)) : List (Nat × Nat) := qs.foldl (fun ps q => putP ps (prX x q)) ps
theorem putA_mem {x : Tm} : ∀ {qs ps : List (Nat × Nat)} {p : Nat × Nat}, p ∈ putA x qs ps ↔ p ∈ ps ∨ ∃ q ∈ qs, p = prX x q
  | [], ps, p => ⟨.inl, fun h => h.elim id fun ⟨_, m, _⟩ => nomatch m⟩
  | a :: qs, ps, p => by
    show p ∈ putA x qs (putP ps (prX x a)) ↔ _
    rw [putA_mem, putP_mem]
    constructor
    · rintro ((h | h) | ⟨q, h1, h2⟩)
      · exact .inl h
      · exact .inr ⟨a, List.mem_cons_self, h⟩
      · exact .inr ⟨q, List.mem_cons_of_mem a h1, h2⟩
    · rintro (h | ⟨q, h1, h2⟩)
      · exact .inl (.inl h)
      · rcases List.mem_cons.1 h1 with rfl | h1
        · exact .inl (.inr h2)
        · exact .inr ⟨q, h1, h2⟩
theorem putA_len {x : Tm} : ∀ {qs ps : List (Nat × Nat)}, (putA x qs ps).length ≤ ps.length + qs.length
  | [], ps => Nat.le_refl _
  | a :: qs, ps => by
    show (putA x qs (putP ps (prX x a))).length ≤ ps.length + (qs.length + 1)
    have h1 := putA_len (x := x) (qs := qs) (ps := putP ps (prX x a))
    have h2 := putP_len (ps := ps) (p := prX x a)
    omega
/-- the pairs that the rows span -/
def KnP (L : List Tm) (ps : List (Nat × Nat)) : Prop := ∀ a b : Nat, (a, b) ∈ ps ↔ SpT L ⟨0, a, b⟩
theorem KnP.nil : KnP [] [(0, 0)] := fun a b => by
  rw [List.mem_singleton]
  constructor
  · intro h; injection h with h1 h2; exact ⟨h1, h2⟩
  · rintro ⟨h1, h2⟩
    have h1 : a = 0 := h1
    have h2 : b = 0 := h2
    rw [h1, h2]
theorem KnP.step {L : List Tm} {ps : List (Nat × Nat)} (h : KnP L ps) (x : Tm) : KnP (L ++ [x]) (putA x ps ps) := fun a b => by
  have q : SpT (x :: L) ⟨0, a, b⟩ ↔ SpT (L ++ [x]) ⟨0, a, b⟩ := SpT.perm (List.perm_append_comm (l₁ := [x]) (l₂ := L))
  rw [← q, putA_mem, h a b]
  refine or_congr Iff.rfl ?_
  show _ ↔ SpT L ⟨0, a ^^^ x.f, b ^^^ x.s⟩
  rw [← h]
  constructor
  · rintro ⟨⟨c, d⟩, m, e⟩
    injection e with e1 e2
    rw [e1, e2, xor_xor, xor_xor]
    exact m
  · intro m
    refine ⟨_, m, ?_⟩
    show (a, b) = ((a ^^^ x.f) ^^^ x.f, (b ^^^ x.s) ^^^ x.s)
    rw [xor_xor, xor_xor]
theorem KnP.mem {L : List Tm} {ps : List (Nat × Nat)} (h : KnP L ps) (x : Tm) : (x.f, x.s) ∈ ps ↔ SpT L x := (h x.f x.s).trans (SpT.iff ⟨rfl, rfl⟩)
theorem KnP.ne {L : List Tm} {ps : List (Nat × Nat)} (h : KnP L ps) : dP ps ≠ [] := fun e => by
  have m : ((0 : Nat), (0 : Nat)) ∈ ps := (h 0 0).2 (SpT.zero rfl rfl)
  cases ps with
  | nil => exact nomatch m
  | cons p ps => exact absurd e (List.cons_ne_nil _ _)
/-! ### tables -/
noncomputable instance (L : List Tm) (x : Tm) : Decidable (SpT L x) := Classical.propDecidable _
def FitsOk (f : List PyData → Rr) : Prop := ∀ (L : List Tm) (x : Tm) (ps : List (Nat × Nat)), KnP L ps → f [.list (L.map TD), .dict (encD (dP ps)), TD x] = vB (decide ((∀ y ∈ L, cm y x = true) ∧ ¬ SpT L x))
theorem fits_loop {G : Gd} (hC : CommuteOk (G.fn 0)) {x : Tm} {c0 c1 : Cell} : ∀ (P : List Tm) (c3 : Cell),
    ((∀ y ∈ P, cm y x = true) ∧ ∃ y3, forL (bodyF G (.nm 3) b__law_fits_l1) (P.map TD) [c0, c1, .val (TD x), c3] = .nx [c0, c1, .val (TD x), y3]) ∨
    ((¬ ∀ y ∈ P, cm y x = true) ∧ forL (bodyF G (.nm 3) b__law_fits_l1) (P.map TD) [c0, c1, .val (TD x), c3] = .ret (.val (.bool false)))
  | [], c4 => .inl ⟨fun _ h => (nomatch h), c4, rfl⟩
  | a :: P, c4 => by
    have h := commT hC a x
    rw [List.map_cons, forL_cons]
    cases q : cm a x
    · rw [q] at h
      have b : bodyF G (.nm 3) b__law_fits_l1 (TD a) [c0, c1, .val (TD x), c4] = .ret (.val (.bool false)) := by
        simp only [bodyF, b__law_fits_l1]
        simp [h]
      refine .inr ⟨fun k => ?_, by rw [b]; rfl⟩
      have := k a List.mem_cons_self
      rw [q] at this
      exact absurd this (by decide)
    · rw [q] at h
      have b : bodyF G (.nm 3) b__law_fits_l1 (TD a) [c0, c1, .val (TD x), c4] = .nx [c0, c1, .val (TD x), .val (TD a)] := by
        simp only [bodyF, b__law_fits_l1]
        simp [h]
      rw [b, forK_nx]
      rcases fits_loop hC (c0 := c0) (c1 := c1) P (.val (TD a)) with ⟨h1, y4, h2⟩ | ⟨h1, h2⟩
      · refine .inl ⟨fun y hy => ?_, y4, h2⟩
        rcases List.mem_cons.1 hy with rfl | hy
        · exact q
        · exact h1 y hy
      · exact .inr ⟨fun k => h1 fun y hy => k y (List.mem_cons_of_mem a hy), h2⟩
theorem fits_ok {G : Gd} (hC : CommuteOk (G.fn 0)) {L : List Tm} {x : Tm} {ps : List (Nat × Nat)} (h : KnP L ps) : fnD G b__law_fits 4 [.list (L.map TD), .dict (encD (dP ps)), TD x] = vB (decide ((∀ y ∈ L, cm y x = true) ∧ ¬ SpT L x)) := by
  have l2 : lineB 2 = true := by decide
  have cn : cop .nin (.tuple [.int (x.f : Nat), .int (x.s : Nat)]) (.dict (encD (dP ps))) = rbool (!decide (SpT L x)) := by
    rw [cop_nin_dict h.ne]
    have e := dHas_dP ps (x.f, x.s)
    have e : dHas (dP ps) [.inl (x.f : Int), .inl (x.s : Int)] = decide (SpT L x) := by
      rw [← decide_eq_decide.2 (h.mem x)]
      exact e
    rw [e]
  have lp := fits_loop hC (x := x) (c0 := .val (.list (L.map TD))) (c1 := .val (.dict (encD (dP ps)))) L .no
  generalize encD (dP ps) = E at *
  simp only [fnD_res, b__law_fits]
  rcases lp with ⟨h1, y3, h2⟩ | ⟨h1, h2⟩
  · by_cases s : SpT L x
    · rw [decide_eq_true s] at cn
      rw [decide_eq_false fun k => k.2 s]
      unfold TD M3 at *
      simp [h2, l2, cn]
    · rw [decide_eq_false s] at cn
      rw [decide_eq_true ⟨h1, s⟩]
      unfold TD M3 at *
      simp [h2, l2, cn]
  · rw [decide_eq_false fun k => h1 k.1]
    simp [h2]
theorem known_loop {G : Gd} {x : Tm} {c0 c1 c2 c3 c5 : Cell} : ∀ (qs ps : List (Nat × Nat)) (c7 c8 : Cell), ps.length + qs.length ≤ 1000000 → ∃ y7 y8, forL (bodyF G (.tp [7, 8]) b__law_table_l1) (qs.map fun q => PyData.tuple [.int (q.1 : Nat), .int (q.2 : Nat)]) [c0, c1, c2, c3, .dic (dP ps), c5, .val (TD x), c7, c8] = .nx [c0, c1, c2, c3, .dic (dP (putA x qs ps)), c5, .val (TD x), y7, y8]
  | [], ps, c7, c8, _ => ⟨c7, c8, rfl⟩
  | q :: qs, ps, c7, c8, h => by
    rw [List.length_cons] at h
    have hl : (dP ps).length < 16777216 := by unfold dP; rw [List.length_map]; omega
    have dp : dPut (dP ps) [.inl ((q.1 ^^^ x.f : Nat) : Int), .inl ((q.2 ^^^ x.s : Nat) : Int)] (.bool true) = dP (putP ps (prX x q)) := dPut_dP ps (prX x q)
    have de := dputE_int2 (i := 4) (kvs := dP ps) (d := .bool true) (r1 := [c0, c1, c2, c3, .dic (dP ps), c5, .val (TD x), .val (.int (q.1 : Nat)), .val (.int (q.2 : Nat))]) (a := ((q.1 ^^^ x.f : Nat) : Int)) (b := ((q.2 ^^^ x.s : Nat) : Int)) rfl hl
    rw [dp] at de
    have b : bodyF G (.tp [7, 8]) b__law_table_l1 (.tuple [.int (q.1 : Nat), .int (q.2 : Nat)]) [c0, c1, c2, c3, .dic (dP ps), c5, .val (TD x), c7, c8] = .nx [c0, c1, c2, c3, .dic (dP (putP ps (prX x q))), c5, .val (TD x), .val (.int (q.1 : Nat)), .val (.int (q.2 : Nat))] := by
      simp only [bodyF, b__law_table_l1]
      unfold TD M3 at de ⊢
      simp [de]
    have lp := putP_len (ps := ps) (p := prX x q)
    obtain ⟨y7, y8, e⟩ := known_loop (G := G) (x := x) (c0 := c0) (c1 := c1) (c2 := c2) (c3 := c3) (c5 := c5) qs (putP ps (prX x q)) (.val (.int (q.1 : Nat))) (.val (.int (q.2 : Nat))) (by omega)
    refine ⟨y7, y8, ?_⟩
    rw [List.map_cons, forL_cons, b, forK_nx, e]
    rfl
theorem Tab.snoc {n : Nat} {L : List Tm} (h : Tab n L) {x : Tm} (lx : x.lt n) (px : x.par = 0) (hc : ∀ y ∈ L, PX.cm y x = true) (s : ¬ SpT L x) : Tab n (L ++ [x]) := by
  have m : ∀ y, y ∈ L ++ [x] → y ∈ L ∨ y = x := fun y hy => (List.mem_append.1 hy).imp id List.mem_singleton.1
  refine ⟨fun y hy => ?_, fun y hy => ?_, fun y hy z hz => ?_, Ind.snoc.2 ⟨s, h.ind⟩⟩
  · rcases m y hy with k | rfl
    · exact h.lt y k
    · exact lx
  · rcases m y hy with k | rfl
    · exact h.par y k
    · exact px
  · rcases m y hy with k | e <;> rcases m z hz with k2 | e2
    · exact h.cm y k z k2
    · rw [e2]
      exact hc y k
    · rw [e, cm_comm]
      exact hc z k2
    · rw [e, e2]
      exact cm_self x
theorem Tab.nil {n : Nat} : Tab n [] := ⟨fun _ h => (nomatch h), fun _ h => (nomatch h), fun _ h => (nomatch h), trivial⟩
def LawTableOk (f : List PyData → Rr) : Prop := ∀ (zs : List Int) (n k : Nat), n ≤ 6 → k ≤ 6 → ∃ L : List Tm, Tab n L ∧ L.length ≤ k ∧ f [.list (zs.map .int), .int n, .int k] = .ok (.own (L.map TD))
theorem law_table_ok {G : Gd} (hF : FitsOk (G.fn 0)) (hE : EvenMarkOk (G.fn 1)) {zs : List Int} {n k : Nat} (hn : n ≤ 6) (hk : k ≤ 6) : ∃ L : List Tm, Tab n L ∧ L.length ≤ k ∧ fnD G b__law_table 9 [.list (zs.map .int), .int n, .int k] = .ok (.own (L.map TD)) := by
  have l0 : lineB 0 = true := by decide
  have lp := forL_ind (b := bodyF G (.nm 5) b__law_table_l2) (ds := zs.map .int) (r := [.val (.list (zs.map .int)), .val (.int n), .val (.int k), .own [], .dic (dP [(0, 0)]), .no, .no, .no, .no])
    (fun i r => ∃ (L : List Tm) (ps : List (Nat × Nat)) (y5 y6 y7 y8 : Cell), Tab n L ∧ L.length ≤ k ∧ KnP L ps ∧ ps.length ≤ 2 ^ L.length ∧ r = [.val (.list (zs.map .int)), .val (.int n), .val (.int k), .own (L.map TD), .dic (dP ps), y5, y6, y7, y8])
    (fun o => ∃ (L : List Tm) (c4 y5 y6 y7 y8 : Cell), Tab n L ∧ L.length ≤ k ∧ o = .nx [.val (.list (zs.map .int)), .val (.int n), .val (.int k), .own (L.map TD), c4, y5, y6, y7, y8])
    ⟨[], [(0, 0)], .no, .no, .no, .no, Tab.nil, Nat.zero_le _, KnP.nil, Nat.le_refl _, rfl⟩ ?_ ?_
  · obtain ⟨L, c4, y5, y6, y7, y8, h1, h2, lp⟩ := lp
    refine ⟨L, h1, h2, ?_⟩
    have lp : forL (bodyF G (.nm 5) b__law_table_l2) (zs.map .int) [.val (.list (zs.map .int)), .val (.int n), .val (.int k), .own [], .dic [([.inl 0, .inl 0], .bool true)], .no, .no, .no, .no] = _ := lp
    simp only [fnD_res, b__law_table]
    generalize zs.map PyData.int = zD at *
    simp [l0, lp]
  · rintro i d r ed ⟨L, ps, y5, y6, y7, y8, ht, hl, hK, hp, rfl⟩
    rw [List.getElem?_map] at ed
    obtain ⟨z, _, rfl⟩ := Option.map_eq_some_iff.1 ed
    obtain ⟨x, x1, x2, x3⟩ := hE z n hn
    have bn : bf .len [.list (L.map TD)] = rint (L.length : Nat) := by
      show rint ((L.map TD).length : Nat) = _
      rw [List.length_map]
    have fi := hF L x ps hK
    have hp2 : ps.length ≤ 64 := Nat.le_trans hp (Nat.le_trans (Nat.pow_le_pow_right (by decide) (show L.length ≤ 6 by omega)) (by decide))
    have ld : bf .list [.dict (encD (dP ps))] = some (.own (ps.map fun q => PyData.tuple [.int (q.1 : Nat), .int (q.2 : Nat)])) := by
      rw [bf_list_dict hK.ne]
      unfold dP
      rw [List.map_map]
      rfl
    have fl : (RV.own (ps.map fun q => PyData.tuple [.int (q.1 : Nat), .int (q.2 : Nat)])).flat = true := flats_of fun q _ => rfl
    by_cases c : L.length < k
    · have c' : (L.length : Int) < (k : Int) := by omega
      by_cases g : (∀ y ∈ L, cm y x = true) ∧ ¬ SpT L x
      · rw [decide_eq_true g] at fi
        obtain ⟨z7, z8, e⟩ := known_loop (G := G) (x := x) (c0 := .val (.list (zs.map .int))) (c1 := .val (.int n)) (c2 := .val (.int k)) (c3 := .own (L.map TD ++ [TD x])) (c5 := .val (.int z)) ps ps y7 y8 (by omega)
        refine .inl ⟨_, .inl ?_, L ++ [x], putA x ps ps, .val (.int z), .val (TD x), z7, z8, ht.snoc x1 x2 g.1 g.2, by rw [List.length_append]; exact c, hK.step x, ?_, rfl⟩
        · have la : (L.map TD).length < 16777216 := by rw [List.length_map]; omega
          have ea : (L ++ [x]).map TD = L.map TD ++ [TD x] := by rw [List.map_append]; rfl
          rw [ea]
          generalize L.map TD = LD at *
          generalize zs.map PyData.int = zD at *
          generalize (ps.map fun q => PyData.tuple [.int (q.1 : Nat), .int (q.2 : Nat)]) = PD at *
          simp only [bodyF, b__law_table_l2]
          simp [x3, bn, c, c', fi, la, ld, e, fl]
        · have := putA_len (x := x) (qs := ps) (ps := ps)
          rw [List.length_append]
          show (putA x ps ps).length ≤ 2 ^ (L.length + 1)
          rw [Nat.pow_succ]
          omega
      · rw [decide_eq_false g] at fi
        refine .inl ⟨_, .inl ?_, L, ps, .val (.int z), .val (TD x), y7, y8, ht, hl, hK, hp, rfl⟩
        generalize L.map TD = LD at *
        generalize zs.map PyData.int = zD at *
        simp only [bodyF, b__law_table_l2]
        simp [x3, bn, c, c', fi]
    · have c' : ¬ (L.length : Int) < (k : Int) := by omega
      refine .inl ⟨_, .inl ?_, L, ps, .val (.int z), .val (TD x), y7, y8, ht, hl, hK, hp, rfl⟩
      generalize L.map TD = LD at *
      generalize zs.map PyData.int = zD at *
      simp only [bodyF, b__law_table_l2]
      simp [x3, bn, c, c']
  · rintro r ⟨L, ps, y5, y6, y7, y8, h1, h2, _, _, rfl⟩
    exact ⟨L, _, y5, y6, y7, y8, h1, h2, rfl⟩
end PX

/-! PLTH: tables reduced; the least place of a number; what makes a row of marks no table. -/
namespace PX
open PySem PySem.Spec PyProof.Rows L2 SB
noncomputable def byLead (K : List Tm) : List Tm := K.mergeSort fun a b => decide ((ld a : Int) ≤ (ld b : Int))
noncomputable def redT (L : List Tm) : List Tm := byLead ((gat L []).getD [])
def ReducedOk (f : List PyData → Rr) : Prop := ∀ (n : Nat) (L : List Tm), n ≤ 6 → Tab n L → f [.list (L.map TD), .int n] = .ok (.own ((redT L).map TD))
def LeastOk (f : List PyData → Rr) : Prop := ∀ w : Nat, w ≠ 0 → w < 2 ^ 6 → ∃ j, j < 6 ∧ w.testBit j = true ∧ f [.int w] = vI (2 ^ j : Nat)
theorem cm_flp' {x : Tm} {i : Nat} : cm (Tm.mk 0 (2 ^ i) 0) x = !x.s.testBit i := by
  rw [cm_comm]
  unfold cm
  dsimp only
  rw [Nat.and_zero, pop_zero, and_pow]
  cases x.s.testBit i
  · rw [if_neg (by decide), pop_zero]; rfl
  · rw [if_pos rfl, pop_two_pow]; rfl
/-- what makes a row of marks no table where it stands in it -/
def BadT (fm : List PyData → Rr) (n : Nat) (L : List Tm) (d : PyData) : Prop := (∃ x : Tm, x.lt n ∧ d = TD x ∧ (x.par ≠ 0 ∨ (∃ y ∈ L, cm x y = false) ∨ SpT L x)) ∨ fm [d, .int n] = vB false
end PX

/-! PLTI: products of rows with their spins; the reduced form is the same for the same products. -/
namespace PX
open PySem PySem.Spec PyProof.Rows L2 SB
abbrev T0 : Tm := ⟨0, 0, 0⟩
theorem Tm.ext' {x y : Tm} (h1 : x.q = y.q) (h2 : x.f = y.f) (h3 : x.s = y.s) : x = y := by
  cases x; cases y; cases h1; cases h2; cases h3; rfl
theorem mulT_assoc (x y z : Tm) : mulT (mulT x y) z = mulT x (mulT y z) := by
  refine Tm.ext' ?_ (Nat.xor_assoc ..) (Nat.xor_assoc ..)
  show ((x.q + y.q + 2 * pop (x.s &&& y.f)) % 4 + z.q + 2 * pop ((x.s ^^^ y.s) &&& z.f)) % 4 = (x.q + (y.q + z.q + 2 * pop (y.s &&& z.f)) % 4 + 2 * pop (x.s &&& (y.f ^^^ z.f))) % 4
  have h1 := pop_xl x.s y.s z.f
  have h2 := pop_xr x.s y.f z.f
  omega
theorem mulT_comm {x y : Tm} (h : cm x y = true) : mulT x y = mulT y x := by
  refine Tm.ext' ?_ (Nat.xor_comm ..) (Nat.xor_comm ..)
  show (x.q + y.q + 2 * pop (x.s &&& y.f)) % 4 = (y.q + x.q + 2 * pop (y.s &&& x.f)) % 4
  have h : (pop (x.f &&& y.s) + pop (x.s &&& y.f)) % 2 = 0 := of_decide_eq_true h
  rw [Nat.and_comm y.s x.f]
  omega
theorem mulT_self {x : Tm} (h : x.par = 0) : mulT x x = T0 := by
  refine Tm.ext' ?_ (Nat.xor_self _) (Nat.xor_self _)
  show (x.q + x.q + 2 * pop (x.s &&& x.f)) % 4 = 0
  have h : (x.q + pop (x.f &&& x.s)) % 2 = 0 := h
  rw [Nat.and_comm] at h
  omega
theorem T0_mulT {x : Tm} (h : x.q < 4) : mulT T0 x = x := by
  refine Tm.ext' ?_ (Nat.zero_xor _) (Nat.zero_xor _)
  show (0 + x.q + 2 * pop (0 &&& x.f)) % 4 = x.q
  rw [Nat.zero_and, pop_zero]
  omega
theorem mulT_T0 {x : Tm} (h : x.q < 4) : mulT x T0 = x := by
  refine Tm.ext' ?_ (Nat.xor_zero _) (Nat.xor_zero _)
  show (x.q + 0 + 2 * pop (x.s &&& 0)) % 4 = x.q
  rw [Nat.and_zero, pop_zero]
  omega
theorem cm_T0 (x : Tm) : cm T0 x = true := by
  unfold cm
  simp [pop_zero]
theorem cm_sym {x y : Tm} (h : cm x y = true) : cm y x = true := by
  unfold cm at *
  simp only [decide_eq_true_eq] at *
  rw [Nat.and_comm y.f, Nat.and_comm y.s]
  omega
theorem cm_mulT {x y z : Tm} : cm (mulT x y) z = (cm x z == cm y z) := by
  have h1 := pop_xl x.f y.f z.s
  have h2 := pop_xl x.s y.s z.f
  have e : cm (mulT x y) z = decide ((pop ((x.f ^^^ y.f) &&& z.s) + pop ((x.s ^^^ y.s) &&& z.f)) % 2 = 0) := rfl
  rw [e]
  unfold cm
  by_cases a : (pop (x.f &&& z.s) + pop (x.s &&& z.f)) % 2 = 0 <;> by_cases b : (pop (y.f &&& z.s) + pop (y.s &&& z.f)) % 2 = 0
  · rw [decide_eq_true a, decide_eq_true b, decide_eq_true (by omega)]; rfl
  · rw [decide_eq_true a, decide_eq_false b, decide_eq_false (by omega)]; rfl
  · rw [decide_eq_false a, decide_eq_true b, decide_eq_false (by omega)]; rfl
  · rw [decide_eq_false a, decide_eq_false b, decide_eq_true (by omega)]; rfl
theorem par_mulT {x y : Tm} (h : cm x y = true) (px : x.par = 0) (py : y.par = 0) : (mulT x y).par = 0 := by
  have h : (pop (x.f &&& y.s) + pop (x.s &&& y.f)) % 2 = 0 := of_decide_eq_true h
  have px : (x.q + pop (x.f &&& x.s)) % 2 = 0 := px
  have py : (y.q + pop (y.f &&& y.s)) % 2 = 0 := py
  show ((x.q + y.q + 2 * pop (x.s &&& y.f)) % 4 + pop ((x.f ^^^ y.f) &&& (x.s ^^^ y.s))) % 2 = 0
  have h1 := pop_xl x.f y.f (x.s ^^^ y.s)
  have h2 := pop_xr x.f x.s y.s
  have h3 := pop_xr y.f x.s y.s
  rw [Nat.and_comm x.s y.f] at h
  omega
/-- even marks that commute -/
structure Cev (L : List Tm) : Prop where
  q : ∀ x ∈ L, x.q < 4
  par : ∀ x ∈ L, x.par = 0
  cm : ∀ x ∈ L, ∀ y ∈ L, PX.cm x y = true
theorem Tab.cev {n : Nat} {L : List Tm} (h : Tab n L) : Cev L := ⟨fun x m => (h.lt x m).q, h.par, h.cm⟩
theorem Cev.tl {a : Tm} {L : List Tm} (h : Cev (a :: L)) : Cev L := ⟨fun x m => h.q x (List.mem_cons_of_mem a m), fun x m => h.par x (List.mem_cons_of_mem a m), fun x m y k => h.cm x (List.mem_cons_of_mem a m) y (List.mem_cons_of_mem a k)⟩
/-- products of some of the rows, with their spins -/
def PrT : List Tm → Tm → Prop
  | [], v => v = T0
  | a :: L, v => PrT L v ∨ ∃ u, PrT L u ∧ v = mulT u a
theorem PrT.q : ∀ {L : List Tm} {v : Tm}, PrT L v → v.q < 4
  | [], v, h => by rw [show v = T0 from h]; decide
  | a :: L, v, h => by
    rcases h with h | ⟨u, _, rfl⟩
    · exact PrT.q h
    · exact Nat.mod_lt _ (by decide)
theorem PrT.sp : ∀ {L : List Tm} {v : Tm}, PrT L v → SpT L v
  | [], v, h => by rw [show v = T0 from h]; exact ⟨rfl, rfl⟩
  | a :: L, v, h => by
    rcases h with h | ⟨u, h, rfl⟩
    · exact .inl h.sp
    · exact .inr (h.sp.eq ((xr_can u a).symm.trans (eqv.xr (mulT_eqv u a).symm eqv.rfl)))
theorem PrT.one : ∀ {L : List Tm}, PrT L T0
  | [] => rfl
  | a :: L => .inl PrT.one
theorem PrT.mem : ∀ {L : List Tm} {a : Tm}, a ∈ L → a.q < 4 → PrT L a
  | b :: L, a, h, hq => by
    rcases List.mem_cons.1 h with rfl | h
    · exact .inr ⟨T0, PrT.one, (T0_mulT hq).symm⟩
    · exact .inl (PrT.mem h hq)
theorem PrT.cmx : ∀ {L : List Tm} {v z : Tm}, (∀ x ∈ L, cm x z = true) → PrT L v → cm v z = true
  | [], v, z, _, h => by rw [show v = T0 from h]; exact cm_T0 z
  | a :: L, v, z, hz, h => by
    have hz2 := fun x m => hz x (List.mem_cons_of_mem a m)
    rcases h with h | ⟨u, h, rfl⟩
    · exact PrT.cmx hz2 h
    · rw [cm_mulT, PrT.cmx hz2 h, hz a List.mem_cons_self]; rfl
theorem PrT.lt {n : Nat} : ∀ {L : List Tm} {v : Tm}, (∀ x ∈ L, x.lt n) → PrT L v → v.lt n
  | [], v, _, h => by rw [show v = T0 from h]; exact ⟨by decide, Nat.two_pow_pos n, Nat.two_pow_pos n⟩
  | a :: L, v, hz, h => by
    have hz2 := fun x m => hz x (List.mem_cons_of_mem a m)
    rcases h with h | ⟨u, h, rfl⟩
    · exact PrT.lt hz2 h
    · exact mulT_lt (PrT.lt hz2 h) (hz a List.mem_cons_self)
theorem PrT.cm2 {L : List Tm} {u v : Tm} (c : Cev L) (h : PrT L u) (k : PrT L v) : cm u v = true :=
  PrT.cmx (fun x m => cm_sym (PrT.cmx (fun y m2 => c.cm y m2 x m) k)) h
theorem PrT.par : ∀ {L : List Tm} {v : Tm}, Cev L → PrT L v → v.par = 0
  | [], v, _, h => by
    rw [show v = T0 from h]
    show (0 + pop (0 &&& 0)) % 2 = 0
    rw [Nat.zero_and, pop_zero]
  | a :: L, v, c, h => by
    rcases h with h | ⟨u, h, rfl⟩
    · exact PrT.par c.tl h
    · exact par_mulT (PrT.cmx (fun x m => c.cm x (List.mem_cons_of_mem a m) a List.mem_cons_self) h) (PrT.par c.tl h) (c.par a List.mem_cons_self)
theorem PrT.mul : ∀ {L : List Tm} {u v : Tm}, Cev L → PrT L u → PrT L v → PrT L (mulT u v)
  | [], u, v, _, h, k => by
    rw [show u = T0 from h, show v = T0 from k]
    exact T0_mulT (by decide)
  | a :: L, u, v, c, h, k => by
    have aL : ∀ {w}, PrT L w → cm w a = true := fun h => PrT.cmx (fun x m => c.cm x (List.mem_cons_of_mem a m) a List.mem_cons_self) h
    rcases h with h | ⟨u, h, rfl⟩ <;> rcases k with k | ⟨v, k, rfl⟩
    · exact .inl (PrT.mul c.tl h k)
    · exact .inr ⟨mulT u v, PrT.mul c.tl h k, (mulT_assoc u v a).symm⟩
    · refine .inr ⟨mulT u v, PrT.mul c.tl h k, ?_⟩
      rw [mulT_assoc, mulT_assoc, mulT_comm (cm_sym (aL k))]
    · refine .inl ?_
      have e : mulT (mulT u a) (mulT v a) = mulT u v := by
        rw [mulT_assoc, ← mulT_assoc a v a, mulT_comm (cm_sym (aL k)), mulT_assoc v a a, mulT_self (c.par a List.mem_cons_self), mulT_T0 k.q]
      rw [e]
      exact PrT.mul c.tl h k
theorem PrT.le : ∀ {L M : List Tm} {v : Tm}, Cev M → (∀ a ∈ L, PrT M a) → PrT L v → PrT M v
  | [], M, v, _, _, h => by rw [show v = T0 from h]; exact PrT.one
  | a :: L, M, v, c, hm, h => by
    have hm2 := fun x m => hm x (List.mem_cons_of_mem a m)
    rcases h with h | ⟨u, h, rfl⟩
    · exact PrT.le c hm2 h
    · exact PrT.mul c (PrT.le c hm2 h) (hm a List.mem_cons_self)
/-- what is spanned but for its spin is, with some spin, a product -/
theorem SpT.pr : ∀ {L : List Tm} {v : Tm}, SpT L v → ∃ q, PrT L ⟨q, v.f, v.s⟩
  | [], v, h => ⟨0, by rw [h.1, h.2]; rfl⟩
  | a :: L, v, h => by
    rcases h with h | h
    · obtain ⟨q, k⟩ := SpT.pr h
      exact ⟨q, .inl k⟩
    · obtain ⟨q, k⟩ := SpT.pr h
      refine ⟨(mulT ⟨q, (xr v a).f, (xr v a).s⟩ a).q, .inr ⟨_, k, ?_⟩⟩
      exact Tm.ext' rfl (xor_xor ..).symm (xor_xor ..).symm
theorem PrT.uniq : ∀ {L : List Tm} {u v : Tm}, Ind L → PrT L u → PrT L v → eqv u v → u = v
  | [], u, v, _, h, k, _ => by rw [show u = T0 from h, show v = T0 from k]
  | a :: L, u, v, i, h, k, e => by
    have no : ∀ {w z : Tm}, PrT L w → PrT L z → eqv w (mulT z a) → False := fun {w z} hw hz e => by
      refine i.1 ((SpT.add hw.sp hz.sp).eq ?_)
      have e2 : eqv (xr w z) (xr (xr z a) z) := eqv.xr (e.trans (mulT_eqv z a)) eqv.rfl
      exact e2.trans ((xr_sw z a z).trans ((xr_as z z a).trans ⟨by show z.f ^^^ (z.f ^^^ a.f) = a.f; rw [← Nat.xor_assoc, Nat.xor_self, Nat.zero_xor], by show z.s ^^^ (z.s ^^^ a.s) = a.s; rw [← Nat.xor_assoc, Nat.xor_self, Nat.zero_xor]⟩))
    rcases h with h | ⟨u, h, rfl⟩ <;> rcases k with k | ⟨v, k, rfl⟩
    · exact PrT.uniq i.2 h k e
    · exact (no h k e).elim
    · exact (no k h e.symm).elim
    · rw [PrT.uniq i.2 h k ((xr_can u a).symm.trans ((eqv.xr (((mulT_eqv u a).symm.trans e).trans (mulT_eqv v a)) eqv.rfl).trans (xr_can v a)))]
theorem PrT.perm {L M : List Tm} (c : Cev L) (p : L.Perm M) {v : Tm} : PrT L v ↔ PrT M v := by
  have d : Cev M := ⟨fun x m => c.q x (p.mem_iff.2 m), fun x m => c.par x (p.mem_iff.2 m), fun x m y k => c.cm x (p.mem_iff.2 m) y (p.mem_iff.2 k)⟩
  exact ⟨PrT.le d fun a m => PrT.mem (p.mem_iff.1 m) (c.q a m), PrT.le c fun a m => PrT.mem (p.mem_iff.2 m) (d.q a m)⟩
/-! ### gathered rows are products -/
/-- reduced: products, as many as rows, their leads rising, none with another one's lead -/
structure RedF (L K : List Tm) : Prop where
  nz : ∀ k ∈ K, cd k ≠ 0
  rise : K.Pairwise fun a b => ld a < ld b
  no : ∀ a ∈ K, ∀ b ∈ K, a ≠ b → cb a (ld b) = false
  pr : ∀ k ∈ K, PrT L k
  sp : ∀ v, SpT L v → SpT K v
theorem Red.ne {K : List Tm} (h : Red K) : K.Pairwise fun a b => ld a ≠ ld b := h.pw.imp_of_mem fun {a b} ha hb k e => by
  have := (ld_spec (h.nz a ha)).1
  rw [e, k.1] at this
  exact absurd this (by decide)
theorem Red.no {K : List Tm} (h : Red K) : ∀ a ∈ K, ∀ b ∈ K, a ≠ b → cb a (ld b) = false := by
  have := h.pw
  induction K with
  | nil => exact fun _ m => nomatch m
  | cons k K ih =>
    intro a ha b hb ne
    have p := List.pairwise_cons.1 this
    rcases List.mem_cons.1 ha with e1 | a1 <;> rcases List.mem_cons.1 hb with e2 | b1
    · exact absurd (e1.trans e2.symm) ne
    · rw [e1]; exact (p.1 b b1).1
    · rw [e2]; exact (p.1 a a1).2
    · exact ih h.tl p.2 a a1 b b1 ne
theorem RedF.red {L K : List Tm} (h : RedF L K) : Red K := ⟨h.nz, h.rise.imp_of_mem fun {a b} ha hb k => ⟨h.no a ha b hb fun e => by rw [e] at k; omega, h.no b hb a ha fun e => by rw [e] at k; omega⟩⟩
/-- the lead of what is spanned is one of the rows' leads -/
theorem sp_lead : ∀ {K : List Tm} {v : Tm}, Red K → SpT K v → cd v ≠ 0 → ∃ k ∈ K, ld k = ld v
  | [], v, _, s, nz => absurd (cd_nought s.1 s.2) nz
  | a :: K, v, h, s, nz => by
    rcases s with s | s
    · obtain ⟨k, m, e⟩ := sp_lead h.tl s nz
      exact ⟨k, List.mem_cons_of_mem a m, e⟩
    · have p := List.pairwise_cons.1 h.pw
      obtain ⟨a1, a2⟩ := ld_spec (h.nz a List.mem_cons_self)
      have wb : ∀ j, cb v j = (cb (xr v a) j ^^ cb a j) := fun j => by rw [cb_xr]; cases cb v j <;> cases cb a j <;> rfl
      have wa : cb (xr v a) (ld a) = false := sp_bit (fun k m => (p.1 k m).2) s
      by_cases z : cd (xr v a) = 0
      · refine ⟨a, List.mem_cons_self, (ld_eq ?_ fun i hi => ?_).symm⟩
        · rw [wb, wa, a1]; rfl
        · rw [wb, a2 i hi]
          unfold cb
          rw [z, Nat.zero_testBit]
          rfl
      · obtain ⟨w1, w2⟩ := ld_spec z
        obtain ⟨k, m, e⟩ := sp_lead h.tl s z
        rcases Nat.lt_trichotomy (ld (xr v a)) (ld a) with l | l | l
        · refine ⟨k, List.mem_cons_of_mem a m, e.trans (ld_eq ?_ fun i hi => ?_).symm⟩
          · rw [wb, w1, a2 _ l]; rfl
          · rw [wb, w2 i hi, a2 i (by omega)]; rfl
        · rw [l] at w1
          rw [w1] at wa
          exact absurd wa (by decide)
        · refine ⟨a, List.mem_cons_self, (ld_eq ?_ fun i hi => ?_).symm⟩
          · rw [wb, wa, a1]; rfl
          · rw [wb, a2 i hi, w2 i (by omega)]; rfl
theorem RedF.mem {L M K K' : List Tm} (i : Ind L) (lt : ∀ x ∈ L, x.lt 6) (h : RedF L K) (h' : RedF M K') (e : ∀ v, PrT L v ↔ PrT M v) {k : Tm} (m : k ∈ K) : k ∈ K' := by
  obtain ⟨k', m', ek⟩ := sp_lead h'.red (h'.sp k ((e k).1 (h.pr k m)).sp) (h.nz k m)
  have pk := h.pr k m
  have pk' := (e k').2 (h'.pr k' m')
  have z : (xr k k').f = 0 ∧ (xr k k').s = 0 := by
    refine red_zero h.red (SpT.add (h.sp k pk.sp) (h.sp k' pk'.sp)) fun x hx => ?_
    rw [cb_xr]
    by_cases c : x = k
    · rw [c, (ld_spec (h.nz k m)).1, ← ek, (ld_spec (h'.nz k' m')).1]
      rfl
    · obtain ⟨x', n', ex⟩ := sp_lead h'.red (h'.sp x ((e x).1 (h.pr x hx)).sp) (h.nz x hx)
      rw [h.no k m x hx fun q => c q.symm, ← ex, h'.no k' m' x' n' fun q => ?_]
      · rfl
      · rw [← q, ek] at ex
        have t := (ld_spec (h.nz k m)).1
        rw [ex, h.no k m x hx fun q => c q.symm] at t
        exact absurd t (by decide)
  have eq : k = k' := PrT.uniq i pk pk' ⟨by
    have := z.1
    have q : k.f ^^^ k'.f = 0 := this
    have r := xor_xor k.f k'.f
    rw [q, Nat.zero_xor] at r
    exact r.symm, by
    have q : k.s ^^^ k'.s = 0 := z.2
    have r := xor_xor k.s k'.s
    rw [q, Nat.zero_xor] at r
    exact r.symm⟩
  rw [eq]
  exact m'
theorem rise_nodup {K : List Tm} (h : K.Pairwise fun a b => ld a < ld b) : K.Nodup := h.imp fun l e => by rw [e] at l; omega
theorem rise_eq {A B : List Tm} (ha : A.Pairwise fun a b => ld a < ld b) (hb : B.Pairwise fun a b => ld a < ld b) (h : ∀ x, x ∈ A ↔ x ∈ B) : A = B :=
  ((List.perm_ext_iff_of_nodup (rise_nodup ha) (rise_nodup hb)).2 h).eq_of_pairwise (le := fun a b => ld a < ld b) (fun a b _ _ h1 h2 => by omega) ha hb
theorem RedF.eq {L M K K' : List Tm} (i : Ind L) (j : Ind M) (lt : ∀ x ∈ L, x.lt 6) (lt' : ∀ x ∈ M, x.lt 6) (h : RedF L K) (h' : RedF M K') (e : ∀ v, PrT L v ↔ PrT M v) : K = K' :=
  rise_eq h.rise h'.rise fun x => ⟨RedF.mem i lt h h' e, RedF.mem j lt' h' h fun v => (e v).symm⟩
/-- a reduced row of marks is a table, too -/
theorem Red.ind : ∀ {K : List Tm}, Red K → Ind K
  | [], _ => trivial
  | a :: K, h => by
    refine ⟨fun s => ?_, h.tl.ind⟩
    have b := sp_bit (j := ld a) (fun k m => ((List.pairwise_cons.1 h.pw).1 k m).2) s
    rw [(ld_spec (h.nz a List.mem_cons_self)).1] at b
    exact absurd b (by decide)
theorem RedF.tab {n : Nat} {L K : List Tm} (t : Tab n L) (h : RedF L K) : Tab n K :=
  ⟨fun x m => PrT.lt t.lt (h.pr x m), fun x m => PrT.par t.cev (h.pr x m), fun x m y k => PrT.cm2 t.cev (h.pr x m) (h.pr y k), h.red.ind⟩
end PX

/-! PLTJ: binary equations, solved or shown to have no answer (as for k51). -/
namespace PX
open PySem PySem.Spec PyProof.Rows L2 SB
structure ERow where
  m : Nat
  b : Nat
  u : Nat
def ERow.x (r o : ERow) : ERow := ⟨r.m ^^^ o.m, r.b ^^^ o.b, r.u ^^^ o.u⟩
def erowD (r : ERow) : PyData := M3 r.m r.b r.u
def eswp : List ERow → ERow → ERow
  | [], r => r
  | o :: os, r => eswp os (if 0 < r.m &&& tp o.m then r.x o else r)
noncomputable def eansR : List ERow → Nat → Nat
  | [], f => f
  | o :: os, f => eansR os (if par o.m f = o.b then f else f ^^^ tp o.m)
def ESat (f : Nat) (r : ERow) : Prop := par r.m f = r.b
/-- rows that may be swept by -/
def EGood : List ERow → Prop
  | [] => True
  | o :: os => (o.m ≠ 0 ∧ o.b < 2) ∧ (∀ p ∈ os, p.m &&& tp o.m = 0) ∧ EGood os
theorem EGood.mem : ∀ {L : List ERow}, EGood L → ∀ o ∈ L, o.m ≠ 0 ∧ o.b < 2
  | [], _, o, h => by cases h
  | p :: L, g, o, h => (List.mem_cons.mp h).elim (fun e => by rw [e]; exact g.1) fun q => EGood.mem g.2.2 o q
theorem ESat.x {f : Nat} {r o : ERow} (hr : r.b < 2) (ho : o.b < 2) (h1 : ESat f r) (h2 : ESat f o) : ESat f (r.x o) := by
  unfold ESat ERow.x at *
  dsimp only
  rw [par_xl, h1, h2, (xor_bits hr ho).1]
theorem ESat.unx {f : Nat} {r o : ERow} (hr : r.b < 2) (ho : o.b < 2) (h1 : ESat f (r.x o)) (h2 : ESat f o) : ESat f r := by
  unfold ESat ERow.x at *
  dsimp only at h1
  rw [par_xl, (xor_bits hr ho).1] at h1
  have := par_lt r.m f
  omega
theorem eswp_b : ∀ {L : List ERow} {r : ERow}, EGood L → r.b < 2 → (eswp L r).b < 2
  | [], r, _, h => h
  | o :: os, r, g, h => by
    rw [eswp]
    apply eswp_b g.2.2
    split
    · exact (xor_bits h g.1.2).2
    · exact h
theorem eswp_sat {f : Nat} : ∀ {L : List ERow} {r : ERow}, EGood L → r.b < 2 → (∀ o ∈ L, ESat f o) → ESat f (eswp L r) → ESat f r
  | [], r, _, _, _, h => h
  | o :: os, r, g, hr, ho, h => by
    rw [eswp] at h
    have so := ho o List.mem_cons_self
    have ho' : ∀ p ∈ os, ESat f p := fun p hp => ho p (List.mem_cons_of_mem _ hp)
    split at h
    · exact ESat.unx hr g.1.2 (eswp_sat g.2.2 (xor_bits hr g.1.2).2 ho' h) so
    · exact eswp_sat g.2.2 hr ho' h
theorem eswp_keep {i : Nat} : ∀ {L : List ERow} {r : ERow}, (∀ p ∈ L, p.m &&& 2 ^ i = 0) → r.m &&& 2 ^ i = 0 → (eswp L r).m &&& 2 ^ i = 0
  | [], r, _, h => h
  | o :: os, r, ho, h => by
    rw [eswp]
    apply eswp_keep fun p hp => ho p (List.mem_cons_of_mem _ hp)
    split
    · show (r.m ^^^ o.m) &&& 2 ^ i = 0
      rw [Nat.and_xor_distrib_right, h, ho o List.mem_cons_self]
      rfl
    · exact h
theorem eswp_clear : ∀ {L : List ERow} {r : ERow}, EGood L → ∀ o ∈ L, (eswp L r).m &&& tp o.m = 0
  | [], r, _, o, h => by cases h
  | p :: os, r, g, o, h => by
    rw [eswp]
    rcases List.mem_cons.mp h with rfl | h
    · refine eswp_keep g.2.1 ?_
      by_cases hp : 0 < r.m &&& tp o.m
      · rw [if_pos hp]
        show (r.m ^^^ o.m) &&& tp o.m = 0
        rw [Nat.and_xor_distrib_right, and_tp g.1.1]
        rcases and_two_pow_cases r.m o.m.log2 with e | e
        · have e2 : r.m &&& tp o.m = 0 := e
          rw [e2] at hp
          exact absurd hp (by decide)
        · have e2 : r.m &&& tp o.m = tp o.m := e
          rw [e2, Nat.xor_self]
      · rw [if_neg hp]
        exact Nat.eq_zero_of_not_pos hp
    · exact eswp_clear g.2.2 o h
theorem egood_snoc : ∀ {L : List ERow} {r : ERow}, EGood L → r.m ≠ 0 → r.b < 2 → (∀ o ∈ L, r.m &&& tp o.m = 0) → EGood (L ++ [r])
  | [], r, _, h1, h2, _ => ⟨⟨h1, h2⟩, (fun p hp => by cases hp), trivial⟩
  | o :: os, r, g, h1, h2, h3 => by
    refine ⟨g.1, fun p hp => ?_, egood_snoc g.2.2 h1 h2 fun p hp => h3 p (List.mem_cons_of_mem _ hp)⟩
    rcases List.mem_append.mp hp with h | h
    · exact g.2.1 p h
    · rw [List.mem_singleton.mp h]
      exact h3 o List.mem_cons_self
theorem eansR_app : ∀ (L M : List ERow) (f : Nat), eansR (L ++ M) f = eansR M (eansR L f)
  | [], M, f => rfl
  | o :: os, M, f => by
    show eansR (os ++ M) _ = eansR M (eansR os _)
    rw [eansR_app os M]
theorem eans_sat : ∀ {L : List ERow}, EGood L → ∀ o ∈ L, ESat (eansR L.reverse 0) o
  | [], _, o, h => by cases h
  | p :: os, g, o, h => by
    rw [List.reverse_cons, eansR_app]
    show ESat (if par p.m (eansR os.reverse 0) = p.b then eansR os.reverse 0 else eansR os.reverse 0 ^^^ tp p.m) o
    generalize hf : eansR os.reverse 0 = f
    have ih : ∀ q ∈ os, ESat f q := fun q hq => by
      rw [← hf]
      exact eans_sat g.2.2 q hq
    split
    · rename_i e
      rcases List.mem_cons.mp h with rfl | h
      · exact e
      · exact ih o h
    · rename_i e
      rcases List.mem_cons.mp h with rfl | h
      · unfold ESat
        have e1 : par o.m (tp o.m) = 1 := by
          unfold par
          rw [and_tp g.1.1]
          unfold tp
          rw [pop_two_pow]
        rw [par_xr, e1]
        have := par_lt o.m f
        have := g.1.2
        omega
      · have e0 : par o.m (tp p.m) = 0 := by
          unfold par
          rw [g.2.1 o h, pop_zero]
        have := ih o h
        unfold ESat at this ⊢
        have := par_lt o.m f
        rw [par_xr, e0]
        omega
/-! ### which equations a row is made of -/
abbrev Eqn := Nat × Nat
def eqnD (e : Eqn) : PyData := E2 e.1 e.2
def exx (a b : Eqn) : Eqn := (a.1 ^^^ b.1, a.2 ^^^ b.2)
def EX : List Eqn → Nat → Eqn
  | [], _ => (0, 0)
  | e :: es, u => if u % 2 = 1 then exx e (EX es (u / 2)) else EX es (u / 2)
theorem EX_zero : ∀ es : List Eqn, EX es 0 = (0, 0)
  | [] => rfl
  | e :: es => by
    rw [EX, if_neg (by decide)]
    exact EX_zero es
theorem exx_zero (a : Eqn) : exx a (0, 0) = a := by
  unfold exx
  simp
theorem exx_assoc (a b c : Eqn) : exx (exx a b) c = exx a (exx b c) := by
  unfold exx
  simp [Nat.xor_assoc]
theorem exx_comm (a b : Eqn) : exx a b = exx b a := by
  unfold exx
  rw [Nat.xor_comm a.1, Nat.xor_comm a.2]
theorem exx_self (a : Eqn) : exx a a = (0, 0) := by
  unfold exx
  simp
theorem zero_xx (a : Eqn) : exx (0, 0) a = a := by
  unfold exx
  simp
theorem EX_xor : ∀ (es : List Eqn) (u v : Nat), EX es (u ^^^ v) = exx (EX es u) (EX es v)
  | [], u, v => by simp [EX, exx]
  | e :: es, u, v => by
    have o := @Nat.xor_mod_two_eq_one u v
    rw [EX, EX, EX, Nat.xor_div_two, EX_xor es]
    generalize EX es (u / 2) = a
    generalize EX es (v / 2) = b
    by_cases hu : u % 2 = 1 <;> by_cases hv : v % 2 = 1
    · rw [if_pos hu, if_pos hv, if_neg (by rw [o]; omega)]
      rw [exx_comm e a, exx_assoc, ← exx_assoc e e, exx_self, zero_xx]
    · rw [if_pos hu, if_neg hv, if_pos (by rw [o]; omega), exx_assoc]
    · rw [if_neg hu, if_pos hv, if_pos (by rw [o]; omega), ← exx_assoc, ← exx_assoc, exx_comm e a]
    · rw [if_neg hu, if_neg hv, if_neg (by rw [o]; omega)]
theorem EX_at : ∀ {es : List Eqn} {i : Nat} {e : Eqn}, es[i]? = some e → EX es (2 ^ i) = e
  | [], i, e, h => by simp at h
  | a :: es, 0, e, h => by
    simp at h
    subst h
    rw [EX, if_pos (by decide)]
    show exx a (EX es 0) = a
    rw [EX_zero, exx_zero]
  | a :: es, i + 1, e, h => by
    have hp : 2 ^ (i + 1) = 2 ^ i * 2 := Nat.pow_succ ..
    rw [EX, if_neg (by omega), hp, Nat.mul_div_cancel _ (by decide)]
    exact EX_at (by simpa using h)
theorem bits_nat {m : Nat} (h : m ≠ 0) : (Builtin.Int.intBits (m : Int) : Int) - 1 = (m.log2 : Int) := by
  unfold Builtin.Int.intBits
  have e : ((m : Int) == 0) = false := by simp; exact h
  rw [e]
  simp
def TopOk (f : List PyData → Rr) : Prop := ∀ m : Nat, m ≠ 0 → m.log2 ≤ 1000000 → f [.int m] = vI (tp m : Nat)
theorem top_ok {G : Gd} {m : Nat} (h : m ≠ 0) (hl : m.log2 ≤ 1000000) : fnD G b_top_of 1 [.int m] = vI (tp m : Nat) := by
  have sh := shlOk_1 hl
  simp [fnD_res, b_top_of, bits_nat h, sh, tp]
theorem sweep_turn {G : Gd} (hT : TopOk (G.fn 0)) {x0 x4 : Cell} {r o : ERow} (h : o.m ≠ 0) (hl : o.m.log2 ≤ 1000000) : bodyF G (.nm 4) b_swept_l1 (erowD o) [x0, .val (.int r.m), .val (.int r.b), .val (.int r.u), x4] =
    .nx [x0, .val (.int (if 0 < r.m &&& tp o.m then r.x o else r).m), .val (.int (if 0 < r.m &&& tp o.m then r.x o else r).b), .val (.int (if 0 < r.m &&& tp o.m then r.x o else r).u), .val (erowD o)] := by
  have t := hT o.m h hl
  have lt : (((0 : Int) < ((r.m &&& tp o.m : Nat) : Int)) : Prop) = (0 < r.m &&& tp o.m) := propext (by omega)
  by_cases hc : 0 < r.m &&& tp o.m
  · simp [bodyF, b_swept_l1, erowD, M3_0, M3_1, M3_2, t, lt, hc, ERow.x]
  · simp [bodyF, b_swept_l1, erowD, M3_0, M3_1, M3_2, t, lt, hc]
theorem sweep_loop {G : Gd} (hT : TopOk (G.fn 0)) {x0 : Cell} : ∀ {L : List ERow} {r : ERow} {x4 : Cell}, (∀ o ∈ L, o.m ≠ 0 ∧ o.m.log2 ≤ 1000000) → ∃ y, forL (bodyF G (.nm 4) b_swept_l1) (L.map erowD) [x0, .val (.int r.m), .val (.int r.b), .val (.int r.u), x4] = .nx [x0, .val (.int (eswp L r).m), .val (.int (eswp L r).b), .val (.int (eswp L r).u), y]
  | [], r, x4, _ => ⟨x4, rfl⟩
  | o :: os, r, x4, h => by
    obtain ⟨h1, h2⟩ := h o List.mem_cons_self
    rw [List.map_cons, forL_cons, sweep_turn hT h1 h2, forK_nx, eswp]
    exact sweep_loop hT fun p hp => h p (List.mem_cons_of_mem _ hp)
def SweptOk (f : List PyData → Rr) : Prop := ∀ (L : List ERow) (m b u : Nat), (∀ o ∈ L, o.m ≠ 0 ∧ o.m.log2 ≤ 1000000) → f [.list (L.map erowD), .int m, .int b, .int u] = .ok (.val (erowD (eswp L ⟨m, b, u⟩)))
theorem swept_ok {G : Gd} (hT : TopOk (G.fn 0)) {L : List ERow} {m b u : Nat} (h : ∀ o ∈ L, o.m ≠ 0 ∧ o.m.log2 ≤ 1000000) : fnD G b_swept 5 [.list (L.map erowD), .int m, .int b, .int u] = .ok (.val (erowD (eswp L ⟨m, b, u⟩))) := by
  obtain ⟨y, e⟩ := sweep_loop (G := G) hT (x0 := .val (.list (L.map erowD))) (r := ⟨m, b, u⟩) (x4 := .no) h
  have eb : b_swept = .cons (.for_ (.nm 4) [] (.seq (.v 0)) b_swept_l1) (.cons (.ret ⟨[], false⟩ (.tup (.cons (.v 1) (.cons (.v 2) (.cons (.v 3) .nil))))) .nil) := rfl
  simp [fnD_res, eb, e, lineB_le, erowD, M3]
theorem eans_turn {G : Gd} (hO : OnesOk (G.fn 0)) (hT : TopOk (G.fn 1)) {x0 x2 x3 x4 : Cell} {f : Nat} {o : ERow} (h : o.m ≠ 0) (hl : o.m.log2 ≤ 1000000) : bodyF G (.tp [2, 3, 4]) b_answer_of_l1 (erowD o) [x0, .val (.int f), x2, x3, x4] =
    .nx [x0, .val (.int (if par o.m f = o.b then f else f ^^^ tp o.m : Nat)), .val (.int o.m), .val (.int o.b), .val (.int o.u)] := by
  have t := hT o.m h hl
  have d_ones := hO (o.m &&& f)
  have ee : ((((pop (o.m &&& f) : Int)) % 2 = (o.b : Int)) : Prop) = (par o.m f = o.b) := by
    unfold par
    exact propext (by omega)
  by_cases hc : par o.m f = o.b
  · simp [bodyF, b_answer_of_l1, erowD, M3, d_ones, ee, hc]
  · simp [bodyF, b_answer_of_l1, erowD, M3, d_ones, t, ee, hc]
theorem eans_loop {G : Gd} (hO : OnesOk (G.fn 0)) (hT : TopOk (G.fn 1)) {x0 : Cell} : ∀ {L : List ERow} {f : Nat} {x2 x3 x4 : Cell}, (∀ o ∈ L, o.m ≠ 0 ∧ o.m.log2 ≤ 1000000) → ∃ y2 y3 y4, forL (bodyF G (.tp [2, 3, 4]) b_answer_of_l1) (L.map erowD) [x0, .val (.int f), x2, x3, x4] = .nx [x0, .val (.int (eansR L f : Nat)), y2, y3, y4]
  | [], f, x2, x3, x4, _ => ⟨x2, x3, x4, rfl⟩
  | o :: os, f, x2, x3, x4, h => by
    obtain ⟨h1, h2⟩ := h o List.mem_cons_self
    rw [List.map_cons, forL_cons, eans_turn hO hT h1 h2, forK_nx, eansR]
    exact eans_loop hO hT fun p hp => h p (List.mem_cons_of_mem _ hp)
def AnswerOk (f : List PyData → Rr) : Prop := ∀ L : List ERow, (∀ o ∈ L, o.m ≠ 0 ∧ o.m.log2 ≤ 1000000) → f [.list (L.map erowD)] = vI (eansR L.reverse 0 : Nat)
theorem answer_ok {G : Gd} (hO : OnesOk (G.fn 0)) (hT : TopOk (G.fn 1)) {L : List ERow} (h : ∀ o ∈ L, o.m ≠ 0 ∧ o.m.log2 ≤ 1000000) : fnD G b_answer_of 5 [.list (L.map erowD)] = vI (eansR L.reverse 0 : Nat) := by
  obtain ⟨y2, y3, y4, e⟩ := eans_loop (G := G) hO hT (x0 := .val (.list (L.map erowD))) (L := L.reverse) (f := 0) (x2 := .no) (x3 := .no) (x4 := .no) fun o ho => h o (List.mem_reverse.mp ho)
  rw [List.map_reverse] at e
  have eb : b_answer_of = .cons (.asg 1 false ⟨[], false⟩ (.c (.int 0))) (.cons (.for_ (.tp [2, 3, 4]) [] (.rev (.v 0)) b_answer_of_l1) (.cons (.ret ⟨[], false⟩ (.v 1)) .nil)) := rfl
  have e2 : forL (bodyF G (.tp [2, 3, 4]) b_answer_of_l1) (L.map erowD).reverse [.val (.list (L.map erowD)), .val (.int 0), .no, .no, .no] = .nx [.val (.list (L.map erowD)), .val (.int (eansR L.reverse 0 : Nat)), y2, y3, y4] := e
  simp [fnD_res, eb, e2]
structure EInv (k : Nat) (es : List Eqn) (i : Nat) (L : List ERow) : Prop where
  good : EGood L
  small : ∀ o ∈ L, o.m < 2 ^ k ∧ o.u < 2 ^ i
  comb : ∀ o ∈ L, EX es o.u = (o.m, o.b)
  sat : ∀ f, (∀ o ∈ L, ESat f o) → ∀ e ∈ es.take i, par e.1 f = e.2
theorem eswp_small {k i : Nat} : ∀ {L : List ERow} {r : ERow}, (∀ o ∈ L, o.m < 2 ^ k ∧ o.u < 2 ^ i) → r.m < 2 ^ k → r.u < 2 ^ (i + 1) → (eswp L r).m < 2 ^ k ∧ (eswp L r).u < 2 ^ (i + 1)
  | [], r, _, h1, h2 => ⟨h1, h2⟩
  | o :: os, r, h, h1, h2 => by
    obtain ⟨a, b⟩ := h o List.mem_cons_self
    rw [eswp]
    apply eswp_small fun p hp => h p (List.mem_cons_of_mem _ hp)
    · split
      · exact Nat.xor_lt_two_pow h1 a
      · exact h1
    · split
      · exact Nat.xor_lt_two_pow h2 (Nat.lt_of_lt_of_le b (Nat.pow_le_pow_right (by decide) (Nat.le_succ i)))
      · exact h2
theorem eswp_comb {es : List Eqn} : ∀ {L : List ERow} {r : ERow}, (∀ o ∈ L, EX es o.u = (o.m, o.b)) → EX es r.u = (r.m, r.b) → EX es (eswp L r).u = ((eswp L r).m, (eswp L r).b)
  | [], r, _, h1 => h1
  | o :: os, r, h, h1 => by
    rw [eswp]
    apply eswp_comb fun p hp => h p (List.mem_cons_of_mem _ hp)
    split
    · show EX es (r.u ^^^ o.u) = (r.m ^^^ o.m, r.b ^^^ o.b)
      rw [EX_xor, h1, h o List.mem_cons_self]
      rfl
    · exact h1
theorem elog_small {k m : Nat} (hk : k ≤ 190) (h0 : m < 2 ^ k) : m.log2 ≤ 1000000 := by
  have h : m < 2 ^ 200 := Nat.lt_of_lt_of_le h0 (Nat.pow_le_pow_right (by decide) (by omega))
  have := log2_lt h (by decide)
  omega
theorem EInv.tops {k : Nat} (hk : k ≤ 190) {es : List Eqn} {i : Nat} {L : List ERow} (I : EInv k es i L) : ∀ o ∈ L, o.m ≠ 0 ∧ o.m.log2 ≤ 1000000 := fun o ho => ⟨(EGood.mem I.good o ho).1, elog_small hk (I.small o ho).1⟩
theorem tp_lt {k m : Nat} (h0 : m ≠ 0) (h : m < 2 ^ k) : tp m < 2 ^ k := Nat.lt_of_le_of_lt (Nat.log2_self_le h0) h
theorem eansR_lt {k : Nat} : ∀ {L : List ERow} {f : Nat}, (∀ o ∈ L, o.m ≠ 0 ∧ o.m < 2 ^ k) → f < 2 ^ k → eansR L f < 2 ^ k
  | [], f, _, h => h
  | o :: L, f, hl, h => by
    rw [eansR]
    refine eansR_lt (fun p hp => hl p (List.mem_cons_of_mem o hp)) ?_
    split
    · exact h
    · exact Nat.xor_lt_two_pow h (tp_lt (hl o List.mem_cons_self).1 (hl o List.mem_cons_self).2)
theorem eflat_row {r : ERow} : (RV.val (erowD r)).flat = true := rfl
theorem eso_turn {G : Gd} (hA : AnswerOk (G.fn 0)) (hP : PlacesOk (G.fn 1)) (hS : SweptOk (G.fn 2)) {x0 x2 x3 x4 : Cell} {L : List ERow} {i : Nat} {e : Eqn} (hi : i ≤ 63) (hl : L.length < 16777216) (ht : ∀ o ∈ L, o.m ≠ 0 ∧ o.m.log2 ≤ 1000000) (hu : (eswp L ⟨e.1, e.2, 2 ^ i⟩).u < 2 ^ 64) :
    bodyF G (.tp [2, 3]) b_solved_l1 (.tuple [.int i, eqnD e]) [x0, .own (L.map erowD), x2, x3, x4] =
      if 0 < (eswp L ⟨e.1, e.2, 2 ^ i⟩).m then .nx [x0, .own ((L ++ [eswp L ⟨e.1, e.2, 2 ^ i⟩]).map erowD), .val (.int i), .val (eqnD e), .val (erowD (eswp L ⟨e.1, e.2, 2 ^ i⟩))]
      else if (eswp L ⟨e.1, e.2, 2 ^ i⟩).b = 1 then .ret (.val (.tuple [.none, .list ((places (eswp L ⟨e.1, e.2, 2 ^ i⟩).u 0).map fun (i : Nat) => PyData.int i)]))
      else .nx [x0, .own (L.map erowD), .val (.int i), .val (eqnD e), .val (erowD (eswp L ⟨e.1, e.2, 2 ^ i⟩))] := by
  have sh := shlOk_1 (k := i) (Nat.le_trans hi (by decide))
  have sw : G.fn 2 [.list (L.map erowD), .int e.1, .int e.2, .int ((2 : Int) ^ i)] = .ok (.val (erowD (eswp L ⟨e.1, e.2, 2 ^ i⟩))) := by
    have := hS L e.1 e.2 (2 ^ i) ht
    rw [← this]
    simp
  generalize eswp L ⟨e.1, e.2, 2 ^ i⟩ = r at sw hu ⊢
  have pl := hP _ hu
  have i0 : ixD (eqnD e) (.int 0) = rv (.int e.1) := E2_0
  have i1 : ixD (eqnD e) (.int 1) = rv (.int e.2) := E2_1
  have r0 : ixD (erowD r) (.int 0) = rv (.int r.m) := M3_0
  have r1 : ixD (erowD r) (.int 1) = rv (.int r.b) := M3_1
  have r2 : ixD (erowD r) (.int 2) = rv (.int r.u) := M3_2
  have l2 : lineB 2 = true := by decide
  have g : (((0 : Int) < (r.m : Int)) : Prop) = (0 < r.m) := propext (by omega)
  have g1 : (((r.b : Int) = 1) : Prop) = (r.b = 1) := propext (by omega)
  by_cases h1 : 0 < r.m
  · simp [bodyF, b_solved_l1, sh, sw, i0, i1, r0, r1, r2, eflat_row, g, h1, hl]
  · by_cases h2 : r.b = 1
    · simp [bodyF, b_solved_l1, sh, sw, i0, i1, r0, r1, r2, eflat_row, g, h1, g1, h2, pl, l2]
    · simp [bodyF, b_solved_l1, sh, sw, i0, i1, r0, r1, r2, eflat_row, g, h1, g1, h2]
def EDone (k : Nat) (es : List Eqn) (x0 : Cell) (o : Out) : Prop := (∃ L y2 y3 y4, o = .nx [x0, .own (L.map erowD), y2, y3, y4] ∧ EInv k es es.length L) ∨
  (∃ u, o = .ret (.val (.tuple [.none, .list ((places u 0).map fun (i : Nat) => PyData.int i)])) ∧ u < 2 ^ es.length ∧ EX es u = (0, 1))
theorem eso_loop {G : Gd} (hA : AnswerOk (G.fn 0)) (hP : PlacesOk (G.fn 1)) (hS : SweptOk (G.fn 2)) {k : Nat} (hk : k ≤ 190) {es : List Eqn} {x0 : Cell} (hlen : es.length ≤ 64) (hes : ∀ e ∈ es, e.1 < 2 ^ k ∧ e.2 < 2) : ∀ (rest : List Eqn) (i : Nat) (L : List ERow) (x2 x3 x4 : Cell), es.drop i = rest → i ≤ es.length → L.length ≤ i → EInv k es i L → EDone k es x0 (forL (bodyF G (.tp [2, 3]) b_solved_l1) (enumFrom i (rest.map eqnD)) [x0, .own (L.map erowD), x2, x3, x4])
  | [], i, L, x2, x3, x4, hd, hi, hL, I => by
    have : es.length ≤ i := by
      have := congrArg List.length hd
      rw [List.length_drop, List.length_nil] at this
      omega
    have e : i = es.length := by omega
    subst e
    exact .inl ⟨L, x2, x3, x4, rfl, I⟩
  | e :: rest, i, L, x2, x3, x4, hd, hi, hL, I => by
    have he : es[i]? = some e := by
      have : (es.drop i)[0]? = some e := by rw [hd]; rfl
      rw [List.getElem?_drop] at this
      simpa using this
    have hi2 : i < es.length := (List.getElem?_eq_some_iff.mp he).1
    have hd2 : es.drop (i + 1) = rest := by
      rw [← List.drop_drop, hd]
      rfl
    have em : e ∈ es := List.mem_of_getElem? he
    obtain ⟨m1, m2⟩ := hes e em
    have tk : es.take (i + 1) = es.take i ++ [e] := by
      rw [List.take_add_one, he]
      rfl
    have hu0 : (2 : Nat) ^ i < 2 ^ (i + 1) := Nat.pow_lt_pow_right (by decide) (Nat.lt_succ_self i)
    obtain ⟨s1, s2⟩ := eswp_small (r := ⟨e.1, e.2, 2 ^ i⟩) I.small m1 hu0
    have sc := eswp_comb (es := es) (r := ⟨e.1, e.2, 2 ^ i⟩) I.comb (EX_at he)
    have sb := eswp_b (r := ⟨e.1, e.2, 2 ^ i⟩) I.good m2
    have ss : ∀ f, (∀ o ∈ L, ESat f o) → ESat f (eswp L ⟨e.1, e.2, 2 ^ i⟩) → par e.1 f = e.2 := fun f h h2 => eswp_sat (r := ⟨e.1, e.2, 2 ^ i⟩) I.good m2 h h2
    have cl := fun o ho => eswp_clear (r := ⟨e.1, e.2, 2 ^ i⟩) I.good o ho
    have u64 : (eswp L ⟨e.1, e.2, 2 ^ i⟩).u < 2 ^ 64 := Nat.lt_of_lt_of_le s2 (Nat.pow_le_pow_right (by decide) (by omega))
    have up : ∀ o ∈ L, o.m < 2 ^ k ∧ o.u < 2 ^ (i + 1) := fun o ho => ⟨(I.small o ho).1, Nat.lt_trans (I.small o ho).2 hu0⟩
    rw [List.map_cons, enumFrom, forL_cons, eso_turn hA hP hS (by omega) (by omega) (I.tops hk) u64]
    generalize eswp L ⟨e.1, e.2, 2 ^ i⟩ = r at s1 s2 sc sb ss cl u64 ⊢
    by_cases h1 : 0 < r.m
    · rw [if_pos h1, forK_nx]
      refine eso_loop hA hP hS hk hlen hes rest (i + 1) (L ++ [r]) _ _ _ hd2 (by omega) (by rw [List.length_append]; simp; omega) ⟨egood_snoc I.good (by omega) sb cl, ?_, ?_, ?_⟩
      · intro o ho
        rcases List.mem_append.mp ho with h | h
        · exact up o h
        · rw [List.mem_singleton.mp h]
          exact ⟨s1, s2⟩
      · intro o ho
        rcases List.mem_append.mp ho with h | h
        · exact I.comb o h
        · rw [List.mem_singleton.mp h]
          exact sc
      · intro f hf x hx
        rw [tk] at hx
        rcases List.mem_append.mp hx with h | h
        · exact I.sat f (fun o ho => hf o (List.mem_append_left _ ho)) x h
        · rw [List.mem_singleton.mp h]
          exact ss f (fun o ho => hf o (List.mem_append_left _ ho)) (hf r (List.mem_append_right _ (List.mem_singleton.mpr rfl)))
    · rw [if_neg h1]
      have hm : r.m = 0 := by omega
      by_cases h2 : r.b = 1
      · rw [if_pos h2, forK_ret]
        refine .inr ⟨r.u, rfl, Nat.lt_of_lt_of_le s2 (Nat.pow_le_pow_right (by decide) hi2), ?_⟩
        rw [sc, hm, h2]
      · rw [if_neg h2, forK_nx]
        refine eso_loop hA hP hS hk hlen hes rest (i + 1) L _ _ _ hd2 (by omega) (by omega) ⟨I.good, up, I.comb, ?_⟩
        intro f hf x hx
        rw [tk] at hx
        rcases List.mem_append.mp hx with h | h
        · exact I.sat f hf x h
        · rw [List.mem_singleton.mp h]
          refine ss f hf ?_
          unfold ESat
          rw [hm, zero_par]
          omega
/-- what solved tells -/
def SolvedOk (f : List PyData → Rr) : Prop := ∀ (es : List Eqn) (k : Nat), k ≤ 190 → es.length ≤ 64 → (∀ e ∈ es, e.1 < 2 ^ k ∧ e.2 < 2) →
    (∃ v : Nat, v < 2 ^ k ∧ f [.list (es.map eqnD)] = .ok (.val (.tuple [.int v, .none])) ∧ ∀ e ∈ es, par e.1 v = e.2) ∨
    (∃ u, f [.list (es.map eqnD)] = .ok (.val (.tuple [.none, .list ((places u 0).map fun (i : Nat) => PyData.int i)])) ∧ u < 2 ^ es.length ∧ EX es u = (0, 1))
theorem solved_ok {G : Gd} (hA : AnswerOk (G.fn 0)) (hP : PlacesOk (G.fn 1)) (hS : SweptOk (G.fn 2)) {es : List Eqn} {k : Nat} (hk : k ≤ 190) (hlen : es.length ≤ 64) (hes : ∀ e ∈ es, e.1 < 2 ^ k ∧ e.2 < 2) :
    (∃ v : Nat, v < 2 ^ k ∧ fnD G b_solved 5 [.list (es.map eqnD)] = .ok (.val (.tuple [.int v, .none])) ∧ ∀ e ∈ es, par e.1 v = e.2) ∨
    (∃ u, fnD G b_solved 5 [.list (es.map eqnD)] = .ok (.val (.tuple [.none, .list ((places u 0).map fun (i : Nat) => PyData.int i)])) ∧ u < 2 ^ es.length ∧ EX es u = (0, 1)) := by
  have eb : b_solved = .cons (.asg 1 true ⟨[], false⟩ (.lst .nil)) (.cons (.for_ (.tp [2, 3]) [] (.enum (.v 0)) b_solved_l1) (.cons (.ret ⟨[], true⟩ (.tup (.cons (.call 0 (.cons (.v 1) .nil) []) (.cons (.c (.none)) .nil)))) .nil)) := rfl
  have l0 : lineB 0 = true := by decide
  have l2 : lineB 2 = true := by decide
  have D := eso_loop (G := G) hA hP hS (x0 := .val (.list (es.map eqnD))) hk hlen hes es 0 [] .no .no .no rfl (Nat.zero_le _) (Nat.le_refl _) ⟨trivial, (fun o h => by cases h), (fun o h => by cases h), (fun f _ x hx => by cases hx)⟩
  rcases D with ⟨L, y2, y3, y4, e, I⟩ | ⟨u, e, h1, h2⟩
  · left
    have da := hA L (I.tops hk)
    have fl : ∀ n : Nat, (RV.val (.tuple [.int n, .none])).flat = true := fun n => rfl
    refine ⟨eansR L.reverse 0, eansR_lt (fun o ho => ⟨(EGood.mem I.good o (List.mem_reverse.1 ho)).1, (I.small o (List.mem_reverse.1 ho)).1⟩) (Nat.two_pow_pos k), ?_, fun x hx => I.sat _ (eans_sat I.good) x (by rw [List.take_length]; exact hx)⟩
    simp at e
    simp [fnD_res, eb, l0, l2, e, da, fl]
  · right
    refine ⟨u, ?_, h1, h2⟩
    simp at e
    simp [fnD_res, eb, l0, e]
end PX

/-! PLTK: what a mark is made of: rows taken, or a mark that stands apart. -/
namespace PX
open PySem PySem.Spec PyProof.Rows L2 SB
theorem cbL {x : Tm} {j : Nat} (h : j < 6) : cb x j = x.f.testBit j := by
  unfold cb cd
  rw [Nat.testBit_xor, shl_bit, decide_eq_false (by omega), Bool.false_and, Bool.xor_false]
theorem cbH {x : Tm} (l : x.lt 6) (j : Nat) : cb x (6 + j) = x.s.testBit j := by
  unfold cb cd
  rw [Nat.testBit_xor, shl_bit, decide_eq_true (by omega), Bool.true_and, hi_bit l.f (by omega), Bool.false_xor, Nat.add_sub_cancel_left]
/-! ### which rows have a place at 1 -/
def msk : List Tm → Nat → Nat
  | [], _ => 0
  | a :: L, p => (cb a p).toNat + 2 * msk L p
theorem msk_lt : ∀ (L : List Tm) (p : Nat), msk L p < 2 ^ L.length
  | [], p => Nat.one_pos
  | a :: L, p => by
    have := msk_lt L p
    rw [List.length_cons, Nat.pow_succ]
    show (cb a p).toNat + 2 * msk L p < _
    have := Bool.toNat_le (cb a p)
    omega
theorem msk_bit : ∀ {L : List Tm} {i : Nat} {a : Tm} {p : Nat}, L[i]? = some a → (msk L p).testBit i = cb a p
  | b :: L, 0, a, p, h => by
    cases h
    show ((cb b p).toNat + 2 * msk L p).testBit 0 = cb b p
    rw [Nat.testBit_zero]
    cases cb b p
    · exact decide_eq_false (by show ¬ (0 + 2 * msk L p) % 2 = 1; omega)
    · exact decide_eq_true (by show (1 + 2 * msk L p) % 2 = 1; omega)
  | b :: L, i + 1, a, p, h => by
    show ((cb b p).toNat + 2 * msk L p).testBit (i + 1) = cb a p
    have := Bool.toNat_le (cb b p)
    rw [Nat.testBit_succ, show ((cb b p).toNat + 2 * msk L p) / 2 = msk L p by omega]
    exact msk_bit (L := L) h
theorem msk_snoc : ∀ (L : List Tm) (a : Tm) (p : Nat), msk (L ++ [a]) p = msk L p + (cb a p).toNat * 2 ^ L.length
  | [], a, p => by show (cb a p).toNat + 2 * 0 = 0 + (cb a p).toNat * 2 ^ 0; omega
  | b :: L, a, p => by
    show (cb b p).toNat + 2 * msk (L ++ [a]) p = (cb b p).toNat + 2 * msk L p + (cb a p).toNat * 2 ^ (L.length + 1)
    rw [msk_snoc L a p, Nat.pow_succ, ← Nat.mul_assoc]
    generalize (cb a p).toNat * 2 ^ L.length = z
    omega
theorem msk_or (L : List Tm) (p : Nat) : msk L p ||| 2 ^ L.length = msk L p + 2 ^ L.length := by
  have h := Nat.two_pow_add_eq_or_of_lt (msk_lt L p) 1
  rw [Nat.mul_one] at h
  rw [Nat.or_comm, ← h, Nat.add_comm]
theorem par_step (b : Bool) (m v : Nat) : par (b.toNat + 2 * m) v = (b.toNat * (v % 2) + par m (v / 2)) % 2 := by
  unfold par
  have hb := Bool.toNat_le b
  rw [pop_div ((b.toNat + 2 * m) &&& v), Nat.and_div_two, show (b.toNat + 2 * m) / 2 = m by omega]
  have e : ((b.toNat + 2 * m) &&& v) % 2 = b.toNat * (v % 2) := by
    have h : ((b.toNat + 2 * m) &&& v) % 2 = 1 ↔ (b.toNat + 2 * m) % 2 = 1 ∧ v % 2 = 1 := Nat.and_mod_two_eq_one
    have h2 := Nat.mod_lt ((b.toNat + 2 * m) &&& v) (show 0 < 2 by decide)
    cases b
    · have : ¬ ((false.toNat + 2 * m) &&& v) % 2 = 1 := fun q => by
        have := (h.1 q).1
        simp at this
      show ((false.toNat + 2 * m) &&& v) % 2 = 0 * (v % 2)
      omega
    · show ((true.toNat + 2 * m) &&& v) % 2 = 1 * (v % 2)
      have h3 : (true.toNat + 2 * m) % 2 = 1 := by show (1 + 2 * m) % 2 = 1; omega
      by_cases q : v % 2 = 1
      · rw [h.2 ⟨h3, q⟩, q]
      · have : ¬ ((true.toNat + 2 * m) &&& v) % 2 = 1 := fun z => q (h.1 z).2
        omega
  rw [e]
  omega
/-- the product of the rows at the places of a number -/
noncomputable def prd : List Tm → Nat → Tm → Tm
  | [], _, x => x
  | a :: L, v, x => prd L (v / 2) (if v % 2 = 1 then mulT x a else x)
theorem prd_zero : ∀ (L : List Tm) (x : Tm), prd L 0 x = x
  | [], x => rfl
  | a :: L, x => by
    rw [prd, if_neg (by decide)]
    exact prd_zero L x
theorem prd_cb : ∀ (L : List Tm) (v : Nat) (x : Tm) (p : Nat), cb (prd L v x) p = (cb x p ^^ decide (par (msk L p) v = 1))
  | [], v, x, p => by
    show cb x p = (cb x p ^^ decide (par 0 v = 1))
    rw [zero_par]
    cases cb x p <;> rfl
  | a :: L, v, x, p => by
    rw [prd, prd_cb L]
    show _ = (cb x p ^^ decide (par ((cb a p).toNat + 2 * msk L p) v = 1))
    rw [par_step]
    have h1 := par_lt (msk L p) (v / 2)
    generalize par (msk L p) (v / 2) = z at *
    by_cases q : v % 2 = 1
    · rw [if_pos q, cb_mul, q]
      cases cb x p <;> cases cb a p <;> (have : z = 0 ∨ z = 1 := by omega) <;> rcases this with rfl | rfl <;> rfl
    · rw [if_neg q, show v % 2 = 0 by omega]
      cases cb x p <;> cases cb a p <;> (have : z = 0 ∨ z = 1 := by omega) <;> rcases this with rfl | rfl <;> rfl
theorem prd_pr {M : List Tm} (c : Cev M) : ∀ {L : List Tm} {v : Nat} {x : Tm}, (∀ a ∈ L, a ∈ M) → PrT M x → PrT M (prd L v x)
  | [], v, x, _, h => h
  | a :: L, v, x, hl, h => by
    rw [prd]
    refine prd_pr c (fun b m => hl b (List.mem_cons_of_mem a m)) ?_
    split
    · exact PrT.mul c h (PrT.mem (hl a List.mem_cons_self) (c.q a (hl a List.mem_cons_self)))
    · exact h
/-! ### places -/
def pls (n : Nat) : List Nat := List.range n ++ (List.range n).map (6 + ·)
theorem pls_len (n : Nat) : (pls n).length = 2 * n := by
  unfold pls
  rw [List.length_append, List.length_map, List.length_range]
  omega
theorem pls_mem {n p : Nat} : p ∈ pls n ↔ p < n ∨ (6 ≤ p ∧ p < 6 + n) := by
  unfold pls
  rw [List.mem_append, List.mem_range, List.mem_map]
  constructor
  · rintro (h | ⟨i, h, rfl⟩)
    · exact .inl h
    · have := List.mem_range.1 h
      exact .inr ⟨by omega, by omega⟩
  · rintro (h | ⟨h1, h2⟩)
    · exact .inl h
    · exact .inr ⟨p - 6, List.mem_range.2 (by omega), by omega⟩
theorem pls_nodup {n : Nat} (h : n ≤ 6) : (pls n).Nodup := by
  unfold pls
  refine List.nodup_append.2 ⟨List.nodup_range, ?_, fun a ha b hb e => ?_⟩
  · exact List.pairwise_map.2 (List.nodup_range.imp fun h e => h (by omega))
  · obtain ⟨i, hi, rfl⟩ := List.mem_map.1 hb
    have := List.mem_range.1 ha
    omega
theorem cb_out {n : Nat} {x : Tm} (l : x.lt n) (hn : n ≤ 6) {p : Nat} (h : p ∉ pls n) : cb x p = false := by
  unfold cb cd
  rw [Nat.testBit_xor, shl_bit]
  have h := fun q => h (pls_mem.2 q)
  by_cases a : 6 ≤ p
  · rw [decide_eq_true a, hi_bit l.f (by omega), hi_bit l.s (by by_cases z : p < 6 + n; exact absurd (.inr ⟨a, z⟩) h; omega)]
    rfl
  · rw [decide_eq_false a, hi_bit l.f (by by_cases z : p < n; exact absurd (.inl z) h; omega)]
    rfl
/-- those at the places of a number -/
def sel : List Nat → Nat → List Nat
  | [], _ => []
  | q :: ql, u => if u % 2 = 1 then q :: sel ql (u / 2) else sel ql (u / 2)
theorem sel_sub : ∀ (ql : List Nat) (u : Nat), (sel ql u).Sublist ql
  | [], u => List.Sublist.refl _
  | q :: ql, u => by
    rw [sel]
    split
    · exact (sel_sub ql (u / 2)).cons_cons q
    · exact (sel_sub ql (u / 2)).cons q
theorem places_0 (p : Nat) : places 0 p = [] := by rw [places, dif_pos rfl]
theorem places_step (u p : Nat) : places u p = (if u % 2 = 1 then [p] else []) ++ places (u / 2) (p + 1) := by
  by_cases h : u = 0
  · subst h
    rw [places_0, if_neg (by decide), List.nil_append]
    exact (places_0 _).symm
  · rw [places, dif_neg h]
    split <;> rfl
theorem places_up : ∀ n p : Nat, places n (p + 1) = (places n p).map (· + 1) := fun n => by
  induction n using Nat.strongRecOn with
  | ind n ih =>
    intro p
    rw [places_step n p, places_step n (p + 1)]
    by_cases h : n = 0
    · rw [h, places_0, places_0]; rfl
    · rw [ih (n / 2) (by omega) (p + 1), List.map_append]
      split <;> rfl
theorem places_lt : ∀ (k u p i : Nat), u < 2 ^ k → i ∈ places u p → i < p + k
  | 0, u, p, i, h, m => by
    rw [show u = 0 by omega, places_0] at m
    cases m
  | k + 1, u, p, i, h, m => by
    rw [Nat.pow_succ] at h
    rw [places_step] at m
    rcases List.mem_append.1 m with m | m
    · split at m
      · rw [List.mem_singleton.1 m]; omega
      · cases m
    · have := places_lt k (u / 2) (p + 1) i (by omega) m
      omega
theorem sel_map : ∀ (ql : List Nat) (u : Nat), u < 2 ^ ql.length → (places u 0).map (fun i => ql.getD i 0) = sel ql u
  | [], u, h => by
    rw [show u = 0 by rw [List.length_nil] at h; omega, places_0]
    rfl
  | q :: ql, u, h => by
    rw [List.length_cons, Nat.pow_succ] at h
    have ih := sel_map ql (u / 2) (by omega)
    rw [sel, places_step, places_up, List.map_append, List.map_map]
    have e : List.map ((fun i => (q :: ql).getD i 0) ∘ fun x => x + 1) (places (u / 2) 0) = sel ql (u / 2) := by
      rw [← ih]
      rfl
    rw [e]
    split <;> rfl
/-- how many of some places a mark has, odd or even -/
def xb (a : Tm) : List Nat → Bool
  | [] => false
  | p :: t => cb a p ^^ xb a t
theorem EX_sel {L : List Tm} {x : Tm} : ∀ (ql : List Nat) (u : Nat), (EX (ql.map fun p => (msk L p, (cb x p).toNat)) u).2 = (xb x (sel ql u)).toNat ∧ ∀ i a, L[i]? = some a → ((EX (ql.map fun p => (msk L p, (cb x p).toNat)) u).1).testBit i = xb a (sel ql u)
  | [], u => ⟨rfl, fun i a _ => Nat.zero_testBit i⟩
  | q :: ql, u => by
    obtain ⟨h1, h2⟩ := EX_sel ql (u / 2)
    rw [List.map_cons, EX, sel]
    split
    · refine ⟨?_, fun i a hi => ?_⟩
      · show (cb x q).toNat ^^^ _ = (cb x q ^^ xb x (sel ql (u / 2))).toNat
        rw [h1]
        cases cb x q <;> cases xb x (sel ql (u / 2)) <;> rfl
      · show (msk L q ^^^ _).testBit i = (cb a q ^^ xb a (sel ql (u / 2)))
        rw [Nat.testBit_xor, h2 i a hi, msk_bit hi]
    · exact ⟨h1, h2⟩
/-! ### what the defs tell -/
def EquationOk (f : List PyData → Rr) : Prop := ∀ (L : List Tm) (x : Tm) (p : Nat), (∀ a ∈ L, a.lt 6) → x.lt 6 → L.length ≤ 100 → f [.list (L.map TD), TD x, .int p] = .ok (.val (eqnD (msk L p, (cb x p).toNat)))
theorem equation_loop {G : Gd} (hH : HasAtOk (G.fn 0)) {c0 c1 : Cell} {p : Nat} : ∀ (R A : List Tm) (c4 c5 : Cell), (∀ a ∈ R, a.lt 6) → A.length + R.length ≤ 100 → ∃ y4 y5, forL (bodyF G (.tp [4, 5]) b_equation_at_l1) (enumFrom A.length (R.map TD)) [c0, c1, .val (.int p), .val (.int (msk A p : Nat)), c4, c5] = .nx [c0, c1, .val (.int p), .val (.int (msk (A ++ R) p : Nat)), y4, y5]
  | [], A, c4, c5, _, _ => ⟨c4, c5, by rw [List.append_nil]; rfl⟩
  | a :: R, A, c4, c5, h, hl => by
    rw [List.length_cons] at hl
    have hh := hH a p (h a List.mem_cons_self)
    have sh := shlOk_1 (k := A.length) (by omega)
    have e := msk_snoc A a p
    have eo := msk_or A p
    have orr : Builtin.bitOr ((msk A p : Nat) : Int) ((2 : Int) ^ A.length) = ((msk A p + 2 ^ A.length : Nat) : Int) := by rw [or_pow, eo]
    have b : bodyF G (.tp [4, 5]) b_equation_at_l1 (.tuple [.int (A.length : Nat), TD a]) [c0, c1, .val (.int p), .val (.int (msk A p : Nat)), c4, c5] = .nx [c0, c1, .val (.int p), .val (.int (msk (A ++ [a]) p : Nat)), .val (.int (A.length : Nat)), .val (TD a)] := by
      rw [e]
      generalize msk A p = m at *
      generalize A.length = k at *
      generalize TD a = T at *
      cases q : cb a p <;> rw [q] at hh
      · simp only [bodyF, b_equation_at_l1]
        simp [hh]
      · have e2 : m + true.toNat * 2 ^ k = m + 2 ^ k := by show m + 1 * 2 ^ k = _; omega
        rw [e2]
        generalize ((m + 2 ^ k : Nat) : Int) = z at *
        simp only [bodyF, b_equation_at_l1]
        simp [hh, sh, orr]
    obtain ⟨y4, y5, r⟩ := equation_loop hH (c0 := c0) (c1 := c1) (p := p) R (A ++ [a]) (.val (.int (A.length : Nat))) (.val (TD a)) (fun x m => h x (List.mem_cons_of_mem a m)) (by rw [List.length_append]; show A.length + 1 + R.length ≤ 100; omega)
    refine ⟨y4, y5, ?_⟩
    rw [List.length_append, List.append_assoc] at r
    rw [List.map_cons, enumFrom, forL_cons, b, forK_nx]
    exact r
theorem equation_ok {G : Gd} (hH : HasAtOk (G.fn 0)) {L : List Tm} {x : Tm} {p : Nat} (h : ∀ a ∈ L, a.lt 6) (hx : x.lt 6) (hl : L.length ≤ 100) : fnD G b_equation_at 6 [.list (L.map TD), TD x, .int p] = .ok (.val (eqnD (msk L p, (cb x p).toNat))) := by
  obtain ⟨y4, y5, e⟩ := equation_loop hH (c0 := .val (.list (L.map TD))) (c1 := .val (TD x)) (p := p) L [] .no .no h (by rw [List.length_nil]; omega)
  have hh := hH x p hx
  rw [List.nil_append] at e
  have e : forL (bodyF G (.tp [4, 5]) b_equation_at_l1) (enumFrom 0 (L.map TD)) [.val (.list (L.map TD)), .val (TD x), .val (.int p), .val (.int 0), .no, .no] = _ := e
  have i1 : bf .int1 [.bool (cb x p)] = rint (((cb x p).toNat : Nat) : Int) := by cases cb x p <;> rfl
  have l2 : lineB 2 = true := by decide
  have en : eqnD (msk L p, (cb x p).toNat) = .tuple [.int (msk L p : Nat), .int ((cb x p).toNat : Nat)] := rfl
  rw [en]
  generalize cb x p = c at *
  generalize msk L p = m at *
  generalize TD x = T at *
  generalize L.map TD = LD at *
  simp only [fnD_res, b_equation_at]
  simp [e, hh, i1, l2]
def AcrossOk (f : List PyData → Rr) : Prop := ∀ (n : Nat) (t : List Nat), n ≤ 6 → t.Nodup → (∀ p ∈ t, p ∈ pls n) → ∃ y : Tm, y.lt n ∧ y.par = 0 ∧ (∀ a : Tm, a.lt 6 → cm a y = !xb a t) ∧ f [.list (t.map fun i : Nat => PyData.int (i : Int))] = .ok (.val (TD y))
theorem xr_of_or {w i : Nat} (h : w.testBit i = false) : w ||| 2 ^ i = w ^^^ 2 ^ i := Nat.eq_of_testBit_eq fun j => by
  rw [Nat.testBit_or, Nat.testBit_xor, Nat.testBit_two_pow]
  by_cases e : i = j
  · rw [← e, h, decide_eq_true rfl]; rfl
  · rw [decide_eq_false e]
    cases w.testBit j <;> rfl
theorem cm_xr {x y z : Tm} : cm z (xr x y) = (cm z x == cm z y) := by
  rw [cm_comm z, cm_comm z x, cm_comm z y]
  exact cm_mulT (x := x) (y := y) (z := z)
theorem across_loop {G : Gd} (hC : G.con 0 = some (.int 6)) {c0 : Cell} {n : Nat} (hn : n ≤ 6) : ∀ (t : List Nat) (y : Tm) (c3 : Cell), t.Nodup → (∀ p ∈ t, p ∈ pls n) → y.lt n → (∀ p ∈ t, p < 6 → y.s.testBit p = false) → (∀ p ∈ t, 6 ≤ p → y.f.testBit (p - 6) = false) →
    ∃ (z : Tm) (y3 : Cell), z.lt n ∧ (∀ a : Tm, a.lt 6 → cm a z = (cm a y ^^ xb a t)) ∧ forL (bodyF G (.nm 3) b_mark_across_l1) (t.map fun i : Nat => PyData.int (i : Int)) [c0, .val (.int (y.f : Nat)), .val (.int (y.s : Nat)), c3] = .nx [c0, .val (.int (z.f : Nat)), .val (.int (z.s : Nat)), y3]
  | [], y, c3, _, _, l, _, _ => ⟨y, c3, l, fun a _ => by show cm a y = (cm a y ^^ false); rw [Bool.xor_false], rfl⟩
  | p :: t, y, c3, nd, hp, l, h1, h2 => by
    obtain ⟨n1, nd2⟩ := List.nodup_cons.1 nd
    have hp2 := fun i m => hp i (List.mem_cons_of_mem p m)
    have mp := pls_mem.1 (hp p List.mem_cons_self)
    have q0 : 0 < 4 := by decide
    by_cases c : p < 6
    · have c' : (p : Int) < 6 := by omega
      have pn : p < n := by rcases mp with m | m <;> omega
      have bz := h1 p List.mem_cons_self c
      have l2 : (Tm.mk 0 y.f (y.s ^^^ 2 ^ p)).lt n := ⟨q0, l.f, Nat.xor_lt_two_pow l.s (Nat.pow_lt_pow_right (by decide) pn)⟩
      have sh := shlOk_1 (k := p) (by omega)
      have orr : Builtin.bitOr ((y.s : Nat) : Int) ((2 : Int) ^ p) = ((y.s ^^^ 2 ^ p : Nat) : Int) := by rw [or_pow, xr_of_or bz]
      obtain ⟨z, y3, z1, z2, z3⟩ := across_loop hC (c0 := c0) hn t ⟨0, y.f, y.s ^^^ 2 ^ p⟩ (.val (.int p)) nd2 hp2 l2 (fun i m hi => by
        show (y.s ^^^ 2 ^ p).testBit i = false
        rw [Nat.testBit_xor, h1 i (List.mem_cons_of_mem p m) hi, Nat.testBit_two_pow, decide_eq_false fun e => n1 (by rw [e]; exact m)]
        rfl) (fun i m hi => h2 i (List.mem_cons_of_mem p m) hi)
      refine ⟨z, y3, z1, fun a la => ?_, ?_⟩
      · rw [z2 a la]
        have e : cm a ⟨0, y.f, y.s ^^^ 2 ^ p⟩ = (cm a y == cm a (sgn p)) := by
          have : (Tm.mk 0 y.f (y.s ^^^ 2 ^ p)) = xr y (sgn p) := Tm.ext' rfl (Nat.xor_zero _).symm rfl
          rw [this, cm_xr]
        rw [e, cm_sgn]
        show _ = (cm a y ^^ (cb a p ^^ xb a t))
        rw [cbL c]
        cases cm a y <;> cases a.f.testBit p <;> cases xb a t <;> rfl
      · have b : bodyF G (.nm 3) b_mark_across_l1 (.int p) [c0, .val (.int (y.f : Nat)), .val (.int (y.s : Nat)), c3] = .nx [c0, .val (.int (y.f : Nat)), .val (.int (y.s ^^^ 2 ^ p : Nat)), .val (.int p)] := by
          generalize ((y.s ^^^ 2 ^ p : Nat) : Int) = z at *
          simp only [bodyF, b_mark_across_l1]
          simp [hC, c', c, sh, orr]
        rw [List.map_cons, forL_cons, b, forK_nx]
        exact z3
    · obtain ⟨i, rfl⟩ : ∃ i, p = 6 + i := ⟨p - 6, by omega⟩
      have c' : ¬ ((6 + i : Nat) : Int) < 6 := by omega
      have pn : i < n := by rcases mp with m | m <;> omega
      have bz := h2 (6 + i) List.mem_cons_self (by omega)
      rw [Nat.add_sub_cancel_left] at bz
      have l2 : (Tm.mk 0 (y.f ^^^ 2 ^ i) y.s).lt n := ⟨q0, Nat.xor_lt_two_pow l.f (Nat.pow_lt_pow_right (by decide) pn), l.s⟩
      have sh := shlOk_1 (k := i) (by omega)
      have es : ((6 + i : Nat) : Int) - 6 = (i : Int) := by omega
      have orr : Builtin.bitOr ((y.f : Nat) : Int) ((2 : Int) ^ i) = ((y.f ^^^ 2 ^ i : Nat) : Int) := by rw [or_pow, xr_of_or bz]
      obtain ⟨z, y3, z1, z2, z3⟩ := across_loop hC (c0 := c0) hn t ⟨0, y.f ^^^ 2 ^ i, y.s⟩ (.val (.int ((6 + i : Nat) : Int))) nd2 hp2 l2 (fun j m hj => h1 j (List.mem_cons_of_mem _ m) hj) (fun j m hj => by
        show (y.f ^^^ 2 ^ i).testBit (j - 6) = false
        rw [Nat.testBit_xor, h2 j (List.mem_cons_of_mem _ m) hj, Nat.testBit_two_pow, decide_eq_false fun e => n1 (by rw [show 6 + i = j by omega]; exact m)]
        rfl)
      refine ⟨z, y3, z1, fun a la => ?_, ?_⟩
      · rw [z2 a la]
        have e : cm a ⟨0, y.f ^^^ 2 ^ i, y.s⟩ = (cm a y == cm a ⟨0, 2 ^ i, 0⟩) := by
          have : (Tm.mk 0 (y.f ^^^ 2 ^ i) y.s) = xr y ⟨0, 2 ^ i, 0⟩ := Tm.ext' rfl rfl (Nat.xor_zero _).symm
          rw [this, cm_xr]
        rw [e, cm_comm a ⟨0, 2 ^ i, 0⟩]
        show _ = (cm a y ^^ (cb a (6 + i) ^^ xb a t))
        rw [cbH la]
        have ef : cm (Tm.mk 0 (2 ^ i) 0) a = !a.s.testBit i := cm_flp' (x := a)
        rw [ef]
        cases cm a y <;> cases a.s.testBit i <;> cases xb a t <;> rfl
      · have b : bodyF G (.nm 3) b_mark_across_l1 (.int ((6 + i : Nat) : Int)) [c0, .val (.int (y.f : Nat)), .val (.int (y.s : Nat)), c3] = .nx [c0, .val (.int (y.f ^^^ 2 ^ i : Nat)), .val (.int (y.s : Nat)), .val (.int ((6 + i : Nat) : Int))] := by
          generalize ((y.f ^^^ 2 ^ i : Nat) : Int) = z at *
          generalize ((6 + i : Nat) : Int) = P at *
          simp only [bodyF, b_mark_across_l1]
          simp [hC, c', es, sh, orr]
        rw [List.map_cons, forL_cons, b, forK_nx]
        exact z3
theorem across_ok {G : Gd} (hO : OnesOk (G.fn 0)) (hC : G.con 0 = some (.int 6)) {n : Nat} {t : List Nat} (hn : n ≤ 6) (nd : t.Nodup) (hp : ∀ p ∈ t, p ∈ pls n) : ∃ y : Tm, y.lt n ∧ y.par = 0 ∧ (∀ a : Tm, a.lt 6 → cm a y = !xb a t) ∧ fnD G b_mark_across 4 [.list (t.map fun i : Nat => PyData.int (i : Int))] = .ok (.val (TD y)) := by
  obtain ⟨z, y3, z1, z2, z3⟩ := across_loop hC (c0 := .val (.list (t.map fun i : Nat => PyData.int (i : Int)))) hn t T0 .no nd hp ⟨by decide, Nat.two_pow_pos n, Nat.two_pow_pos n⟩ (fun p _ _ => Nat.zero_testBit p) fun p _ _ => Nat.zero_testBit _
  refine ⟨⟨pop (z.f &&& z.s) % 4, z.f, z.s⟩, ⟨Nat.mod_lt _ (by decide), z1.f, z1.s⟩, ?_, fun a la => ?_, ?_⟩
  · show (pop (z.f &&& z.s) % 4 + pop (z.f &&& z.s)) % 2 = 0
    omega
  · have e : cm a ⟨pop (z.f &&& z.s) % 4, z.f, z.s⟩ = cm a z := rfl
    rw [e, z2 a la, cm_comm, cm_T0]
    cases xb a t <;> rfl
  · have o := hO (z.f &&& z.s)
    have l3 : lineB 3 = true := by decide
    have z3 : forL (bodyF G (.nm 3) b_mark_across_l1) (t.map fun i : Nat => PyData.int (i : Int)) [.val (.list (t.map fun i : Nat => PyData.int (i : Int))), .val (.int 0), .val (.int 0), .no] = _ := z3
    generalize (t.map fun i : Nat => PyData.int (i : Int)) = tD at *
    simp only [fnD_res, b_mark_across]
    unfold TD M3
    simp [z3, o, l3]
/-! ### made of, or apart -/
def MadeOk (f : List PyData → Rr) : Prop := ∀ (n : Nat) (L : List Tm) (x : Tm), n ≤ 6 → Tab n L → x.lt n →
  (∃ v : Nat, v < 2 ^ L.length ∧ eqv (prd L v T0) x ∧ PrT L (prd L v T0) ∧ f [.list (L.map TD), TD x, .int n] = .ok (.val (.tuple [.str "made", .int (((x.q : Int) - ((prd L v T0).q : Int)) % 4), .list ((places v 0).map fun i : Nat => PyData.int (i : Int))]))) ∨
  (∃ y : Tm, y.lt n ∧ y.par = 0 ∧ (∀ a ∈ L, cm a y = true) ∧ cm x y = false ∧ f [.list (L.map TD), TD x, .int n] = .ok (.val (.tuple [.str "apart", TD y])))
theorem made_loop {G : Gd} (hP : ProductOk (G.fn 0)) {L : List Tm} {c1 c2 c3 c4 c5 c6 : Cell} : ∀ (k v p : Nat) (x : Tm) (c8 : Cell), v < 2 ^ k → p + k = L.length → ∃ y8, forL (bodyF G (.nm 8) b_made_of_l1) ((places v p).map fun i : Nat => PyData.int (i : Int)) [.val (.list (L.map TD)), c1, c2, c3, c4, c5, c6, .val (TD x), c8, .no] = .nx [.val (.list (L.map TD)), c1, c2, c3, c4, c5, c6, .val (TD (prd (L.drop p) v x)), y8, .no]
  | 0, v, p, x, c8, h, e => by
    refine ⟨c8, ?_⟩
    rw [show v = 0 by omega, places_0, prd_zero]
    rfl
  | k + 1, v, p, x, c8, h, e => by
    rw [Nat.pow_succ] at h
    have hp : p < L.length := by omega
    rw [List.drop_eq_getElem_cons hp, prd, places_step, List.map_append]
    by_cases o : v % 2 = 1
    · rw [if_pos o, if_pos o]
      have pr := prodT hP x L[p]
      have ix : ixD (.list (L.map TD)) (.int (p : Nat)) = rv (TD L[p]) := ixD_list (by rw [List.getElem?_map, List.getElem?_eq_getElem hp]; rfl)
      have b : bodyF G (.nm 8) b_made_of_l1 (.int (p : Nat)) [.val (.list (L.map TD)), c1, c2, c3, c4, c5, c6, .val (TD x), c8, .no] = .nx [.val (.list (L.map TD)), c1, c2, c3, c4, c5, c6, .val (TD (mulT x L[p])), .val (.int (p : Nat)), .no] := by
        generalize TD (mulT x L[p]) = Z at *
        generalize TD L[p] = Y at *
        generalize TD x = X at *
        generalize L.map TD = LD at *
        simp only [bodyF, b_made_of_l1]
        simp [ix, pr]
      obtain ⟨y8, r⟩ := made_loop (L := L) hP (c1 := c1) (c2 := c2) (c3 := c3) (c4 := c4) (c5 := c5) (c6 := c6) k (v / 2) (p + 1) (mulT x L[p]) (.val (.int (p : Nat))) (by omega) (by omega)
      refine ⟨y8, ?_⟩
      show forL _ (PyData.int (p : Int) :: _) _ = _
      rw [forL_cons, b, forK_nx]
      exact r
    · rw [if_neg o, if_neg o]
      exact made_loop (L := L) hP k (v / 2) (p + 1) x c8 (by omega) (by omega)
theorem lrngD1 {j : Int} (h : (small62 j && decide (j ≤ 16777216)) = true) : lrngD [.int j] = some (.own (rngs 0 1 j.toNat)) := if_pos h
theorem lrngD2 {i j : Int} (h : (small62 i && small62 j && decide (j - i ≤ 16777216)) = true) : lrngD [.int i, .int j] = some (.own (rngs i 1 (j - i).toNat)) := if_pos h
theorem pls_ev {n : Nat} (hn : n ≤ 6) : ((rngs 0 1 n) ++ (rngs 6 1 n)) = (pls n).map fun i : Nat => PyData.int (i : Int) := by
  unfold pls rngs
  rw [List.map_append, List.map_map]
  congr 1
  · refine List.map_congr_left fun i _ => ?_
    show PyData.int (0 + (i : Int) * 1) = PyData.int (i : Int)
    congr 1
    omega
  · refine List.map_congr_left fun i _ => ?_
    show PyData.int (6 + (i : Int) * 1) = PyData.int ((6 + i : Nat) : Int)
    congr 1
    omega
theorem made_of_ok {G : Gd} (hP : ProductOk (G.fn 0)) (hL : PlacesOk (G.fn 1)) (hA : AcrossOk (G.fn 2)) (hS : SolvedOk (G.fn 3)) (hE : EquationOk (G.fn 4)) (hC : G.con 0 = some (.int 6)) {n : Nat} {L : List Tm} {x : Tm} (hn : n ≤ 6) (t : Tab n L) (lx : x.lt n) :
    (∃ v : Nat, v < 2 ^ L.length ∧ eqv (prd L v T0) x ∧ PrT L (prd L v T0) ∧ fnD G b_made_of 10 [.list (L.map TD), TD x, .int n] = .ok (.val (.tuple [.str "made", .int (((x.q : Int) - ((prd L v T0).q : Int)) % 4), .list ((places v 0).map fun i : Nat => PyData.int (i : Int))]))) ∨
    (∃ y : Tm, y.lt n ∧ y.par = 0 ∧ (∀ a ∈ L, cm a y = true) ∧ cm x y = false ∧ fnD G b_made_of 10 [.list (L.map TD), TD x, .int n] = .ok (.val (.tuple [.str "apart", TD y]))) := by
  have ll := t.len
  have l6 : ∀ a ∈ L, a.lt 6 := fun a m => (t.lt a m).up hn
  have s1 : small62 (n : Int) = true := small62_of (by omega) (by omega)
  have s6 : small62 6 = true := by decide
  have s2 : small62 (6 + (n : Int)) = true := small62_of (by omega) (by omega)
  have e6 : (6 + (n : Int) - 6).toNat = n := by omega
  have g1 : (n : Int) ≤ 16777216 := by omega
  have g2 : (6 + (n : Int)) - 6 ≤ 16777216 := by omega
  have r1 : lrngD [.int (n : Nat)] = some (.own (rngs 0 1 n)) := lrngD1 (j := (n : Int)) (by rw [s1, decide_eq_true g1]; rfl)
  have r2 : lrngD [.int 6, .int (6 + (n : Int))] = some (.own (rngs 6 1 n)) := by
    rw [lrngD2 (by rw [s6, s2, decide_eq_true g2]; rfl), e6]
  have pe := pls_ev hn
  have lb : lineB (List.length (rngs 0 1 n) + List.length (rngs 6 1 n)) = true := lineB_le (by rw [rngs_length, rngs_length]; omega)
  have pl := pls_len n
  -- the equations
  have m2 : ∀ r4 r5 r6 r7 r8 r9 : Option PyData, ev G b_made_of_m2 [some (.list (L.map TD)), some (TD x), some (.int n), some (.list ((pls n).map fun i : Nat => PyData.int (i : Int))), r4, r5, r6, r7, r8, r9] = .ok (.own (((pls n).map fun p => (msk L p, (cb x p).toNat)).map eqnD)) := fun r4 r5 r6 r7 r8 r9 => by
    have cl : compL (stepR G [("place", 9)] (.call 4 (.cons (.v 0) (.cons (.v 1) (.cons (.v 9) .nil))) []) (.nm 9) .no [some (.list (L.map TD)), some (TD x), some (.int n), some (.list ((pls n).map fun i : Nat => PyData.int (i : Int))), r4, r5, r6, r7, r8, r9]) ((pls n).map fun i : Nat => PyData.int (i : Int)) = some ((pls n).map fun p => eqnD (msk L p, (cb x p).toNat)) := compL_map fun p _ => by
      have h := hE L x p l6 (lx.up hn) (by omega)
      generalize eqnD (msk L p, (cb x p).toNat) = E at *
      generalize TD x = X at *
      generalize L.map TD = LD at *
      simp [stepR, wipeD, h]
    have lb2 : lineB ((pls n).map fun i : Nat => PyData.int (i : Int)).length = true := lineB_le (by rw [List.length_map, pl]; omega)
    rw [List.map_map]
    show _ = Res.ok (RV.own ((pls n).map fun p => eqnD (msk L p, (cb x p).toNat)))
    generalize ((pls n).map fun p => eqnD (msk L p, (cb x p).toNat)) = E at *
    generalize ((pls n).map fun i : Nat => PyData.int (i : Int)) = PD at *
    generalize TD x = X at *
    generalize L.map TD = LD at *
    unfold b_made_of_m2
    rw [ev_compR]
    simp [lb2, cl, ownL]
  have es : ((pls n).map fun p => (msk L p, (cb x p).toNat)).length = 2 * n := by rw [List.length_map, pl]
  rcases hS ((pls n).map fun p => (msk L p, (cb x p).toNat)) L.length (by omega) (by omega) (fun e m => by
    obtain ⟨p, _, rfl⟩ := List.mem_map.1 m
    exact ⟨msk_lt L p, by have := Bool.toNat_le (cb x p); show (cb x p).toNat < 2; omega⟩) with ⟨v, hv, e1, e2⟩ | ⟨u, e1, hu, hX⟩
  · have par : ∀ p, par (msk L p) v = (cb x p).toNat := fun p => by
      by_cases m : p ∈ pls n
      · exact e2 (msk L p, (cb x p).toNat) (List.mem_map.2 ⟨p, m, rfl⟩)
      · have z : ∀ M : List Tm, (∀ a ∈ M, a.lt n) → msk M p = 0 := fun M => by
          induction M with
          | nil => exact fun _ => rfl
          | cons a M ih =>
            intro h
            show (cb a p).toNat + 2 * msk M p = 0
            rw [cb_out (h a List.mem_cons_self) hn m, ih fun b k => h b (List.mem_cons_of_mem a k)]
            rfl
        rw [z L t.lt, zero_par, cb_out lx hn m]
        rfl
    have ce : cd (prd L v T0) = cd x := Nat.eq_of_testBit_eq fun p => by
      have h := prd_cb L v T0 p
      rw [par p, cb_nought (x := T0) rfl rfl] at h
      show cb (prd L v T0) p = cb x p
      rw [h]
      cases cb x p <;> rfl
    have pp : PrT L (prd L v T0) := prd_pr t.cev (fun _ m => m) PrT.one
    have pl6 := (PrT.lt t.lt pp).up hn
    have eq : eqv (prd L v T0) x := by
      have z := cd_zero (x := xr (prd L v T0) x) ⟨show 0 < 4 by decide, Nat.xor_lt_two_pow pl6.f (lx.up hn).f, Nat.xor_lt_two_pow pl6.s (lx.up hn).s⟩ (by rw [cd_xr, ce, Nat.xor_self])
      have q1 : (prd L v T0).f ^^^ x.f = 0 := z.1
      have q2 : (prd L v T0).s ^^^ x.s = 0 := z.2
      have w1 := xor_xor (prd L v T0).f x.f
      have w2 := xor_xor (prd L v T0).s x.s
      rw [q1, Nat.zero_xor] at w1
      rw [q2, Nat.zero_xor] at w2
      exact ⟨w1.symm, w2.symm⟩
    refine .inl ⟨v, hv, eq, pp, ?_⟩
    have hl := hL v (Nat.lt_of_lt_of_le hv (Nat.pow_le_pow_right (by decide) (by omega)))
    obtain ⟨y8, lp⟩ := made_loop hP (L := L) (c1 := .val (TD x)) (c2 := .val (.int n)) (c3 := .val (.list ((pls n).map fun i : Nat => PyData.int (i : Int)))) (c4 := .val (.int (v : Nat))) (c5 := .val .none) (c6 := .val (.list ((places v 0).map fun i : Nat => PyData.int (i : Int)))) L.length v 0 T0 .no hv (Nat.zero_add _)
    rw [List.drop_zero] at lp
    have l3 : lineB 3 = true := by decide
    have fl : (RV.own ((pls n).map fun i : Nat => PyData.int (i : Int))).flat = true := flats_of fun _ _ => rfl
    have t0 : TD T0 = .tuple [.int 0, .int 0, .int 0] := rfl
    rw [t0] at lp
    have q0 : ixD (TD (prd L v T0)) (.int 0) = rv (.int ((prd L v T0).q : Nat)) := M3_0
    have q1 : ixD (TD x) (.int 0) = rv (.int (x.q : Nat)) := M3_0
    rw [← pe] at m2 lp fl
    generalize ((places v 0).map fun i : Nat => PyData.int (i : Int)) = VD at *
    generalize TD (prd L v T0) = Z at *
    generalize TD x = X at *
    generalize L.map TD = LD at *
    generalize (List.map eqnD ((pls n).map fun p => (msk L p, (cb x p).toNat))) = ED at *
    generalize rngs 0 1 n = R1 at *
    generalize rngs 6 1 n = R2 at *
    simp only [fnD_res, b_made_of]
    simp [hC, r1, r2, lb, m2, e1, hl, l3, lp, q0, q1]
  · have st := sel_map (pls n) u (by rw [pl]; rw [es] at hu; exact hu)
    have ndp := pls_nodup hn
    obtain ⟨y, y1, y2, y3, y4⟩ := hA n (sel (pls n) u) hn ((sel_sub (pls n) u).nodup ndp) fun p m => (sel_sub (pls n) u).mem m
    obtain ⟨x1, x2⟩ := EX_sel (L := L) (x := x) (pls n) u
    rw [hX] at x1 x2
    refine .inr ⟨y, y1, y2, fun a m => ?_, ?_, ?_⟩
    · obtain ⟨i, hi⟩ := List.getElem?_of_mem m
      have := x2 i a hi
      rw [y3 a (l6 a m), ← this]
      show (!(0 : Nat).testBit i) = true
      rw [Nat.zero_testBit]
      rfl
    · rw [y3 x (lx.up hn)]
      have x1 : (1 : Nat) = (xb x (sel (pls n) u)).toNat := x1
      cases q : xb x (sel (pls n) u)
      · rw [q] at x1; exact absurd x1 (by decide)
      · rfl
    · have m1 : ∀ r6 r7 r8 r9 : Option PyData, ev G b_made_of_m1 [some (.list (L.map TD)), some (TD x), some (.int n), some (.list ((pls n).map fun i : Nat => PyData.int (i : Int))), some .none, some (.list ((places u 0).map fun i : Nat => PyData.int (i : Int))), r6, r7, r8, r9] = .ok (.own ((sel (pls n) u).map fun i : Nat => PyData.int (i : Int))) := fun r6 r7 r8 r9 => by
        have cl : compL (stepR G [("number", 8)] (.ix (.v 3) (.v 8)) (.nm 8) .no [some (.list (L.map TD)), some (TD x), some (.int n), some (.list ((pls n).map fun i : Nat => PyData.int (i : Int))), some .none, some (.list ((places u 0).map fun i : Nat => PyData.int (i : Int))), r6, r7, r8, r9]) ((places u 0).map fun i : Nat => PyData.int (i : Int)) = some ((places u 0).map fun i => PyData.int (((pls n).getD i 0 : Nat) : Int)) := compL_map fun i m => by
          have li := places_lt (2 * n) u 0 i (by rw [es] at hu; exact hu) m
          have ix : ixD (.list ((pls n).map fun i : Nat => PyData.int (i : Int))) (.int (i : Nat)) = rv (.int (((pls n).getD i 0 : Nat) : Int)) := ixD_list (by
            rw [List.getElem?_map, List.getElem?_eq_getElem (by omega), List.getD_eq_getElem?_getD, List.getElem?_eq_getElem (by omega)]
            rfl)
          generalize ((pls n).getD i 0 : Nat) = w at *
          generalize ((places u 0).map fun i : Nat => PyData.int (i : Int)) = UD at *
          generalize ((pls n).map fun i : Nat => PyData.int (i : Int)) = PD at *
          generalize TD x = X at *
          generalize L.map TD = LD at *
          simp [stepR, wipeD, ix]
        have em : (sel (pls n) u).map (fun i : Nat => PyData.int (i : Int)) = (places u 0).map fun i => PyData.int (((pls n).getD i 0 : Nat) : Int) := by
          rw [← st, List.map_map]
          rfl
        have lu : (places u 0).length ≤ 12 := by
          have := congrArg List.length st
          rw [List.length_map] at this
          rw [this]
          have := (sel_sub (pls n) u).length_le
          omega
        have lb2 : lineB ((places u 0).map fun i : Nat => PyData.int (i : Int)).length = true := lineB_le (by rw [List.length_map]; omega)
        rw [em]
        generalize ((places u 0).map fun i => PyData.int (((pls n).getD i 0 : Nat) : Int)) = WD at *
        generalize ((places u 0).map fun i : Nat => PyData.int (i : Int)) = UD at *
        generalize ((pls n).map fun i : Nat => PyData.int (i : Int)) = PD at *
        generalize TD x = X at *
        generalize L.map TD = LD at *
        unfold b_made_of_m1
        rw [ev_compR]
        simp [lb2, cl, ownL]
      have l2 : lineB 2 = true := by decide
      have fl : (RV.own ((pls n).map fun i : Nat => PyData.int (i : Int))).flat = true := flats_of fun _ _ => rfl
      rw [← pe] at m1 m2 fl
      generalize ((sel (pls n) u).map fun i : Nat => PyData.int (i : Int)) = SD at *
      generalize ((places u 0).map fun i : Nat => PyData.int (i : Int)) = UD at *
      generalize TD y = Y at *
      generalize TD x = X at *
      generalize L.map TD = LD at *
      generalize (List.map eqnD ((pls n).map fun p => (msk L p, (cb x p).toNat))) = ED at *
      generalize rngs 0 1 n = R1 at *
      generalize rngs 6 1 n = R2 at *
      simp only [fnD_res, b_made_of]
      simp [hC, r1, r2, lb, m2, m1, e1, l2, y4]
end PX

/-! PLTX: tuples that hold lists of their own: how their defs reckon. -/
namespace PX
open PySem PySem.Spec PyProof.Rows L2 SB
def seqX (o : Out) (k : CE → Res TV) : Res TV := match o with
  | .nx r => k r
  | o => endT o
section
variable {G : Gd} {ft : Nat → List PyData → Res TV} {r : CE}
@[simp] theorem seqX_nx {k : CE → Res TV} : seqX (.nx r) k = k r := id rfl
@[simp] theorem seqX_ret {x : RV} {k : CE → Res TV} : seqX (.ret x) k = .ok (.v x) := id rfl
@[simp] theorem seqX_exc {c : Nat} {k : CE → Res TV} : seqX (.exc c r) k = .exc c := id rfl
@[simp] theorem seqX_ite {c : Prop} [Decidable c] {a b : Out} {k : CE → Res TV} : seqX (if c then a else b) k = if c then seqX a k else seqX b k := by split <;> rfl
@[simp] theorem endT_ret {x : RV} : endT (.ret x) = .ok (.v x) := id rfl
@[simp] theorem endT_exc {c : Nat} : endT (.exc c r) = .exc c := id rfl
@[simp] theorem endT_ite {c : Prop} [Decidable c] {a b : Out} : endT (if c then a else b) = if c then endT a else endT b := by split <;> rfl
@[simp] theorem towR_none : towR r none = r := id rfl
@[simp] theorem towR_some {i : Nat} {l : List RV} : towR r (some (i, l)) = r.set i (.val (.tuple (l.map RV.d))) := id rfl
@[simp] theorem txs_bas {s : Sx} {t : Tx} : txs G ft (.bas s t) none r = seqX (sx G s r) (txs G ft t none) := by
  rw [txs]
  cases sx G s r <;> rfl
@[simp] theorem txs_ret {its : List Ti} : txs G ft (.ret its) none r = (evI G its r).bind fun l => if lineB l.length = true then .ok (.t l) else .fail := by rw [txs]
noncomputable def callX (ft : Nat → List PyData → Res TV) (G : Gd) (i : Nat) (t : Tx) (r : CE) : TV → Res TV
  | .v x => txs G ft t none (r.set i (.val x.d))
  | .t l => if i < r.length then txs G ft t (some (i, l)) (r.set i .no) else .fail
@[simp] theorem callX_v {i : Nat} {t : Tx} {x : RV} : callX ft G i t r (.v x) = txs G ft t none (r.set i (.val x.d)) := id rfl
@[simp] theorem callX_t {i : Nat} {t : Tx} {l : List RV} : callX ft G i t r (.t l) = if i < r.length then txs G ft t (some (i, l)) (r.set i .no) else .fail := id rfl
@[simp] theorem txs_call {i f : Nat} {es : Exs} {t : Tx} : txs G ft (.call i f es t) none r = (evs G es (r.map rdP)).bind fun ds => (ft f ds).bind (callX ft G i t r) := by
  rw [txs]
  refine congrArg _ (funext fun ds => congrArg _ (funext fun y => ?_))
  cases y <;> rfl
@[simp] theorem txs_gd {c : Ex} {b : Sxs} {t : Tx} {m : Option (Nat × List RV)} : txs G ft (.gd c b t) m r = (asB (ev G c ((towR r m).map rdB))).bind fun q => if q = true then endT (sxs G b (towR r m)) else txs G ft t m r := by rw [txs]
@[simp] theorem txs_app {i j : Nat} {d : PyData} {b : Sxs} {l : List RV} : txs G ft (.app i j d b) (some (i, l)) r = if appOk l j = true then endT (sxs G b r) else .fail := by
  rw [txs]
  by_cases h : appOk l j = true
  · rw [if_pos ⟨rfl, h⟩, if_pos h]
  · rw [if_neg fun z => h z.2, if_neg h]
@[simp] theorem evI_nil : evI G [] r = .ok [] := by rw [evI]
@[simp] theorem evI_e {x : Ex} {l : List Ti} : evI G (.e x :: l) r = (ev G x (r.map rdP)).bind fun y => (evI G l r).bind fun ys => .ok (.val y.d :: ys) := by rw [evI]
def ownX (k : List PyData → Res (List RV)) : Option Cell → Res (List RV)
  | some (.own m) => k m
  | _ => .fail
@[simp] theorem ownX_own {k : List PyData → Res (List RV)} {m : List PyData} : ownX k (some (.own m)) = k m := id rfl
@[simp] theorem evI_o {i : Nat} {l : List Ti} : evI G (.o i :: l) r = ownX (fun m => (evI G l r).bind fun ys => .ok (.own m :: ys)) r[i]? := by
  rw [evI]
  cases r[i]? with
  | none => rfl
  | some c => cases c <;> rfl
theorem txs_foro {t : Tg} {i : Nat} {b : Sxs} {u : Tx} {l : List PyData} {r2 : Nat → CE} {r3 : CE} (e : r[i]? = some (.own l)) (h : ∀ a : Nat, forL (bodyF G t b) l (r.set i (.val (tkD a))) = .nx (r2 a)) (h2 : ∀ a, (r2 a)[i]? = some (.val (tkD a))) (h3 : ∀ a, (r2 a).set i (.own l) = r3) : txs G ft (.foro t i b u) none r = txs G ft u none r3 := by
  rw [txs, e]
  dsimp only
  rw [allA_eq (o := .nx r3)]
  intro a
  refine (congrArg (backO a.1 i l) (h a.1)).trans ?_
  have e2 := h2 a.1
  unfold tkD at e2
  simp only [backO, e2, if_true, h3 a.1]
end
def lastC : List Nat → Cell → Cell
  | [], c => c
  | i :: t, _ => lastC t (.val (.int (i : Nat)))
theorem made_loopL {G : Gd} (hP : ProductOk (G.fn 0)) {L : List Tm} {c1 c2 c3 c4 c5 c6 : Cell} : ∀ (k v p : Nat) (x : Tm) (c8 : Cell), v < 2 ^ k → p + k = L.length → forL (bodyF G (.nm 8) b_made_of_l1) ((places v p).map fun i : Nat => PyData.int (i : Int)) [.val (.list (L.map TD)), c1, c2, c3, c4, c5, c6, .val (TD x), c8, .no] = .nx [.val (.list (L.map TD)), c1, c2, c3, c4, c5, c6, .val (TD (prd (L.drop p) v x)), lastC (places v p) c8, .no]
  | 0, v, p, x, c8, h, e => by
    rw [show v = 0 by omega, places_0, prd_zero]
    rfl
  | k + 1, v, p, x, c8, h, e => by
    rw [Nat.pow_succ] at h
    have hp : p < L.length := by omega
    rw [List.drop_eq_getElem_cons hp, prd, places_step, List.map_append]
    by_cases o : v % 2 = 1
    · rw [if_pos o, if_pos o]
      have pr := prodT hP x L[p]
      have ix : ixD (.list (L.map TD)) (.int (p : Nat)) = rv (TD L[p]) := ixD_list (by rw [List.getElem?_map, List.getElem?_eq_getElem hp]; rfl)
      have b : bodyF G (.nm 8) b_made_of_l1 (.int (p : Nat)) [.val (.list (L.map TD)), c1, c2, c3, c4, c5, c6, .val (TD x), c8, .no] = .nx [.val (.list (L.map TD)), c1, c2, c3, c4, c5, c6, .val (TD (mulT x L[p])), .val (.int (p : Nat)), .no] := by
        generalize TD (mulT x L[p]) = Z at *
        generalize TD L[p] = Y at *
        generalize TD x = X at *
        generalize L.map TD = LD at *
        simp only [bodyF, b_made_of_l1]
        simp [ix, pr]
      have r := made_loopL (L := L) hP (c1 := c1) (c2 := c2) (c3 := c3) (c4 := c4) (c5 := c5) (c6 := c6) k (v / 2) (p + 1) (mulT x L[p]) (.val (.int (p : Nat))) (by omega) (by omega)
      show forL _ (PyData.int (p : Int) :: _) _ = _
      rw [forL_cons, b, forK_nx]
      exact r
    · rw [if_neg o, if_neg o]
      exact made_loopL (L := L) hP k (v / 2) (p + 1) x c8 (by omega) (by omega)
end PX

namespace Gk54
open PySem PySem.Spec PyProof.Rows L2 PX SB
theorem d_ones : OnesOk f_ones := fun n => ones_ok
theorem d_places_of : PlacesOk f_places_of := fun n h => places_ok h
theorem d_top_of : TopOk f_top_of := fun m h hl => top_ok h hl
theorem d_code_of : CodeOk f_code_of := fun x h => code_ok rfl h
theorem d__law_cell_at : CellOk f__law_cell_at := fun ns k => ok_cell_at
theorem d__law_whole : WholeOk f__law_whole := fun i => by simp [f__law_whole, fnD_res, b__law_whole]
theorem d__law_ones : OnesOk f__law_ones := fun n => law_ones_ok
theorem d_product : ProductOk f_product := fun q f s q2 f2 s2 => product_ok (G := gdT [f_ones] [] []) d_ones
theorem d_swept : SweptOk f_swept := fun L m b u h => swept_ok (G := gdT [f_top_of] [] []) d_top_of h
theorem d_answer_of : AnswerOk f_answer_of := fun L h => answer_ok (G := gdT [f_ones, f_top_of] [] []) d_ones d_top_of h
theorem d_has_at : HasAtOk f_has_at := fun x j h => has_at_ok (G := gdT [f_code_of] [] []) d_code_of h
theorem d_mark_across : AcrossOk f_mark_across := fun n t hn nd hp => across_ok (G := gdT [f_ones] [.int 6] []) d_ones rfl hn nd hp
theorem d__law_product : ProductOk f__law_product := fun q f s q2 f2 s2 => law_product2_ok (G := gdT [f__law_ones] [] []) d__law_ones
theorem d__law_commute : CommuteOk f__law_commute := fun q f s q2 f2 s2 => law_commute_ok (G := gdT [f__law_ones] [] []) d__law_ones
theorem d__law_even_mark : EvenMarkOk f__law_even_mark := fun c n hn => even_mark_ok (G := gdT [f__law_ones] [] []) d__law_ones hn
theorem d_solved : SolvedOk f_solved := fun es k hk hl he => solved_ok (G := gdT [f_answer_of, f_places_of, f_swept] [] []) d_answer_of d_places_of d_swept hk hl he
theorem d_equation_at : EquationOk f_equation_at := fun L x p h hx hl => equation_ok (G := gdT [f_has_at] [] []) d_has_at h hx hl
theorem d__law_fits : FitsOk f__law_fits := fun L x ps h => fits_ok (G := gdT [f__law_commute] [] []) d__law_commute h
theorem d_made_of : MadeOk f_made_of := fun n L x hn t lx => made_of_ok (G := gdT [f_product, f_places_of, f_mark_across, f_solved, f_equation_at] [.int 6] []) d_product d_places_of d_mark_across d_solved d_equation_at rfl hn t lx
theorem d__law_table : LawTableOk f__law_table := fun zs n k hn hk => law_table_ok (G := gdT [f__law_fits, f__law_even_mark] [] []) d__law_fits d__law_even_mark hn hk
end Gk54

namespace PX
open PySem PySem.Spec PyProof.Rows L2 SB
open Gk54 (x_made_of x_law)
theorem made_ofT_ok {G : Gd} (hP : ProductOk (G.fn 0)) (hL : PlacesOk (G.fn 1)) (hA : AcrossOk (G.fn 2)) (hS : SolvedOk (G.fn 3)) (hE : EquationOk (G.fn 4)) (hC : G.con 0 = some (.int 6)) {n : Nat} {L : List Tm} {x : Tm} (hn : n ≤ 6) (t : Tab n L) (lx : x.lt n) :
    (∃ v : Nat, v < 2 ^ L.length ∧ eqv (prd L v T0) x ∧ PrT L (prd L v T0) ∧ fnX G (ftG []) x_made_of 10 [.list (L.map TD), TD x, .int n] = .ok (.t [.val (.str "made"), .val (.int (((x.q : Int) - ((prd L v T0).q : Int)) % 4)), .own ((places v 0).map fun i : Nat => PyData.int (i : Int))])) ∨
    (∃ y : Tm, y.lt n ∧ y.par = 0 ∧ (∀ a ∈ L, cm a y = true) ∧ cm x y = false ∧ fnX G (ftG []) x_made_of 10 [.list (L.map TD), TD x, .int n] = .ok (.v (.val (.tuple [.str "apart", TD y])))) := by
  have ll := t.len
  have l6 : ∀ a ∈ L, a.lt 6 := fun a m => (t.lt a m).up hn
  have s1 : small62 (n : Int) = true := small62_of (by omega) (by omega)
  have s6 : small62 6 = true := by decide
  have s2 : small62 (6 + (n : Int)) = true := small62_of (by omega) (by omega)
  have e6 : (6 + (n : Int) - 6).toNat = n := by omega
  have g1 : (n : Int) ≤ 16777216 := by omega
  have g2 : (6 + (n : Int)) - 6 ≤ 16777216 := by omega
  have r1 : lrngD [.int (n : Nat)] = some (.own (rngs 0 1 n)) := lrngD1 (j := (n : Int)) (by rw [s1, decide_eq_true g1]; rfl)
  have r2 : lrngD [.int 6, .int (6 + (n : Int))] = some (.own (rngs 6 1 n)) := by
    rw [lrngD2 (by rw [s6, s2, decide_eq_true g2]; rfl), e6]
  have pe := pls_ev hn
  have lb : lineB (List.length (rngs 0 1 n) + List.length (rngs 6 1 n)) = true := lineB_le (by rw [rngs_length, rngs_length]; omega)
  have pl := pls_len n
  -- the equations
  have m2 : ∀ r4 r5 r6 r7 r8 r9 : Option PyData, ev G b_made_of_m2 [some (.list (L.map TD)), some (TD x), some (.int n), some (.list ((pls n).map fun i : Nat => PyData.int (i : Int))), r4, r5, r6, r7, r8, r9] = .ok (.own (((pls n).map fun p => (msk L p, (cb x p).toNat)).map eqnD)) := fun r4 r5 r6 r7 r8 r9 => by
    have cl : compL (stepR G [("place", 9)] (.call 4 (.cons (.v 0) (.cons (.v 1) (.cons (.v 9) .nil))) []) (.nm 9) .no [some (.list (L.map TD)), some (TD x), some (.int n), some (.list ((pls n).map fun i : Nat => PyData.int (i : Int))), r4, r5, r6, r7, r8, r9]) ((pls n).map fun i : Nat => PyData.int (i : Int)) = some ((pls n).map fun p => eqnD (msk L p, (cb x p).toNat)) := compL_map fun p _ => by
      have h := hE L x p l6 (lx.up hn) (by omega)
      generalize eqnD (msk L p, (cb x p).toNat) = E at *
      generalize TD x = X at *
      generalize L.map TD = LD at *
      simp [stepR, wipeD, h]
    have lb2 : lineB ((pls n).map fun i : Nat => PyData.int (i : Int)).length = true := lineB_le (by rw [List.length_map, pl]; omega)
    rw [List.map_map]
    show _ = Res.ok (RV.own ((pls n).map fun p => eqnD (msk L p, (cb x p).toNat)))
    generalize ((pls n).map fun p => eqnD (msk L p, (cb x p).toNat)) = E at *
    generalize ((pls n).map fun i : Nat => PyData.int (i : Int)) = PD at *
    generalize TD x = X at *
    generalize L.map TD = LD at *
    unfold b_made_of_m2
    rw [ev_compR]
    simp [lb2, cl, ownL]
  have es : ((pls n).map fun p => (msk L p, (cb x p).toNat)).length = 2 * n := by rw [List.length_map, pl]
  rcases hS ((pls n).map fun p => (msk L p, (cb x p).toNat)) L.length (by omega) (by omega) (fun e m => by
    obtain ⟨p, _, rfl⟩ := List.mem_map.1 m
    exact ⟨msk_lt L p, by have := Bool.toNat_le (cb x p); show (cb x p).toNat < 2; omega⟩) with ⟨v, hv, e1, e2⟩ | ⟨u, e1, hu, hX⟩
  · have par : ∀ p, par (msk L p) v = (cb x p).toNat := fun p => by
      by_cases m : p ∈ pls n
      · exact e2 (msk L p, (cb x p).toNat) (List.mem_map.2 ⟨p, m, rfl⟩)
      · have z : ∀ M : List Tm, (∀ a ∈ M, a.lt n) → msk M p = 0 := fun M => by
          induction M with
          | nil => exact fun _ => rfl
          | cons a M ih =>
            intro h
            show (cb a p).toNat + 2 * msk M p = 0
            rw [cb_out (h a List.mem_cons_self) hn m, ih fun b k => h b (List.mem_cons_of_mem a k)]
            rfl
        rw [z L t.lt, zero_par, cb_out lx hn m]
        rfl
    have ce : cd (prd L v T0) = cd x := Nat.eq_of_testBit_eq fun p => by
      have h := prd_cb L v T0 p
      rw [par p, cb_nought (x := T0) rfl rfl] at h
      show cb (prd L v T0) p = cb x p
      rw [h]
      cases cb x p <;> rfl
    have pp : PrT L (prd L v T0) := prd_pr t.cev (fun _ m => m) PrT.one
    have pl6 := (PrT.lt t.lt pp).up hn
    have eq : eqv (prd L v T0) x := by
      have z := cd_zero (x := xr (prd L v T0) x) ⟨show 0 < 4 by decide, Nat.xor_lt_two_pow pl6.f (lx.up hn).f, Nat.xor_lt_two_pow pl6.s (lx.up hn).s⟩ (by rw [cd_xr, ce, Nat.xor_self])
      have q1 : (prd L v T0).f ^^^ x.f = 0 := z.1
      have q2 : (prd L v T0).s ^^^ x.s = 0 := z.2
      have w1 := xor_xor (prd L v T0).f x.f
      have w2 := xor_xor (prd L v T0).s x.s
      rw [q1, Nat.zero_xor] at w1
      rw [q2, Nat.zero_xor] at w2
      exact ⟨w1.symm, w2.symm⟩
    refine .inl ⟨v, hv, eq, pp, ?_⟩
    have hl := hL v (Nat.lt_of_lt_of_le hv (Nat.pow_le_pow_right (by decide) (by omega)))
    have lp := fun a : Nat => made_loopL hP (L := L) (c1 := .val (TD x)) (c2 := .val (.int n)) (c3 := .val (.list ((pls n).map fun i : Nat => PyData.int (i : Int)))) (c4 := .val (.int (v : Nat))) (c5 := .val .none) (c6 := .val (tkD a)) L.length v 0 T0 .no hv (Nat.zero_add _)
    simp only [List.drop_zero] at lp
    have l3 : lineB 3 = true := by decide
    have fl : (RV.own ((pls n).map fun i : Nat => PyData.int (i : Int))).flat = true := flats_of fun _ _ => rfl
    have t0 : TD T0 = .tuple [.int 0, .int 0, .int 0] := rfl
    simp only [t0] at lp
    have q0 : ixD (TD (prd L v T0)) (.int 0) = rv (.int ((prd L v T0).q : Nat)) := M3_0
    have q1 : ixD (TD x) (.int 0) = rv (.int (x.q : Nat)) := M3_0
    rw [← pe] at m2 fl
    simp only [← pe] at lp
    generalize ((places v 0).map fun i : Nat => PyData.int (i : Int)) = VD at *
    generalize TD (prd L v T0) = Z at *
    generalize TD x = X at *
    generalize L.map TD = LD at *
    generalize (List.map eqnD ((pls n).map fun p => (msk L p, (cb x p).toNat))) = ED at *
    generalize rngs 0 1 n = R1 at *
    generalize rngs 6 1 n = R2 at *
    have fo : ∀ u : Tx, txs G (ftG []) (.foro (.nm 8) 6 b_made_of_l1 u) none [.val (.list LD), .val X, .val (.int n), .val (.list (R1 ++ R2)), .val (.int (v : Nat)), .val .none, .own VD, .val (.tuple [.int 0, .int 0, .int 0]), .no, .no] = txs G (ftG []) u none [.val (.list LD), .val X, .val (.int n), .val (.list (R1 ++ R2)), .val (.int (v : Nat)), .val .none, .own VD, .val Z, lastC (places v 0) .no, .no] := fun u => txs_foro rfl lp (fun a => rfl) fun a => rfl
    simp only [fnX, x_made_of]
    simp [hC, r1, r2, lb, m2, e1, hl, l3, fo, q0, q1]
  · have st := sel_map (pls n) u (by rw [pl]; rw [es] at hu; exact hu)
    have ndp := pls_nodup hn
    obtain ⟨y, y1, y2, y3, y4⟩ := hA n (sel (pls n) u) hn ((sel_sub (pls n) u).nodup ndp) fun p m => (sel_sub (pls n) u).mem m
    obtain ⟨x1, x2⟩ := EX_sel (L := L) (x := x) (pls n) u
    rw [hX] at x1 x2
    refine .inr ⟨y, y1, y2, fun a m => ?_, ?_, ?_⟩
    · obtain ⟨i, hi⟩ := List.getElem?_of_mem m
      have := x2 i a hi
      rw [y3 a (l6 a m), ← this]
      show (!(0 : Nat).testBit i) = true
      rw [Nat.zero_testBit]
      rfl
    · rw [y3 x (lx.up hn)]
      have x1 : (1 : Nat) = (xb x (sel (pls n) u)).toNat := x1
      cases q : xb x (sel (pls n) u)
      · rw [q] at x1; exact absurd x1 (by decide)
      · rfl
    · have m1 : ∀ r6 r7 r8 r9 : Option PyData, ev G b_made_of_m1 [some (.list (L.map TD)), some (TD x), some (.int n), some (.list ((pls n).map fun i : Nat => PyData.int (i : Int))), some .none, some (.list ((places u 0).map fun i : Nat => PyData.int (i : Int))), r6, r7, r8, r9] = .ok (.own ((sel (pls n) u).map fun i : Nat => PyData.int (i : Int))) := fun r6 r7 r8 r9 => by
        have cl : compL (stepR G [("number", 8)] (.ix (.v 3) (.v 8)) (.nm 8) .no [some (.list (L.map TD)), some (TD x), some (.int n), some (.list ((pls n).map fun i : Nat => PyData.int (i : Int))), some .none, some (.list ((places u 0).map fun i : Nat => PyData.int (i : Int))), r6, r7, r8, r9]) ((places u 0).map fun i : Nat => PyData.int (i : Int)) = some ((places u 0).map fun i => PyData.int (((pls n).getD i 0 : Nat) : Int)) := compL_map fun i m => by
          have li := places_lt (2 * n) u 0 i (by rw [es] at hu; exact hu) m
          have ix : ixD (.list ((pls n).map fun i : Nat => PyData.int (i : Int))) (.int (i : Nat)) = rv (.int (((pls n).getD i 0 : Nat) : Int)) := ixD_list (by
            rw [List.getElem?_map, List.getElem?_eq_getElem (by omega), List.getD_eq_getElem?_getD, List.getElem?_eq_getElem (by omega)]
            rfl)
          generalize ((pls n).getD i 0 : Nat) = w at *
          generalize ((places u 0).map fun i : Nat => PyData.int (i : Int)) = UD at *
          generalize ((pls n).map fun i : Nat => PyData.int (i : Int)) = PD at *
          generalize TD x = X at *
          generalize L.map TD = LD at *
          simp [stepR, wipeD, ix]
        have em : (sel (pls n) u).map (fun i : Nat => PyData.int (i : Int)) = (places u 0).map fun i => PyData.int (((pls n).getD i 0 : Nat) : Int) := by
          rw [← st, List.map_map]
          rfl
        have lu : (places u 0).length ≤ 12 := by
          have := congrArg List.length st
          rw [List.length_map] at this
          rw [this]
          have := (sel_sub (pls n) u).length_le
          omega
        have lb2 : lineB ((places u 0).map fun i : Nat => PyData.int (i : Int)).length = true := lineB_le (by rw [List.length_map]; omega)
        rw [em]
        generalize ((places u 0).map fun i => PyData.int (((pls n).getD i 0 : Nat) : Int)) = WD at *
        generalize ((places u 0).map fun i : Nat => PyData.int (i : Int)) = UD at *
        generalize ((pls n).map fun i : Nat => PyData.int (i : Int)) = PD at *
        generalize TD x = X at *
        generalize L.map TD = LD at *
        unfold b_made_of_m1
        rw [ev_compR]
        simp [lb2, cl, ownL]
      have l2 : lineB 2 = true := by decide
      have fl : (RV.own ((pls n).map fun i : Nat => PyData.int (i : Int))).flat = true := flats_of fun _ _ => rfl
      rw [← pe] at m1 m2 fl
      generalize ((sel (pls n) u).map fun i : Nat => PyData.int (i : Int)) = SD at *
      generalize ((places u 0).map fun i : Nat => PyData.int (i : Int)) = UD at *
      generalize TD y = Y at *
      generalize TD x = X at *
      generalize L.map TD = LD at *
      generalize (List.map eqnD ((pls n).map fun p => (msk L p, (cb x p).toNat))) = ED at *
      generalize rngs 0 1 n = R1 at *
      generalize rngs 6 1 n = R2 at *
      simp only [fnX, x_made_of]
      simp [hC, r1, r2, lb, m2, m1, e1, l2, y4]
end PX

namespace PX
open PySem PySem.Spec PyProof.Rows L2 SB
/-! ### the mark drawn -/
def MarkBy3Ok (f : List PyData → Rr) : Prop := ∀ (L : List Tm) (n : Nat) (way far : Int), 1 ≤ n → n ≤ 6 → (∀ a ∈ L, a.lt n) → L.length ≤ 100 → ∃ x : Tm, x.lt n ∧ f [.list (L.map TD), .int n, .int way, .int far] = .ok (.val (TD x))
theorem mark_by3_ok {G : Gd} (hP : ProductOk (G.fn 0)) {L : List Tm} {n : Nat} {way far : Int} (h1 : 1 ≤ n) (hn : n ≤ 6) (hL : ∀ a ∈ L, a.lt n) (hl : L.length ≤ 100) : ∃ x : Tm, x.lt n ∧ fnD G b__law_mark_by_3 7 [.list (L.map TD), .int n, .int way, .int far] = .ok (.val (TD x)) := by
  have l3 : lineB 3 = true := by decide
  have hp := two_pow_pos n
  have hz : (2 : Int) ^ n ≠ 0 := by omega
  have hn0 : (0 : Int) ≤ 2 ^ n := by omega
  have pw : ((2 ^ n : Nat) : Int) = (2 : Int) ^ n := by simp
  have cst : ∀ x : Int, 0 ≤ x % 2 ^ n ∧ x % 2 ^ n < 2 ^ n := fun x => ⟨Int.emod_nonneg _ hz, Int.emod_lt_of_pos _ hp⟩
  have sh := shlOk_1 (k := n) (by omega)
  have p1 : 1 ≤ 2 ^ n := Nat.two_pow_pos n
  by_cases w0 : way = 0
  · subst w0
    refine ⟨⟨(far % 4).toNat, (far / 4 % 2 ^ n).toNat, (far / 256 % 2 ^ n).toNat⟩, ⟨by show (far % 4).toNat < 4; omega, ?_, ?_⟩, ?_⟩
    · have := cst (far / 4)
      show (far / 4 % 2 ^ n).toNat < 2 ^ n
      omega
    · have := cst (far / 256)
      show (far / 256 % 2 ^ n).toNat < 2 ^ n
      omega
    · have e1 : 0 ≤ far % 4 := by omega
      have e2 := (cst (far / 4)).1
      have e3 := (cst (far / 256)).1
      unfold TD M3
      simp only [fnD_res, b__law_mark_by_3]
      simp [divOk_s, sh, hz, hn0, l3, Int.toNat_of_nonneg e1, Int.toNat_of_nonneg e2, Int.toNat_of_nonneg e3]
  · have e1 : 0 ≤ far % 4 := by omega
    have t0 : TD ⟨(far % 4).toNat, 0, 0⟩ = .tuple [.int (far % 4), .int 0, .int 0] := by
      unfold TD M3
      simp [Int.toNat_of_nonneg e1]
    have bn : bf .len [.list (L.map TD)] = rint (L.length : Nat) := by
      show rint ((L.map TD).length : Nat) = _
      rw [List.length_map]
    have rg : rngD [.int (L.length : Nat)] = some (rngs 0 1 L.length) := rngD1 (j := (L.length : Nat)) (small62_of (by omega) (by omega))
    have lp := forL_ind (b := bodyF G (.nm 5) b__law_mark_by_3_l1) (ds := rngs 0 1 L.length) (r := [.val (.list (L.map TD)), .val (.int n), .val (.int way), .val (.int far), .val (TD ⟨(far % 4).toNat, 0, 0⟩), .no, .no])
      (fun _ r => ∃ (y : Tm) (y5 : Cell), y.lt n ∧ r = [.val (.list (L.map TD)), .val (.int n), .val (.int way), .val (.int far), .val (TD y), y5, .no])
      (fun o => ∃ (y : Tm) (y5 : Cell), y.lt n ∧ o = .nx [.val (.list (L.map TD)), .val (.int n), .val (.int way), .val (.int far), .val (TD y), y5, .no])
      ⟨⟨(far % 4).toNat, 0, 0⟩, .no, ⟨by show (far % 4).toNat < 4; omega, p1, p1⟩, rfl⟩ ?_ ?_
    · obtain ⟨y, y5, ly, e⟩ := lp
      rw [t0] at e
      have q0 : ixD (TD y) (.int 0) = rv (.int (y.q : Nat)) := M3_0
      have q1 : ixD (TD y) (.int 1) = rv (.int (y.f : Nat)) := M3_1
      have q2 : ixD (TD y) (.int 2) = rv (.int (y.s : Nat)) := M3_2
      have nz : (n : Int) ≠ 0 := by omega
      have n0 : (0 : Int) ≤ n := by omega
      have nz2 : ¬ n = 0 := by omega
      by_cases w1 : way = 1
      · subst w1
        obtain ⟨a, ha⟩ := Int.eq_ofNat_of_zero_le (show 0 ≤ far / 256 % (n : Int) from Int.emod_nonneg _ nz)
        have al : a < n := by
          have := Int.emod_lt_of_pos (far / 256) (show (0 : Int) < n by omega)
          omega
        have sa := shlOk_1 (k := a) (by omega)
        have pa : 2 ^ a < 2 ^ n := Nat.pow_lt_pow_right (by decide) al
        have xf := xor_pow (w := y.f) (a := a)
        have xs := xor_pow (w := y.s) (a := a)
        by_cases g : far / 2048 % 2 = 0
        · refine ⟨⟨y.q, y.f ^^^ 2 ^ a, y.s⟩, ⟨ly.q, Nat.xor_lt_two_pow ly.f pa, ly.s⟩, ?_⟩
          have et : TD ⟨y.q, y.f ^^^ 2 ^ a, y.s⟩ = .tuple [.int (y.q : Nat), .int (y.f ^^^ 2 ^ a : Nat), .int (y.s : Nat)] := rfl
          rw [et]
          generalize ((y.f ^^^ 2 ^ a : Nat) : Int) = Z at *
          generalize ((y.s ^^^ 2 ^ a : Nat) : Int) = Z2 at *
          generalize TD y = Y at *
          generalize L.map TD = LD at *
          simp only [fnD_res, b__law_mark_by_3]
          simp [bn, rg, e, divOk_s, ha, sa, q0, q1, q2, xf, l3, g, nz2, n0]
        · refine ⟨⟨y.q, y.f, y.s ^^^ 2 ^ a⟩, ⟨ly.q, ly.f, Nat.xor_lt_two_pow ly.s pa⟩, ?_⟩
          have et : TD ⟨y.q, y.f, y.s ^^^ 2 ^ a⟩ = .tuple [.int (y.q : Nat), .int (y.f : Nat), .int (y.s ^^^ 2 ^ a : Nat)] := rfl
          rw [et]
          generalize ((y.f ^^^ 2 ^ a : Nat) : Int) = Z at *
          generalize ((y.s ^^^ 2 ^ a : Nat) : Int) = Z2 at *
          generalize TD y = Y at *
          generalize L.map TD = LD at *
          simp only [fnD_res, b__law_mark_by_3]
          simp [bn, rg, e, divOk_s, ha, sa, q0, q1, q2, xs, l3, g, nz2, n0]
      · refine ⟨y, ly, ?_⟩
        generalize TD y = Y at *
        generalize L.map TD = LD at *
        simp only [fnD_res, b__law_mark_by_3]
        simp [bn, rg, e, w0, w1, l3]
    · rintro i d r ed ⟨y, y5, ly, rfl⟩
      obtain ⟨hi, rfl⟩ := rngs_at ed
      have e0 : (0 : Int) + (i : Int) * 1 = (i : Int) := by omega
      rw [e0]
      have ix : ixD (.list (L.map TD)) (.int (i : Int)) = rv (TD L[i]) := ixD_list (by rw [List.getElem?_map, List.getElem?_eq_getElem hi]; rfl)
      have pr := prodT hP y L[i]
      have si := shlOk_1 (k := i) (by omega)
      have pi := two_pow_pos i
      have zi : (2 : Int) ^ i ≠ 0 := by omega
      have ni : (0 : Int) ≤ 2 ^ i := by omega
      have dp := divOk_p (i := far / 4) (k := i) (by omega)
      by_cases g : far / 4 / 2 ^ i % 2 = 1
      · refine .inl ⟨_, .inl ?_, mulT y L[i], .val (.int i), mulT_lt ly (hL _ (List.getElem_mem hi)), rfl⟩
        generalize TD (mulT y L[i]) = Z at *
        generalize TD L[i] = A at *
        generalize TD y = Y at *
        generalize L.map TD = LD at *
        simp only [bodyF, b__law_mark_by_3_l1]
        simp [ix, pr, si, dp, ni, g, divOk_s]
      · refine .inl ⟨_, .inl ?_, y, .val (.int i), ly, rfl⟩
        generalize TD y = Y at *
        generalize L.map TD = LD at *
        simp only [bodyF, b__law_mark_by_3_l1]
        simp [ix, pr, si, dp, ni, g, divOk_s]
    · rintro r ⟨y, y5, ly, rfl⟩
      exact ⟨y, y5, ly, rfl⟩
/-! ### what is made -/
theorem prd_spin : ∀ (L : List Tm) (v q : Nat) (x y : Tm), eqv x y → x.q = (y.q + q) % 4 → eqv (prd L v x) (prd L v y) ∧ (prd L v x).q = ((prd L v y).q + q) % 4
  | [], v, q, x, y, h, e => ⟨h, e⟩
  | a :: L, v, q, x, y, h, e => by
    rw [prd, prd]
    by_cases o : v % 2 = 1
    · rw [if_pos o, if_pos o]
      refine prd_spin L (v / 2) q _ _ ⟨?_, ?_⟩ ?_
      · show x.f ^^^ a.f = y.f ^^^ a.f
        rw [h.1]
      · show x.s ^^^ a.s = y.s ^^^ a.s
        rw [h.2]
      · show (x.q + a.q + 2 * pop (x.s &&& a.f)) % 4 = ((y.q + a.q + 2 * pop (y.s &&& a.f)) % 4 + q) % 4
        rw [h.2, e]
        omega
    · rw [if_neg o, if_neg o]
      exact prd_spin L (v / 2) q x y h e
theorem is_made_loop {G : Gd} (hP : ProductOk (G.fn 0)) (hW : WholeOk (G.fn 1)) {L : List Tm} {c0 c2 : Cell} : ∀ (k v p : Nat) (x : Tm) (last : Int) (c5 : Cell), v < 2 ^ k → p + k = L.length → last < p → ∃ y4 y5, forL (bodyF G (.nm 5) b__law_is_made_l1) ((places v p).map fun i : Nat => PyData.int (i : Int)) [c0, .val (.list (L.map TD)), c2, .val (TD x), .val (.int last), c5] = .nx [c0, .val (.list (L.map TD)), c2, .val (TD (prd (L.drop p) v x)), y4, y5]
  | 0, v, p, x, last, c5, h, e, hp => by
    refine ⟨.val (.int last), c5, ?_⟩
    rw [show v = 0 by omega, places_0, prd_zero]
    rfl
  | k + 1, v, p, x, last, c5, h, e, hp => by
    rw [Nat.pow_succ] at h
    have hl : p < L.length := by omega
    rw [List.drop_eq_getElem_cons hl, prd, places_step, List.map_append]
    by_cases o : v % 2 = 1
    · rw [if_pos o, if_pos o]
      have pr := prodT hP x L[p]
      have w := hW (p : Int)
      have ix : ixD (.list (L.map TD)) (.int (p : Nat)) = rv (TD L[p]) := ixD_list (by rw [List.getElem?_map, List.getElem?_eq_getElem hl]; rfl)
      have bn : bf .len [.list (L.map TD)] = rint (L.length : Nat) := by
        show rint ((L.map TD).length : Nat) = _
        rw [List.length_map]
      have b : bodyF G (.nm 5) b__law_is_made_l1 (.int (p : Nat)) [c0, .val (.list (L.map TD)), c2, .val (TD x), .val (.int last), c5] = .nx [c0, .val (.list (L.map TD)), c2, .val (TD (mulT x L[p])), .val (.int (p : Nat)), .val (.int (p : Nat))] := by
        have g1 : ¬ (p : Int) ≤ last := by omega
        have g2 : ¬ (L.length : Int) ≤ (p : Int) := by omega
        generalize TD (mulT x L[p]) = Z at *
        generalize TD L[p] = Y at *
        generalize TD x = X at *
        generalize (L.length : Int) = N at *
        generalize L.map TD = LD at *
        simp only [bodyF, b__law_is_made_l1]
        simp [ix, pr, w, bn, g1, g2]
      obtain ⟨y4, y5, r⟩ := is_made_loop (L := L) hP hW (c0 := c0) (c2 := c2) k (v / 2) (p + 1) (mulT x L[p]) p (.val (.int (p : Nat))) (by omega) (by omega) (by omega)
      refine ⟨y4, y5, ?_⟩
      show forL _ (PyData.int (p : Int) :: _) _ = _
      rw [forL_cons, b, forK_nx]
      exact r
    · rw [if_neg o, if_neg o]
      exact is_made_loop (L := L) hP hW k (v / 2) (p + 1) x last c5 (by omega) (by omega) (by omega)
theorem eqTD {x : Tm} : cop .eq (TD x) (TD x) = rbool true := by
  have e := cop_eq_it (l := [(x.q : Int), x.f, x.s]) (m := [(x.q : Int), x.f, x.s])
  rw [decide_eq_true rfl] at e
  exact e
def IsMadeOk (f : List PyData → Rr) : Prop := ∀ (L : List Tm) (v q : Nat) (x : Tm), v < 2 ^ L.length → q < 4 → prd L v ⟨q, 0, 0⟩ = x → f [.tuple [.str "made", .int (q : Nat), .list ((places v 0).map fun i : Nat => PyData.int (i : Int))], .list (L.map TD), TD x] = vB true
theorem is_made_ok {G : Gd} (hP : ProductOk (G.fn 0)) (hW : WholeOk (G.fn 1)) {L : List Tm} {v q : Nat} {x : Tm} (hv : v < 2 ^ L.length) (hq : q < 4) (e : prd L v ⟨q, 0, 0⟩ = x) : fnD G b__law_is_made 6 [.tuple [.str "made", .int (q : Nat), .list ((places v 0).map fun i : Nat => PyData.int (i : Int))], .list (L.map TD), TD x] = vB true := by
  obtain ⟨y4, y5, lp⟩ := is_made_loop hP hW (L := L) (c0 := .val (.tuple [.str "made", .int (q : Nat), .list ((places v 0).map fun i : Nat => PyData.int (i : Int))])) (c2 := .val (TD x)) L.length v 0 ⟨q, 0, 0⟩ (-1) .no hv (Nat.zero_add _) (by decide)
  rw [List.drop_zero, e] at lp
  have t0 : TD ⟨q, 0, 0⟩ = .tuple [.int (q : Nat), .int 0, .int 0] := rfl
  rw [t0] at lp
  have l3 : lineB 3 = true := by decide
  have w := hW (q : Int)
  have g1 : ¬ (q : Int) < 0 := by omega
  have g2 : ¬ (3 : Int) < (q : Int) := by omega
  have eq := eqTD (x := x)
  generalize ((places v 0).map fun i : Nat => PyData.int (i : Int)) = VD at *
  generalize TD x = X at *
  generalize L.map TD = LD at *
  simp only [fnD_res, b__law_is_made]
  simp [w, g1, g2, l3, lp, eq]
/-! ### what stands apart -/
def IsApartOk (f : List PyData → Rr) : Prop := ∀ (L : List Tm) (n : Nat) (x y : Tm), n ≤ 6 → y.lt n → y.par = 0 → (∀ a ∈ L, cm y a = true) → cm y x = false → f [.tuple [.str "apart", TD y], .list (L.map TD), TD x, .int n] = vB true
theorem is_apart_ok {G : Gd} (hC : CommuteOk (G.fn 0)) (hO : OnesOk (G.fn 1)) (hW : WholeOk (G.fn 2)) {L : List Tm} {n : Nat} {x y : Tm} (hn : n ≤ 6) (ly : y.lt n) (py : y.par = 0) (h : ∀ a ∈ L, cm y a = true) (hx : cm y x = false) : fnD G b__law_is_apart 6 [.tuple [.str "apart", TD y], .list (L.map TD), TD x, .int n] = vB true := by
  have lp := forL_ind (b := bodyF G (.nm 5) b__law_is_apart_l1) (ds := L.map TD) (r := [.val (.tuple [.str "apart", TD y]), .val (.list (L.map TD)), .val (TD x), .val (.int n), .val (TD y), .no])
    (fun _ r => ∃ y5, r = [.val (.tuple [.str "apart", TD y]), .val (.list (L.map TD)), .val (TD x), .val (.int n), .val (TD y), y5])
    (fun o => ∃ y5, o = .nx [.val (.tuple [.str "apart", TD y]), .val (.list (L.map TD)), .val (TD x), .val (.int n), .val (TD y), y5])
    ⟨.no, rfl⟩ ?_ ?_
  · obtain ⟨y5, e⟩ := lp
    have k : G.fn 0 [TD y, TD x] = vB (cm y x) := hC y.q y.f y.s x.q x.f x.s
    rw [hx] at k
    have o := hO (y.f &&& y.s)
    have w0 := hW y.q
    have w1 := hW y.f
    have w2 := hW y.s
    have sh := shlOk_1 (k := n) (by omega)
    have hq := ly.q
    have hf := ly.f
    have hs := ly.s
    have pw : ((2 ^ n : Nat) : Int) = (2 : Int) ^ n := by simp
    have g0 : ¬ (y.q : Int) < 0 := by omega
    have g1 : ¬ (3 : Int) < (y.q : Int) := by omega
    have mn : bf .min2 [.int (y.f : Nat), .int (y.s : Nat)] = rint (if (y.s : Int) < (y.f : Int) then (y.s : Int) else (y.f : Int)) := rfl
    have mx : bf .max2 [.int (y.f : Nat), .int (y.s : Nat)] = rint (if (y.s : Int) > (y.f : Int) then (y.s : Int) else (y.f : Int)) := rfl
    have g2 : ¬ (if (y.s : Int) < (y.f : Int) then (y.s : Int) else (y.f : Int)) < 0 := by split <;> omega
    have g3 : ¬ (2 : Int) ^ n ≤ (if (y.s : Int) > (y.f : Int) then (y.s : Int) else (y.f : Int)) := by split <;> omega
    have pe : ((y.q : Int) + (pop (y.f &&& y.s) : Nat)) % 2 = 0 := by
      have : (y.q + pop (y.f &&& y.s)) % 2 = 0 := py
      omega
    have an : Builtin.bitAnd (y.f : Int) (y.s : Int) = ((y.f &&& y.s : Nat) : Int) := and_nat _ _
    have q0 : ixD (TD y) (.int 0) = rv (.int (y.q : Nat)) := M3_0
    have q1 : ixD (TD y) (.int 1) = rv (.int (y.f : Nat)) := M3_1
    have q2 : ixD (TD y) (.int 2) = rv (.int (y.s : Nat)) := M3_2
    have it : isiD (TD y) .tuple = vB true := rfl
    have ln : bf .len [TD y] = rint 3 := rfl
    generalize (if (y.s : Int) < (y.f : Int) then (y.s : Int) else (y.f : Int)) = MI at *
    generalize (if (y.s : Int) > (y.f : Int) then (y.s : Int) else (y.f : Int)) = MA at *
    generalize (pop (y.f &&& y.s) : Nat) = O at *
    generalize ((y.f &&& y.s : Nat) : Int) = AA at *
    generalize ((y.q : Nat) : Int) = Q at *
    generalize ((y.f : Nat) : Int) = F at *
    generalize ((y.s : Nat) : Int) = S at *
    generalize TD y = Y at *
    generalize TD x = X at *
    generalize L.map TD = LD at *
    simp only [fnD_res, b__law_is_apart]
    simp [-bf_min2, -bf_max2, k, o, w0, w1, w2, sh, g0, g1, g2, g3, mn, mx, pe, an, q0, q1, q2, it, ln, e]
  · rintro i d r ed ⟨y5, rfl⟩
    rw [List.getElem?_map] at ed
    cases hi : L[i]? with
    | none => rw [hi] at ed; cases ed
    | some a =>
      rw [hi] at ed
      cases ed
      have k : G.fn 0 [TD y, TD a] = vB (cm y a) := hC y.q y.f y.s a.q a.f a.s
      rw [h a (List.mem_of_getElem? hi)] at k
      refine .inl ⟨_, .inl ?_, .val (TD a), rfl⟩
      generalize TD y = Y at *
      generalize TD x = X at *
      generalize TD a = A at *
      generalize L.map TD = LD at *
      simp only [bodyF, b__law_is_apart_l1]
      simp [k]
  · rintro r ⟨y5, rfl⟩
    exact ⟨y5, rfl⟩
end PX

namespace Gk54
open PySem PySem.Spec PyProof.Rows L2 PX SB
noncomputable abbrev GL : Gd := gdT [f__law_is_made, f_made_of, f__law_is_apart, f__law_mark_by, f__law_cell_at, f__law_table] [] []
theorem d__law_mark_by : MarkBy3Ok f__law_mark_by := fun L n way far h1 hn hL hl => mark_by3_ok (G := gdT [f__law_product] [] []) d__law_product h1 hn hL hl
theorem d__law_is_made : IsMadeOk f__law_is_made := fun L v q x hv hq e => is_made_ok (G := gdT [f__law_product, f__law_whole] [] []) d__law_product d__law_whole hv hq e
theorem d__law_is_apart : IsApartOk f__law_is_apart := fun L n x y hn ly py h hx => is_apart_ok (G := gdT [f__law_commute, f__law_ones, f__law_whole] [] []) d__law_commute d__law_ones d__law_whole hn ly py h hx
theorem dt_made_of {n : Nat} {L : List PX.Tm} {x : PX.Tm} (hn : n ≤ 6) (t : Tab n L) (lx : x.lt n) :
    (∃ v : Nat, v < 2 ^ L.length ∧ eqv (prd L v T0) x ∧ PrT L (prd L v T0) ∧ ft_made_of [.list (L.map TD), TD x, .int n] = .ok (.t [.val (.str "made"), .val (.int (((x.q : Int) - ((prd L v T0).q : Int)) % 4)), .own ((places v 0).map fun i : Nat => PyData.int (i : Int))])) ∨
    (∃ y : PX.Tm, y.lt n ∧ y.par = 0 ∧ (∀ a ∈ L, cm a y = true) ∧ cm x y = false ∧ ft_made_of [.list (L.map TD), TD x, .int n] = .ok (.v (.val (.tuple [.str "apart", TD y])))) :=
  made_ofT_ok (G := gdT [f_product, f_places_of, f_mark_across, f_solved, f_equation_at] [.int 6] []) d_product d_places_of d_mark_across d_solved d_equation_at rfl hn t lx
theorem eqL (K : List PX.Tm) : cop .ne (.list (K.map TD)) (.list (K.map TD)) = rbool false ∧ cop .eq (.list (K.map TD)) (.list (K.map TD)) = rbool true := same_list (f := TD) (l := K) (k := 0) (fun x _ => rfl) (fun x _ => by show 1 ≤ 60; decide)
/-- the number of quarters told makes up the mark -/
theorem made_up {L : List PX.Tm} {v : Nat} {x : PX.Tm} (lx : x.q < 4) (h : eqv (prd L v T0) x) : ∃ q : Nat, q < 4 ∧ ((x.q : Int) - ((prd L v T0).q : Int)) % 4 = (q : Int) ∧ prd L v ⟨q, 0, 0⟩ = x := by
  obtain ⟨q, hq⟩ := Int.eq_ofNat_of_zero_le (show 0 ≤ ((x.q : Int) - ((prd L v T0).q : Int)) % 4 by omega)
  have q4 : q < 4 := by omega
  refine ⟨q, q4, hq, ?_⟩
  obtain ⟨s1, s2⟩ := prd_spin L v q ⟨q, 0, 0⟩ T0 ⟨rfl, rfl⟩ (by show q = (0 + q) % 4; omega)
  have e := s1.trans h
  refine Tm.ext' ?_ e.1 e.2
  rw [s2]
  omega
theorem places_len : ∀ (k v p : Nat), v < 2 ^ k → (places v p).length ≤ k
  | 0, v, p, h => by
    rw [show v = 0 by omega, places_0]
    exact Nat.le_refl _
  | k + 1, v, p, h => by
    rw [Nat.pow_succ] at h
    have ih := places_len k (v / 2) (p + 1) (by omega)
    rw [places_step, List.length_append]
    split
    · show 1 + _ ≤ k + 1
      omega
    · show 0 + _ ≤ k + 1
      omega
theorem law_ok : ∀ ns : List Int, ns.length ≤ 63 → (∀ z ∈ ns, Builtin.Int.intBits z ≤ 1048576) → f_law [.list (ns.map PyData.int)] = .ok (.v (.val (.bool true))) := fun ns _ _ => by
  have ef : f_law = fnX GL (ftG [ft_made_of]) x_law 8 := rfl
  have c0 := d__law_cell_at ns 0
  simp only [Int.natCast_zero] at c0
  have c1 : f__law_cell_at [.list (ns.map .int), .int 1] = vI (PX.cell ns 1) := d__law_cell_at ns 1
  have c2 : f__law_cell_at [.list (ns.map .int), .int 2] = vI (PX.cell ns 2) := d__law_cell_at ns 2
  generalize PX.cell ns 0 = C at *
  generalize PX.cell ns 1 = D at *
  generalize PX.cell ns 2 = E at *
  obtain ⟨z1, hz1, e1⟩ := cutNat (ns := ns) (a := 3) (b := 63)
  have e1 : slD (.list (ns.map .int)) (some 3) (some 63) = some (.own (z1.map .int)) := e1
  obtain ⟨n, hn⟩ := Int.eq_ofNat_of_zero_le (show 0 ≤ 1 + C % 6 by omega)
  obtain ⟨k, hk⟩ := Int.eq_ofNat_of_zero_le (show 0 ≤ C / 6 % 7 by omega)
  have n6 : n ≤ 6 := by omega
  obtain ⟨L, t, lk, et⟩ := d__law_table z1 n k n6 (by omega)
  have ll := t.len
  obtain ⟨x, lx, ex⟩ := d__law_mark_by L n (D % 4) (E % 1000000000000000) (by omega) n6 t.lt (by omega)
  have pw : powOk 10 15 = true := by decide
  obtain ⟨k1, k2⟩ := eqL L
  have bl : bf .list [.list (L.map TD)] = some (.own (L.map TD)) := rfl
  have s1 : cop .eq (.str "made") (.str "apart") = rbool false := rfl
  have s2 : cop .eq (.str "apart") (.str "apart") = rbool true := rfl
  have s3 : cop .eq (.str "made") (.str "made") = rbool true := rfl
  have s4 : cop .ne (.str "made") (.str "made") = rbool false := rfl
  have l2 : lineB 2 = true := by decide
  have l3 : lineB 3 = true := by decide
  have cs : ∀ a b : PX.Tm, cm a b = cm b a := fun a b => cm_comm a b
  rcases dt_made_of n6 t lx with ⟨v, hv, h1, h2, e⟩ | ⟨y, h1, h2, h3, h4, e⟩
  · obtain ⟨q, q4, eq, em⟩ := made_up lx.q h1
    rw [eq] at e
    have im := d__law_is_made L v q x hv q4 em
    rcases d_made_of n L x n6 t lx with ⟨v2, hv2, g1, g2, e2⟩ | ⟨y, _, _, g3, g4, _⟩
    · obtain ⟨q2, q24, eq2, em2⟩ := made_up lx.q g1
      rw [eq2] at e2
      have im2 := d__law_is_made L v2 q2 x hv2 q24 em2
      have pl := places_len L.length v 0 hv
      have vl : ((places v 0).map fun i : Nat => PyData.int (i : Int)).length < 16777216 := by rw [List.length_map]; omega
      generalize hV : ((places v 0).map fun i : Nat => PyData.int (i : Int)) = V at *
      generalize ((places v2 0).map fun i : Nat => PyData.int (i : Int)) = V2 at *
      have ao : appOk [.val (.str "made"), .val (.int (q : Nat)), .own V] 2 = true := decide_eq_true vl
      generalize TD x = X at *
      generalize L.map TD = LD at *
      generalize ns.map PyData.int = ND at *
      generalize z1.map PyData.int = Z1 at *
      rw [ef]
      simp only [fnX, x_law]
      simp [c0, c1, c2, hn, hk, e1, et, ex, pw, k1, k2, bl, l2, l3, e, im, e2, im2, ao, s1, s3, s4, ftG, divOk_s]
    · have z := PrT.cmx g3 h2
      unfold cm at z g4
      rw [h1.1, h1.2] at z
      rw [z] at g4
      cases g4
  · have ia := d__law_is_apart L n x y n6 h1 h2 (fun a m => by rw [cs]; exact h3 a m) (by rw [cs]; exact h4)
    generalize TD y = Y at *
    generalize TD x = X at *
    generalize L.map TD = LD at *
    generalize ns.map PyData.int = ND at *
    generalize z1.map PyData.int = Z1 at *
    rw [ef]
    simp only [fnX, x_law]
    simp [c0, c1, c2, hn, hk, e1, et, ex, pw, k1, k2, bl, l2, l3, e, ia, s2, ftG, divOk_s]
end Gk54

open PySem PySem.W PySem.Calls PyProof.Rows
set_option maxHeartbeats 0 in
theorem PySem.Challenge.cw_spinboard_k54_made_of_holds : PySem.Challenge.rw_spinboard_k54_made_of.Holds := by
  w_on; o_law
  refine HandSHeadRun.head_any (r := OpenLaw.row PySem.Challenge.rw_spinboard_k54_made_of) (q := view (OpenLaw.row PySem.Challenge.rw_spinboard_k54_made_of).prog [28]) (H := Gk54.hk) (ob := Gk54.ob) (M := 1360) (loose := Gk54.loose) (d := HandSHeadRun.topDef (OpenLaw.row PySem.Challenge.rw_spinboard_k54_made_of).prog 28) (kwd := []) Gk54.ob_eq
    (by kernel_rfl) (fun s => by kernel_rfl) Gk54.run (by kernel_rfl) (by kernel_rfl) (by kernel_rfl) (by rfl) (by first | assumption | decide +kernel) (by decide +kernel) ⟨rfl, rfl, rfl, rfl, rfl, by decide +kernel⟩ ?hw ?hc
  case hw => w_witness2
  case hc =>
    refine PX.walk_EB (l := PySem.Challenge.rw_spinboard_k54_made_of) (n := 63) (k := 5) (x := "_law_script") (CX := fun w => L2N.CX (PySem.Challenge.rw_spinboard_k54_made_of).prog w) rfl (by decide) (by kernel_rfl) ⟨rfl, by decide, by decide⟩ ?F (fun _ _ _ _ _ z => PX.noCX z)
    intro w mg fa h Y G hmg0
    obtain ⟨K, KX, c⟩ := Y
    have hmg : mg ("law" : PySem.Str) = some (.ref fa) := by
      have e : (HandSHeadRun.topDef (OpenLaw.row PySem.Challenge.rw_spinboard_k54_made_of).prog 28).name = ("law" : PySem.Str) := by kernel_rfl
      rw [← e]
      exact hmg0
    obtain ⟨fd, hb, hF⟩ := Gk54.facts KX G hmg c
    exact ⟨K, fd, PX.spTw K (PX.clOf K Gk54.excs) Gk54.f_law 1, KX, hb, fun H a ns hl hb _ hS => PX.law_spT (Gk54.law_ok ns hl hb) hS, fun base _ _ => hF _ base⟩
