import PyProof.Rows.All
import Wide.All
import OpenK.AllK
import Wide.FinOn
import PyProof.P3Statements
import PyProof.StrCalls6
import PyProof.StrBlockL
import PyProof.FitsReplace
import PyProof.StrLawsFirst
import HandS.ForMost
import HandS.Wide
import HandS.IsInst
import HandS.Rev
import HandS.Style
import HandS.TupAny
import HandS.StrMore
import HandS.Deep
import HandS.WideBits
import HandS.More
import HandS.Zip
import HandS.Small
import HandS.SetFor
import HandS.TupSets
import HandS.RevRange
import KE.GoesMore
import KE.GoesEnum
import KE.KStrOpen
import HandS.WordsExc
import HandS.TryOnly
import HandS.ExcIs
import HandS.ExcInit
import HandS.ExcField
import HandS.Text
import PyProof.StrOps2
import HandS.TryElse
import KE.KExcIs
import HandS.Iter
import HandS.Strs
import KE.KDictList
import KE.KDictSum
import KE.KDictKeyed
import KE.KDictDisplayH
import KE.KeyNested
import KE.KDictWalk
import KE.KExcLine
import HandS.Conv
import HandS.SuiteRaise
import HandS.RaiseFrom
import HandS.ExcInitHot
import HandS.HotCalls
import HandS.ExcCtx
import PySem.Challenge.RW_nesthall_k56_rooms_that_fit
set_option Elab.async false
set_option linter.all false
set_option maxRecDepth 100000
/-! VSem: values without a heap, and what statements and expressions of the text do with them. No program in sight. -/
namespace Vx
open PySem

/-- a value; obj n: the n-th object of the store; dit: a dict whose keys are tuples -/
inductive D where
  | non | bl (b : Bool) | int (i : Int) | str (x : Str) | tup (xs : List D) | lst (xs : List D) | dic (kvs : List (D × D)) | dit (kvs : List (D × D)) | obj (n : Nat)
  deriving Inhabited

def D.isMut : D → Bool
  | .lst _ => true
  | .dic _ => true
  | _ => false
/-- an object of the store: an instance of the class at C, a list, a dict -/
inductive Ob where
  | ins (C : Nat) (fs : List (Str × D)) | lst (xs : List D) | dic (kvs : List (D × D))

abbrev Sto := List Ob
abbrev Sl := List (Option D)

/-- an exception: its class (the address; the number that the law's text has it by), its fields -/
structure Ex where
  cls : Nat
  num : Nat
  fs : List (Str × D)

inductive R (α : Type) where
  | ok (a : α) (s : Sto) | ex (e : Ex) (s : Sto) | no

def R.Sat {α : Type} (r : R α) (P : α → Sto → Prop) (E : Ex → Sto → Prop) : Prop := match r with
  | .ok a s => P a s
  | .ex e s => E e s
  | .no => False
def R.bind {α β : Type} (r : R α) (k : α → Sto → R β) : R β := match r with
  | .ok a s => k a s
  | .ex e s => .ex e s
  | .no => .no
theorem R.sat_bind {α β : Type} {r : R α} {k : α → Sto → R β} {P : β → Sto → Prop} {E : Ex → Sto → Prop} : (r.bind k).Sat P E ↔ r.Sat (fun a s => (k a s).Sat P E) E := by
  cases r <;> exact Iff.rfl
theorem R.Sat.imp {α : Type} {r : R α} {P P' : α → Sto → Prop} {E E' : Ex → Sto → Prop} (h : r.Sat P E) (hP : ∀ a s, P a s → P' a s) (hE : ∀ e s, E e s → E' e s) : r.Sat P' E' := by
  cases r with
  | ok a s => exact hP a s h
  | ex e s => exact hE e s h
  | no => exact h
@[simp] theorem R.bind_ok {α β : Type} (a : α) (s : Sto) (k : α → Sto → R β) : (R.ok a s).bind k = k a s := rfl
@[simp] theorem R.bind_ex {α β : Type} (e : Ex) (s : Sto) (k : α → Sto → R β) : (R.ex e s).bind k = .ex e s := rfl
@[simp] theorem R.bind_no {α β : Type} (k : α → Sto → R β) : (R.no : R α).bind k = .no := rfl

/-- nothing is raised -/
def R.nox {α : Type} (r : R α) : R α := match r with
  | .ok a s => .ok a s
  | _ => .no
@[simp] theorem R.nox_ok {α : Type} (a : α) (s : Sto) : (R.ok a s).nox = .ok a s := rfl
@[simp] theorem R.nox_no {α : Type} : (R.no : R α).nox = .no := rfl
theorem R.sat_nox {α : Type} {r : R α} {P : α → Sto → Prop} {E E' : Ex → Sto → Prop} (h : r.nox.Sat P E) : r.Sat P E' := by
  cases r with
  | ok a s => exact h
  | ex e s => exact False.elim h
  | no => exact h
/-- how a statement ends -/
inductive Fl where
  | nx (l : Sl) (s : Sto) | rt (d : D) (s : Sto) | bk (l : Sl) (s : Sto) | ct (l : Sl) (s : Sto) | ex (e : Ex) (l : Sl) (s : Sto) | no
def Fl.then (f : Fl) (k : Sl → Sto → Fl) : Fl := match f with
  | .nx l s => k l s
  | f => f
@[simp] theorem Fl.then_nx (l : Sl) (s : Sto) (k : Sl → Sto → Fl) : (Fl.nx l s).then k = k l s := rfl
@[simp] theorem Fl.then_rt (d : D) (s : Sto) (k : Sl → Sto → Fl) : (Fl.rt d s).then k = .rt d s := rfl
@[simp] theorem Fl.then_bk (l : Sl) (s : Sto) (k : Sl → Sto → Fl) : (Fl.bk l s).then k = .bk l s := rfl
@[simp] theorem Fl.then_ct (l : Sl) (s : Sto) (k : Sl → Sto → Fl) : (Fl.ct l s).then k = .ct l s := rfl
@[simp] theorem Fl.then_ex (e : Ex) (l : Sl) (s : Sto) (k : Sl → Sto → Fl) : (Fl.ex e l s).then k = .ex e l s := rfl
@[simp] theorem Fl.then_no (k : Sl → Sto → Fl) : Fl.no.then k = .no := rfl
/-- an expression's end, within a statement -/
def R.fl {α : Type} (r : R α) (l : Sl) (k : α → Sto → Fl) : Fl := match r with
  | .ok a s => k a s
  | .ex e s => .ex e l s
  | .no => .no
@[simp] theorem R.fl_ok {α : Type} (a : α) (s : Sto) (l : Sl) (k : α → Sto → Fl) : (R.ok a s).fl l k = k a s := rfl
@[simp] theorem R.fl_ex {α : Type} (e : Ex) (s : Sto) (l : Sl) (k : α → Sto → Fl) : (R.ex e s : R α).fl l k = .ex e l s := rfl
@[simp] theorem R.fl_no {α : Type} (l : Sl) (k : α → Sto → Fl) : (R.no : R α).fl l k = .no := rfl

abbrev FE := Sl → Sto → R D
abbrev FT := Sl → Sto → R Bool
abbrev FA := Sl → Sto → R (List D)
abbrev FS := Sl → Sto → Fl

/-! ### expressions -/
def mC (d : D) : FE := fun _ s => .ok d s
def mV (i : Nat) : FE := fun l s => match l[i]? with
  | some (some d) => .ok d s
  | _ => .no
def liftO {α : Type} (o : Option α) (s : Sto) : R α := match o with
  | some a => .ok a s
  | none => .no
@[simp] theorem liftO_some {α : Type} (a : α) (s : Sto) : liftO (some a) s = .ok a s := rfl
@[simp] theorem liftO_none {α : Type} (s : Sto) : liftO (none : Option α) s = .no := rfl
def mUn (g : D → Option D) (a : FE) : FE := fun l s => (a l s).bind fun x s => liftO (g x) s
def mBin (g : D → D → Option D) (a b : FE) : FE := fun l s => (a l s).bind fun x s => (b l s).bind fun y s => liftO (g x y) s
def mNil : FA := fun _ s => .ok [] s
def mCons (a : FE) (r : FA) : FA := fun l s => (a l s).bind fun x s => (r l s).bind fun xs s => .ok (x :: xs) s
def mArgs (g : List D → Option D) (a : FA) : FE := fun l s => (a l s).bind fun xs s => liftO (g xs) s
def mCall (m : List D → Sto → R D) (a : FA) : FE := fun l s => (a l s).bind fun xs s => (m xs s).nox

/-- .. that hands back a new list or dict, which is the caller's then -/
def mCallF (m : List D → Sto → R D) (a : FA) : FE := fun l s => (a l s).bind fun xs s => (m xs s).nox.bind fun d s => if d.isMut = true then .ok d s else .no

/-! ### tests -/
def gBl : D → Option Bool
  | .bl b => some b
  | _ => none
def mT (a : FE) : FT := fun l s => (a l s).bind fun x s => liftO (gBl x) s
def mNot (a : FT) : FT := fun l s => (a l s).bind fun b s => .ok (!b) s
def mAnd (a b : FT) : FT := fun l s => (a l s).bind fun x s => if x = true then b l s else .ok false s
def mOr (a b : FT) : FT := fun l s => (a l s).bind fun x s => if x = true then .ok true s else b l s
/-- and, or as values, all but the last True or False -/
def mAndV (a b : FE) : FE := fun l s => (a l s).bind fun x s => (liftO (gBl x) s).bind fun c s => if c = true then b l s else .ok (.bl false) s
def mOrV (a b : FE) : FE := fun l s => (a l s).bind fun x s => (liftO (gBl x) s).bind fun c s => if c = true then .ok (.bl true) s else b l s
def gNot : D → Option D
  | .bl b => some (.bl !b)
  | _ => none
/-- a < b < c -/
def mChain (g g' : D → D → Option D) (a b c : FE) : FE := fun l s => (a l s).bind fun x s => (b l s).bind fun y s => (liftO ((g x y).bind gBl) s).bind fun k s =>
  if k = true then (c l s).bind fun z s => liftO (g' y z) s else .ok (.bl false) s

/-! ### operators -/
def szOk (n : Nat) : Bool := decide (n ≤ 16777216)
def gAdd : D → D → Option D
  | .int i, .int j => some (.int (i + j))
  | .str x, .str y => if szOk (x.length + y.length) = true then some (.str (x ++ y)) else none
  | .tup xs, .tup ys => if szOk (xs.length + ys.length) = true then some (.tup (xs ++ ys)) else none
  | .lst xs, .lst ys => if szOk (xs.length + ys.length) = true then some (.lst (xs ++ ys)) else none
  | _, _ => none
/-- += of ints -/
def gAddI : D → D → Option D
  | .int i, .int j => some (.int (i + j))
  | _, _ => none
def gSub : D → D → Option D
  | .int i, .int j => some (.int (i - j))
  | _, _ => none
def gMul : D → D → Option D
  | .int i, .int j => if (decide (i.natAbs < 2 ^ 64) || decide (j.natAbs < 2 ^ 64)) = true then some (.int (i * j)) else none
  | _, _ => none
def gDiv : D → D → Option D
  | .int i, .int j => if (decide (0 < j) && decide (j < 1073741824)) = true then some (.int (i / j)) else none
  | _, _ => none
def gMod : D → D → Option D
  | .int i, .int j => if 0 < j then some (.int (i % j)) else none
  | _, _ => none
def gPow : D → D → Option D
  | .int i, .int j => if (decide (0 ≤ j) && decide (j ≤ 1000000) && decide (i.natAbs < 2 ^ 64)) = true then some (.int (i ^ j.toNat)) else none
  | _, _ => none
def gShr : D → D → Option D
  | .int i, .int j => if 0 ≤ j then some (.int (i / 2 ^ j.toNat)) else none
  | _, _ => none
/-- & with 2147483647 alone -/
def gMask : D → D → Option D
  | .int i, .int j => if j = 2147483647 then some (.int (i % 2147483648)) else none
  | _, _ => none
def gNeg : D → Option D
  | .int i => some (.int (-i))
  | _ => none
def gLt : D → D → Option D
  | .int i, .int j => some (.bl (decide (i < j)))
  | _, _ => none
def gLe : D → D → Option D
  | .int i, .int j => some (.bl (decide (i ≤ j)))
  | _, _ => none
def gGt : D → D → Option D
  | .int i, .int j => some (.bl (decide (j < i)))
  | _, _ => none
def gGe : D → D → Option D
  | .int i, .int j => some (.bl (decide (j ≤ i)))
  | _, _ => none

/-! ### == -/
mutual
/-- data that == reads: no dict, no object; texts of true signs -/
def D.pl : D → Bool
  | .non | .bl _ | .int _ => true
  | .str x => x.cps.all fun c => decide (c < 128)
  | .tup xs => D.plAll xs
  | .lst xs => D.plAll xs
  | .dic _ | .dit _ | .obj _ => false
def D.plAll : List D → Bool
  | [] => true
  | x :: xs => D.pl x && D.plAll xs
end
mutual
def D.dep : D → Nat
  | .tup xs | .lst xs => D.depAll xs + 1
  | _ => 0
def D.depAll : List D → Nat
  | [] => 0
  | x :: xs => max (D.dep x) (D.depAll xs)
end
mutual
def D.eqv : D → D → Bool
  | .non, .non => true
  | .bl a, .bl b => a == b
  | .bl a, .int j => (if a then 1 else 0) == j
  | .int i, .bl b => i == (if b then 1 else 0)
  | .int i, .int j => i == j
  | .str x, .str y => x == y
  | .lst xs, .lst ys => D.eqvAll xs ys
  | .tup xs, .tup ys => D.eqvAll xs ys
  | _, _ => false
def D.eqvAll : List D → List D → Bool
  | [], [] => true
  | x :: xs, y :: ys => D.eqv x y && D.eqvAll xs ys
  | _, _ => false
end
/-- what == may be asked of -/
def D.shp (d : D) : Bool := D.pl d && decide (D.dep d ≤ 64)
/-- a value that is no list, tuple, dict or object -/
def D.flat : D → Bool
  | .non | .bl _ | .int _ | .str _ => true
  | _ => false
def D.isStr : D → Bool
  | .str _ => true
  | _ => false
def D.eqOk (x y : D) : Bool := (D.isStr x && D.isStr y) || (D.shp x && D.shp y)
def gEq (x y : D) : Option D := if D.eqOk x y = true then some (.bl (D.eqv x y)) else none
def gNe (x y : D) : Option D := if D.eqOk x y = true then some (.bl (!D.eqv x y)) else none
def D.isNon : D → Bool
  | .non => true
  | _ => false
/-- is None; is True, is False of a truth -/
def gIs : D → D → Option D
  | x, .non => some (.bl x.isNon)
  | .bl b, .bl c => some (.bl (b == c))
  | _, _ => none
def gIsNot : D → D → Option D
  | x, .non => some (.bl (!x.isNon))
  | .bl b, .bl c => some (.bl (!(b == c)))
  | _, _ => none
/-- the sign c stands in a text -/
def gIn : D → D → Option D
  | x, .lst ys => if (D.flat x && ys.all D.flat || D.shp x && D.shp (.lst ys)) = true then some (.bl (ys.any fun y => D.eqv y x)) else none
  | x, .tup ys => if (D.flat x && ys.all D.flat) = true then some (.bl (ys.any fun y => D.eqv y x)) else none
  | .str x, .str y => match x.cps.toList with
    | [c] => some (.bl (decide (c ∈ y.cps.toList)))
    | _ => none
  | _, _ => none
def gNotIn (x y : D) : Option D := (gIn x y).bind gNot

/-! ### items, slices -/
def ixI (n : Nat) (i : Int) : Option Nat := if 0 ≤ i then (if i < n then some i.toNat else none) else if -(n : Int) ≤ i then some (i + n).toNat else none
def gIx : D → D → Option D
  | .lst xs, .int i => (ixI xs.length i).bind fun j => xs[j]?
  | .tup xs, .int i => (ixI xs.length i).bind fun j => xs[j]?
  | .str x, .int i => if szOk x.length = true then (ixI x.length i).bind fun j => (x.cps[j]?).map fun c => .str ⟨#[c]⟩ else none
  | _, _ => none
/-- a slice's bound, within 0 .. n -/
def sIx (n d : Nat) : Option Int → Nat
  | none => d
  | some v => if v < 0 then (v + n).toNat else min v.toNat n
def cutD {α : Type} (xs : List α) (lo hi : Option Int) : List α := (xs.drop (sIx xs.length 0 lo)).take (sIx xs.length xs.length hi - sIx xs.length 0 lo)
def gCut : D → Option Int → Option Int → Option D
  | .lst xs, lo, hi => some (.lst (cutD xs lo hi))
  | .tup xs, lo, hi => some (.tup (cutD xs lo hi))
  | .str x, lo, hi => if szOk x.length = true then some (.str ⟨(cutD x.cps.toList lo hi).toArray⟩) else none
  | _, _, _ => none
abbrev FO := Sl → Sto → R (Option Int)
def mNoO : FO := fun _ s => .ok none s
def mO (a : FE) : FO := fun l s => (a l s).bind fun x s => match x with
  | .int i => .ok (some i) s
  | _ => .no
/-- a list's slice is a new list -/
def gCutL : D → Option Int → Option Int → Option D
  | .lst xs, lo, hi => some (.lst (cutD xs lo hi))
  | _, _, _ => none
def mCutL (a : FE) (lo hi : FO) : FE := fun l s => (a l s).bind fun x s => (lo l s).bind fun i s => (hi l s).bind fun j s => liftO (gCutL x i j) s
/-- xs + ys, a new list -/
def gAddL : D → D → Option D
  | .lst xs, .lst ys => if szOk (xs.length + ys.length) = true then some (.lst (xs ++ ys)) else none
  | _, _ => none
def mCut (a : FE) (lo hi : FO) : FE := fun l s => (a l s).bind fun x s => (lo l s).bind fun i s => (hi l s).bind fun j s => liftO (gCut x i j) s

/-! ### displays -/
def mTup (a : FA) : FE := fun l s => (a l s).bind fun xs s => if szOk xs.length = true then .ok (.tup xs) s else .no
def mLst (a : FA) : FE := fun l s => (a l s).bind fun xs s => if szOk xs.length = true then .ok (.lst xs) s else .no

/-! ### built-in functions -/
def gLen : List D → Option D
  | [.lst xs] => some (.int xs.length)
  | [.tup xs] => some (.int xs.length)
  | [.str x] => if szOk x.length = true then some (.int x.length) else none
  | [.dic kvs] => some (.int kvs.length)
  | _ => none
def gMax2 : List D → Option D
  | [.int i, .int j] => some (.int (if j > i then j else i))
  | _ => none
def gMin2 : List D → Option D
  | [.int i, .int j] => some (.int (if j < i then j else i))
  | _ => none
def gInt1 : List D → Option D
  | [.int i] => some (.int i)
  | [.bl b] => some (.int (if b then 1 else 0))
  | _ => none
def gTuple : List D → Option D
  | [.lst xs] => some (.tup xs)
  | [.tup xs] => some (.tup xs)
  | _ => none
def gList : List D → Option D
  | [.lst xs] => some (.lst xs)
  | [.tup xs] => some (.lst xs)
  | _ => none
/-- isinstance(x, T), T a built-in class by its name -/
def D.isT (T : String) : D → Bool
  | .non => false
  | .bl _ => T == "bool" || T == "int"
  | .int _ => T == "int"
  | .str _ => T == "str"
  | .tup _ => T == "tuple"
  | .lst _ => T == "list"
  | .dic _ => T == "dict"
  | .dit _ => T == "dict"
  | .obj _ => false

def gIsi (T : String) : D → Option D
  | .obj _ => none
  | .dic _ => none
  | .dit _ => none
  | d => some (.bl (d.isT T))
def strsJ : List D → Option (List Str)
  | [] => some []
  | .str i :: r => (strsJ r).map (i :: ·)
  | _ => none
def gJoin : Str → D → Option D
  | x, .lst ys => (strsJ ys).bind fun zs => if szOk ((zs.map (·.length)).sum + zs.length * x.length) = true then some (.str (Txt.join x zs)) else none
  | _, _ => none
def gFind : Str → D → Option D
  | x, .str y => some (.int (Txt.find x y))
  | _, _ => none
/-- more turns than any while here takes -/
def bigN : Nat := 10000000

/-! ### comprehensions -/
/-- one target name at slot i; a, b at slots i, j -/
def tg1 (i : Nat) : D → Sl → Option Sl := fun x l => some (l.set i (some x))
def tg2 (i j : Nat) : D → Sl → Option Sl := fun x l => match x with
  | .tup [a, b] => some ((l.set i (some a)).set j (some b))
  | _ => none
def wipeD (l : Sl) : List Nat → Sl
  | [] => l
  | v :: vs => (wipeD l vs).set v none
def mYes : FT := fun _ s => .ok true s
def compD (g : D → Sl → Option Sl) (t : FT) (e : FE) (l : Sl) : List D → List D → Sto → R D
  | [], acc, s => .ok (.lst acc) s
  | x :: xs, acc, s => match g x l with
    | none => .no
    | some l1 => (t l1 s).nox.bind fun b s => if b = true then (e l1 s).nox.bind fun y s => if acc.length < 16777216 then compD g t e l xs (acc ++ [y]) s else .no else compD g t e l xs acc s
def mComp (it : FA) (g : D → Sl → Option Sl) (t : FT) (e : FE) (vs : List Nat) : FE := fun l s => (it l s).bind fun xs s => compD g t e (wipeD l vs) xs [] s

/-! ### what is walked -/
def itSeq (a : FE) : FA := fun l s => (a l s).bind fun x s => match x with
  | .lst xs => .ok xs s
  | .tup xs => .ok xs s
  | _ => .no
def itStr (a : FE) : FA := fun l s => (a l s).bind fun x s => match x with
  | .str x => .ok (x.cps.toList.map fun c => .str ⟨#[c]⟩) s
  | _ => .no
def rgOk (i : Int) : Bool := decide (-(2 ^ 62) ≤ i) && decide (i < 2 ^ 62)
def rgD (i : Int) (n : Nat) : List D := (List.range n).map fun k => .int (i + (k : Nat))
def itRg1 (a : FA) : FA := fun l s => (a l s).bind fun xs s => match xs with
  | [.int j] => if rgOk j = true then .ok (rgD 0 j.toNat) s else .no
  | _ => .no
def itRg2 (a : FA) : FA := fun l s => (a l s).bind fun xs s => match xs with
  | [.int i, .int j] => if (rgOk i && rgOk j) = true then .ok (rgD i (j - i).toNat) s else .no
  | _ => .no
def itRev (a : FE) : FA := fun l s => (a l s).bind fun x s => match x with
  | .lst xs => .ok xs.reverse s
  | .tup xs => .ok xs.reverse s
  | _ => .no
def enumD (xs : List D) : List D := (List.range xs.length).zipWith (fun i x => .tup [.int (i : Nat), x]) xs
def itEnum (a : FE) : FA := fun l s => (a l s).bind fun x s => match x with
  | .lst xs => .ok (enumD xs) s
  | .tup xs => .ok (enumD xs) s
  | _ => .no

/-! ### statements -/
def sNil : FS := fun l s => .nx l s
def sSeq (a b : FS) : FS := fun l s => (a l s).then b
def sPass : FS := fun l s => .nx l s
def sBrk : FS := fun l s => .bk l s
def sCnt : FS := fun l s => .ct l s
def sSet (i : Nat) (a : FE) : FS := fun l s => (a l s).fl l fun x s => .nx (l.set i (some x)) s
/-- .. a new list, which is the frame's own -/
def sSetF (i : Nat) (a : FE) : FS := fun l s => (a l s).fl l fun x s => if i < l.length then .nx (l.set i (some x)) s else .no
def sTg (g : D → Sl → Option Sl) (a : FE) : FS := fun l s => (a l s).fl l fun x s => match g x l with
  | some l1 => .nx l1 s
  | none => .no
def sAug (g : D → D → Option D) (i : Nat) (a : FE) : FS := fun l s => match l[i]? with
  | some (some x) => (a l s).fl l fun y s => match g x y with
    | some z => .nx (l.set i (some z)) s
    | none => .no
  | _ => .no
def sExp (a : FE) : FS := fun l s => (a l s).fl l fun _ s => .nx l s
def sRet (a : FE) : FS := fun l s => (a l s).fl l fun x s => .rt x s
/-- .. a value that is no list -/
def sRetN' (a : FE) : FS := fun l s => (a l s).fl l fun x s => if x.isMut = true then .no else .rt x s
def sRetN : FS := fun _ s => .rt .non s
def sIf (c : FT) (a b : FS) : FS := fun l s => (c l s).fl l fun k s => if k = true then a l s else b l s
def forD (g : D → Sl → Option Sl) (b : FS) : List D → Sl → Sto → Fl
  | [], l, s => .nx l s
  | x :: xs, l, s => match g x l with
    | none => .no
    | some l1 => match b l1 s with
      | .nx l2 s2 => forD g b xs l2 s2
      | .ct l2 s2 => forD g b xs l2 s2
      | .bk l2 s2 => .nx l2 s2
      | f => f
def sFor (it : FA) (g : D → Sl → Option Sl) (b : FS) : FS := fun l s => (it l s).fl l fun xs s => forD g b xs l s
/-- n turns at most -/
def whileD (c : FT) (b : FS) : Nat → Sl → Sto → Fl
  | 0, _, _ => .no
  | n + 1, l, s => (c l s).fl l fun k s => if k = true then (match b l s with
      | .nx l2 s2 => whileD c b n l2 s2
      | .ct l2 s2 => whileD c b n l2 s2
      | .bk l2 s2 => .nx l2 s2
      | f => f) else .nx l s
/-- a while; n: more turns than are ever taken -/
def sWhile (n : Nat) (c : FT) (b : FS) : FS := fun l s => whileD c b n l s
/-- x.append(e), x an own list at slot i -/
def sApp (i : Nat) (a : FE) : FS := fun l s => match l[i]? with
  | some (some (.lst xs)) => (a l s).fl l fun y s => if xs.length < 16777216 then .nx (l.set i (some (.lst (xs ++ [y])))) s else .no
  | _ => .no
/-- x.extend(e) -/
def sExt (i : Nat) (a : FE) : FS := fun l s => match l[i]? with
  | some (some (.lst xs)) => (a l s).fl l fun y s => match y with
    | .lst ys => if szOk (xs.length + ys.length) = true then .nx (l.set i (some (.lst (xs ++ ys)))) s else .no
    | _ => .no
  | _ => .no
/-- x[k] = e, x an own list at slot i: e first, then k -/
def sPut (i : Nat) (a k : FE) : FS := fun l s => match l[i]? with
  | some (some (.lst xs)) => (a l s).fl l fun y s => (k l s).fl l fun z s => match z with
    | .int n => (match ixI xs.length n with
      | some j => .nx (l.set i (some (.lst (xs.set j y)))) s
      | none => .no)
    | _ => .no
  | _ => .no

/-! ### a def -/
def startD (n : Nat) (ds : List D) : Sl := ds.map some ++ List.replicate (n - ds.length) none
/-- a def of n names, p of them parameters -/
def mDef (n p : Nat) (b : FS) : List D → Sto → R D := fun ds s => if ds.length = p then (match b (startD n ds) s with
  | .nx _ s => .ok .non s
  | .rt d s => .ok d s
  | .ex e _ s => .ex e s
  | _ => .no) else .no

/-- a text's method -/
def mSt (g : Str → D → Option D) (a b : FE) : FE := fun l s => (a l s).bind fun x s => match x with
  | .str z => (b l s).bind fun y s => liftO (g z y) s
  | _ => .no
def mSt0 (g : Str → Option D) (a : FE) : FE := fun l s => (a l s).bind fun x s => match x with
  | .str z => liftO (g z) s
  | _ => .no
/-! ### a list lent to a def: what comes back holds no list -/
mutual
def D.noMut : D → Bool
  | .lst _ => false
  | .dic _ => false
  | .dit _ => false
  | .tup xs => D.noMutAll xs
  | .non | .bl _ | .int _ | .str _ | .obj _ => true
def D.noMutAll : List D → Bool
  | [] => true
  | x :: xs => D.noMut x && D.noMutAll xs
end
def Ob.noMut : Ob → Bool
  | .ins _ fs => D.noMutAll (fs.map (·.2))
  | .lst xs => D.noMutAll xs
  | .dic kvs => D.noMutAll (kvs.map (·.2))
def stoNo (s : Sto) : Bool := s.all Ob.noMut
def mCallL (m : List D → Sto → R D) (a : FA) : FE := fun l s => (a l s).bind fun xs s => (m xs s).nox.bind fun d s => if (D.noMut d && stoNo s) = true then .ok d s else .no

/-! ### lists of ints, of texts -/
def intsD : List D → Option (List Int)
  | [] => some []
  | .int i :: r => (intsD r).map (i :: ·)
  | _ => none
def maxI : Int → List Int → Int
  | m, [] => m
  | m, n :: r => maxI (if m < n then n else m) r
def minI : Int → List Int → Int
  | m, [] => m
  | m, n :: r => minI (if n < m then n else m) r
def insI (i : Int) : List Int → List Int
  | [] => [i]
  | j :: r => if i ≤ j then i :: j :: r else j :: insI i r
def sortI : List Int → List Int
  | [] => []
  | i :: r => insI i (sortI r)
def gMax1 : List D → Option D
  | [.lst xs] => (intsD xs).bind fun ns => match ns with
    | [] => none
    | n :: r => some (.int (maxI n r))
  | _ => none
def gMin1 : List D → Option D
  | [.lst xs] => (intsD xs).bind fun ns => match ns with
    | [] => none
    | n :: r => some (.int (minI n r))
  | _ => none
def gSorted : List D → Option D
  | [.lst xs] => if xs.length < 64 then (intsD xs).map fun ns => .lst ((sortI ns).map .int) else none
  | _ => none

/-! ### a list's methods, as statements -/
/-- x.m(..), x an own list at slot i -/
def sMeth (g : List D → List D → Option (D × List D)) (i : Nat) (a : FA) : FS := fun l s => match l[i]? with
  | some (some (.lst xs)) => (a l s).fl l fun ys s => match g xs ys with
    | some (_, zs) => .nx (l.set i (some (.lst zs))) s
    | none => .no
  | _ => .no
/-- y = x.m(..), y at slot j -/
def sMethTo (g : List D → List D → Option (D × List D)) (j i : Nat) (a : FA) : FS := fun l s => match l[i]? with
  | some (some (.lst xs)) => (a l s).fl l fun ys s => match g xs ys with
    | some (y, zs) => .nx ((l.set i (some (.lst zs))).set j (some y)) s
    | none => .no
  | _ => .no
def gPop0 : List D → List D → Option (D × List D)
  | xs, [] => (xs[xs.length - 1]?).map fun y => (y, xs.dropLast)
  | _, _ => none
def gPop1 : List D → List D → Option (D × List D)
  | xs, [.int i] => if rgOk i = true then (ixI xs.length i).bind fun k => (xs[k]?).map fun y => (y, xs.eraseIdx k) else none
  | _, _ => none
def gInsert : List D → List D → Option (D × List D)
  | xs, [.int i, y] => if (szOk (xs.length + 1) && (decide (0 ≤ i) && rgOk i)) = true then some (.non, xs.take i.toNat ++ [y] ++ xs.drop i.toNat) else none
  | _, _ => none
def gClear : List D → List D → Option (D × List D)
  | _, [] => some (.non, [])
  | _, _ => none
def gReverse : List D → List D → Option (D × List D)
  | xs, [] => some (.non, xs.reverse)
  | _, _ => none
/-- tuple(reversed(x)), x a list -/
def gTupRev : D → Option D
  | .lst xs => some (.tup xs.reverse)
  | _ => none
/-- a, b, c, .. at slots is -/
def setAll : Sl → List Nat → List D → Sl
  | l, i :: is, x :: xs => setAll (l.set i (some x)) is xs
  | l, _, _ => l
def tgN (is : List Nat) : D → Sl → Option Sl := fun x l => match x with
  | .tup xs => if xs.length = is.length then some (setAll l is xs) else none
  | _ => none
/-- len(set(x)), x a list of unlike ints -/
def gLenSet : D → Option D
  | .lst xs => (intsD xs).bind fun ns => if (decide ns.Nodup && decide (ns.length ≤ 4000)) = true then some (.int (ns.length : Nat)) else none
  | _ => none
/-- list(reversed(x)), x a list -/
def gListRev : D → Option D
  | .lst xs => some (.lst xs.reverse)
  | _ => none
def zipD (xs ys : List D) : List D := List.zipWith (fun x y => .tup [x, y]) xs ys
def seqO : D → Option (List D)
  | .lst xs => some xs
  | .tup xs => some xs
  | _ => none
def lstO : D → Option (List D)
  | .lst xs => some xs
  | _ => none
/-- zip of two lists -/
def itZip (a b : FE) : FA := fun l s => (a l s).bind fun x s => (b l s).bind fun y s => (liftO (lstO x) s).bind fun xs s => (liftO (lstO y) s).bind fun ys s => .ok (zipD xs ys) s
/-! ### dicts: keys are ints or texts -/
def keyE : D → D → Bool
  | .int i, .int j => i == j
  | .str x, .str y => x == y
  | _, _ => false
def isKey : D → Bool
  | .int _ => true
  | .str _ => true
  | _ => false
def dgetL (kvs : List (D × D)) (k : D) : Option D := (kvs.find? fun p => keyE p.1 k).map (·.2)
def dputL (kvs : List (D × D)) (k v : D) : List (D × D) := if (kvs.any fun p => keyE p.1 k) = true then kvs.map (fun p => if keyE p.1 k = true then (p.1, v) else p) else kvs ++ [(k, v)]
def gDGet : D → D → Option D
  | .dic kvs, k => if isKey k = true then dgetL kvs k else none
  | _, _ => none
def gDIn : D → D → Option D
  | k, .dic kvs => if isKey k = true then some (.bl (dgetL kvs k).isSome) else none
  | _, _ => none
def gDNotIn : D → D → Option D
  | k, .dic kvs => if isKey k = true then some (.bl (!(dgetL kvs k).isSome)) else none
  | _, _ => none
/-- x[k] = e, x an own dict at slot i: e first, then k -/
def sPutD (i : Nat) (a k : FE) : FS := fun l s => match l[i]? with
  | some (some (.dic kvs)) => (a l s).fl l fun y s => (k l s).fl l fun z s => if (isKey z && decide (kvs.length < 16777216)) = true then .nx (l.set i (some (.dic (dputL kvs z y)))) s else .no
  | _ => .no
def itKeys (i : Nat) : FA := fun l s => match l[i]? with
  | some (some (.dic kvs)) => .ok (kvs.map (·.1)) s
  | _ => .no
def itItems (i : Nat) : FA := fun l s => match l[i]? with
  | some (some (.dic kvs)) => .ok (kvs.map fun p => .tup [p.1, p.2]) s
  | _ => .no
/-! ### dicts whose keys are tuples, nested -/
mutual
/-- what may stand in a key -/
def D.keyed : D → Bool
  | .non | .bl _ | .int _ | .str _ => true
  | .tup xs => D.keyedAll xs
  | _ => false
def D.keyedAll : List D → Bool
  | [] => true
  | x :: xs => D.keyed x && D.keyedAll xs
end
def isKeyN : D → Bool
  | .tup xs => D.keyedAll xs && decide (D.dep (.tup xs) ≤ 8)
  | _ => false
def dgetN (kvs : List (D × D)) (k : D) : Option D := (kvs.find? fun p => D.eqv p.1 k).map (·.2)
def dputN (kvs : List (D × D)) (k v : D) : List (D × D) := if (kvs.any fun p => D.eqv p.1 k) = true then kvs.map (fun p => if D.eqv p.1 k = true then (p.1, v) else p) else kvs ++ [(k, v)]
def gNGet : D → D → Option D
  | .dit kvs, k => if isKeyN k = true then dgetN kvs k else none
  | _, _ => none
def gNIn : D → D → Option D
  | k, .dit kvs => if isKeyN k = true then some (.bl (dgetN kvs k).isSome) else none
  | _, _ => none
def gNNotIn : D → D → Option D
  | k, .dit kvs => if isKeyN k = true then some (.bl (!(dgetN kvs k).isSome)) else none
  | _, _ => none
/-- x[k] = e, x an own dict with tuple keys at slot i: e first, then k -/
def sPutN (i : Nat) (a k : FE) : FS := fun l s => match l[i]? with
  | some (some (.dit kvs)) => (a l s).fl l fun y s => (k l s).fl l fun z s => if (isKeyN z && decide (kvs.length < 16777216)) = true then .nx (l.set i (some (.dit (dputN kvs z y)))) s else .no
  | _ => .no
/-- {k: v} -/
def mDit1 (k v : FE) : FE := fun l s => (k l s).bind fun x s => (v l s).bind fun y s => if isKeyN x = true then .ok (.dit [(x, y)]) s else .no
def gLenN : List D → Option D
  | [.dit kvs] => some (.int kvs.length)
  | _ => none
/-- nothing is raised -/
def Fl.nox (f : Fl) : Fl := match f with
  | .ex _ _ _ => .no
  | f => f
def sForN (it : FA) (g : D → Sl → Option Sl) (b : FS) : FS := fun l s => (sFor it g b l s).nox
/-- reversed(range(n)) -/
def itRevRg (a : FE) : FA := fun l s => (a l s).bind fun x s => match x with
  | .int n => if rgOk n = true then .ok (rgD 0 n.toNat).reverse s else .no
  | _ => .no
end Vx

/-! VRel: how the values without a heap stand in the abstract heap of the hand layer; which lists are a frame's own. -/
namespace Vx
open PySem PySem.Spec L2
/-- the world of the run (the hashes of texts are its) -/
class Wd where
  w : World
variable [Wd]

theorem of_getElem?_set {α : Type} {l : List α} {i j : Nat} {a b : α} (h : (l.set i a)[j]? = some b) : (i = j ∧ b = a ∧ i < l.length) ∨ (i ≠ j ∧ l[j]? = some b) := by
  rw [List.getElem?_set] at h
  by_cases e : i = j
  · rw [if_pos e] at h
    by_cases hl : i < l.length
    · rw [if_pos hl] at h
      exact .inl ⟨e, (Option.some.inj h).symm, hl⟩
    · rw [if_neg hl] at h
      cases h
  · rw [if_neg e] at h
    exact .inr ⟨e, h⟩

/-! ### readings -/
/-- a list of the written part -/
def KL (K : PySem.W.Frag) (a : Addr) (vs : List V) : Prop := SqL K (fun _ => none) a vs
theorem KL.sq {K : PySem.W.Frag} {H : Hp} {a : Addr} {vs : List V} (h : KL K a vs) : SqL K H a vs := by
  rcases h with (h | ⟨o, h⟩) | h
  · cases h
  · cases h
  · exact .inr h
inductive RKey : D → Key → Prop
  | int (i : Int) : RKey (.int i) (.inl i)
  | str (x : Str) : RKey (.str x) (.inr x)
/-! ### dicts whose keys are tuples -/
/-- an entry: key, where the key's tuple stands, value -/
abbrev NEnt := NestedKey × Addr × V
/-- the dict at a with the entries es -/
def ditO (w : World) (a : Addr) (es : List NEnt) : HO := .ext fun h => (a == sysModules) = false ∧ es.length ≤ sizeLine ∧
  ∃ xs : List (NestedKey × Addr × Value), Paired (fun (p : NEnt) (q : NestedKey × Addr × Value) => p.1 = q.1 ∧ p.2.1 = q.2.1 ∧ RelV p.2.2 q.2.2) es xs ∧
  ∃ o tb ep, h.get? a = some o ∧ o.ExactDict ∧ o.data = .dict tb ep ∧ tb.toList = xs.map (fun x => (⟨x.1.hash w, .ref x.2.1, x.2.2⟩ : DictEntry)) ∧ (xs.map (·.1)).Nodup
mutual
/-- a value as a part of a key -/
def nkD : D → Option NestedKey
  | .non => some .none
  | .bl b => some (.num (if b = true then 1 else 0))
  | .int i => some (.num i)
  | .str x => some (.text x)
  | .tup xs => (nkDs xs).map .tup
  | _ => none
def nkDs : List D → Option (List NestedKey)
  | [] => some []
  | x :: xs => (nkD x).bind fun k => (nkDs xs).map (k :: ·)
end
mutual
inductive RD (K : PySem.W.Frag) (N : Addr → Prop) (α : List Addr) (H : Hp) : D → V → Prop
  | non : RD K N α H .non .non
  | bl (b : Bool) : RD K N α H (.bl b) (.bl b)
  | int (i : Int) : RD K N α H (.int i) (.int i)
  | str (x : Str) : RD K N α H (.str x) (.str x)
  | tup {a : Addr} {ds : List D} {vs : List V} : ¬ N a → Rd H a (.tup vs) → RDs K N α H ds vs → RD K N α H (.tup ds) (.ref a)
  | lst {a : Addr} {ds : List D} {vs : List V} : ¬ N a → Rd H a (.lst vs) → RDs K N α H ds vs → RD K N α H (.lst ds) (.ref a)
  | lstK {a : Addr} {ds : List D} {vs : List V} : KL K a vs → RDs K N α H ds vs → RD K N α H (.lst ds) (.ref a)
  | dic {a : Addr} {ds : List (D × D)} {vs : List (Key × V)} : ¬ N a → Rd H a (.dK vs) → RKs K N α H ds vs → RD K N α H (.dic ds) (.ref a)
  | dit {a : Addr} {ds : List (D × D)} {es : List NEnt} : ¬ N a → H a = some (ditO Wd.w a es) → RNs K N α H ds es → RD K N α H (.dit ds) (.ref a)
  | obj {n : Nat} {a : Addr} : α[n]? = some a → RD K N α H (.obj n) (.ref a)
inductive RDs (K : PySem.W.Frag) (N : Addr → Prop) (α : List Addr) (H : Hp) : List D → List V → Prop
  | nil : RDs K N α H [] []
  | cons {d : D} {ds : List D} {v : V} {vs : List V} : RD K N α H d v → RDs K N α H ds vs → RDs K N α H (d :: ds) (v :: vs)
inductive RKs (K : PySem.W.Frag) (N : Addr → Prop) (α : List Addr) (H : Hp) : List (D × D) → List (Key × V) → Prop
  | nil : RKs K N α H [] []
  | cons {d e : D} {ds : List (D × D)} {k : Key} {v : V} {vs : List (Key × V)} : RKey d k → RD K N α H e v → RKs K N α H ds vs → RKs K N α H ((d, e) :: ds) ((k, v) :: vs)
inductive RNs (K : PySem.W.Frag) (N : Addr → Prop) (α : List Addr) (H : Hp) : List (D × D) → List NEnt → Prop
  | nil : RNs K N α H [] []
  | cons {d e : D} {ds : List (D × D)} {k : NestedKey} {b : Addr} {v : V} {es : List NEnt} : nkD d = some k → k.depth ≤ 8 → RD K N α H d (.ref b) → RD K N α H e v → RNs K N α H ds es → RNs K N α H ((d, e) :: ds) ((k, b, v) :: es)
end

/-- what is known of objects stays known: of those that N does not bar -/
structure Stp (N : Addr → Prop) (α : List Addr) (H : Hp) (N' : Addr → Prop) (α' : List Addr) (H' : Hp) : Prop where
  pre : ∃ t, α' = α ++ t
  keep : ∀ a o, H a = some o → ¬ N a → H' a = some o ∧ ¬ N' a
section
variable {K : PySem.W.Frag} {N N' N'' : Addr → Prop} {α α' α'' : List Addr} {H H' H'' : Hp} {a : Addr}
theorem Stp.refl : Stp N α H N α H := ⟨⟨[], by simp⟩, fun _ _ h n => ⟨h, n⟩⟩
theorem Stp.trans (s : Stp N α H N' α' H') (t : Stp N' α' H' N'' α'' H'') : Stp N α H N'' α'' H'' := by
  obtain ⟨x, e⟩ := s.pre
  obtain ⟨y, e'⟩ := t.pre
  exact ⟨⟨x ++ y, by rw [e', e, List.append_assoc]⟩, fun a o h n => let ⟨h1, n1⟩ := s.keep a o h n; t.keep a o h1 n1⟩
theorem Stp.at_ (s : Stp N α H N' α' H') {n : Nat} (h : α[n]? = some a) : α'[n]? = some a := by
  obtain ⟨x, e⟩ := s.pre
  rw [e, List.getElem?_append_left (List.getElem?_eq_some_iff.mp h).1]
  exact h
theorem Stp.rd (s : Stp N α H N' α' H') {u : HO} (n : ¬ N a) (h : Rd H a u) : Rd H' a u ∧ ¬ N' a := by
  rcases h with h | ⟨o, h⟩
  · exact ⟨.inl (s.keep a _ h n).1, (s.keep a _ h n).2⟩
  · exact ⟨.inr ⟨o, (s.keep a _ h n).1⟩, (s.keep a _ h n).2⟩
mutual
theorem RD.step (s : Stp N α H N' α' H') : ∀ {d : D} {v : V}, RD K N α H d v → RD K N' α' H' d v
  | _, _, .non => .non
  | _, _, .bl b => .bl b
  | _, _, .int i => .int i
  | _, _, .str x => .str x
  | _, _, .tup n h r => .tup (s.rd n h).2 (s.rd n h).1 (RDs.step s r)
  | _, _, .lst n h r => .lst (s.rd n h).2 (s.rd n h).1 (RDs.step s r)
  | _, _, .lstK h r => .lstK h (RDs.step s r)
  | _, _, .dic n h r => .dic (s.rd n h).2 (s.rd n h).1 (RKs.step s r)
  | _, _, .dit n h r => .dit (s.keep _ _ h n).2 (s.keep _ _ h n).1 (RNs.step s r)
  | _, _, .obj h => .obj (s.at_ h)
theorem RDs.step (s : Stp N α H N' α' H') : ∀ {d : List D} {v : List V}, RDs K N α H d v → RDs K N' α' H' d v
  | _, _, .nil => .nil
  | _, _, .cons r t => .cons (RD.step s r) (RDs.step s t)
theorem RKs.step (s : Stp N α H N' α' H') : ∀ {d : List (D × D)} {v : List (Key × V)}, RKs K N α H d v → RKs K N' α' H' d v
  | _, _, .nil => .nil
  | _, _, .cons k r t => .cons k (RD.step s r) (RKs.step s t)
theorem RNs.step (s : Stp N α H N' α' H') : ∀ {d : List (D × D)} {v : List NEnt}, RNs K N α H d v → RNs K N' α' H' d v
  | _, _, .nil => .nil
  | _, _, .cons k z r e t => .cons k z (RD.step s r) (RD.step s e) (RNs.step s t)
end
/-- the heap grows -/
theorem Stp.grow (g : Same H H') : Stp N α H N α H' := ⟨⟨[], by simp⟩, fun a o h n => ⟨g a o h, n⟩⟩
/-- fewer are barred -/
theorem Stp.less (h : ∀ a, N' a → N a) : Stp N α H N' α H := ⟨⟨[], by simp⟩, fun _ _ h' n => ⟨h', fun z => n (h _ z)⟩⟩
theorem RDs.length : ∀ {ds : List D} {vs : List V}, RDs K N α H ds vs → ds.length = vs.length
  | _, _, .nil => rfl
  | _, _, .cons _ t => by rw [List.length_cons, List.length_cons, RDs.length t]
theorem RDs.get : ∀ {ds : List D} {vs : List V} {i : Nat} {d : D}, RDs K N α H ds vs → ds[i]? = some d → ∃ v, vs[i]? = some v ∧ RD K N α H d v
  | _, _, _, _, .nil, e => by simp at e
  | _, _, 0, _, .cons r _, e => by simp at e; subst e; exact ⟨_, rfl, r⟩
  | _, _, i + 1, _, .cons _ t, e => by
    obtain ⟨v, h1, h2⟩ := RDs.get (i := i) t (by simpa using e)
    exact ⟨v, by simpa using h1, h2⟩
theorem RDs.get' : ∀ {ds : List D} {vs : List V} {i : Nat} {v : V}, RDs K N α H ds vs → vs[i]? = some v → ∃ d, ds[i]? = some d ∧ RD K N α H d v
  | _, _, _, _, .nil, e => by simp at e
  | _, _, 0, _, .cons r _, e => by simp at e; subst e; exact ⟨_, rfl, r⟩
  | _, _, i + 1, _, .cons _ t, e => by
    obtain ⟨v, h1, h2⟩ := RDs.get' (i := i) t (by simpa using e)
    exact ⟨v, by simpa using h1, h2⟩
theorem RDs.append : ∀ {ds es : List D} {vs ws : List V}, RDs K N α H ds vs → RDs K N α H es ws → RDs K N α H (ds ++ es) (vs ++ ws)
  | _, _, _, _, .nil, s => s
  | _, _, _, _, .cons r t, s => .cons r (RDs.append t s)
theorem RDs.take : ∀ {ds : List D} {vs : List V} (n : Nat), RDs K N α H ds vs → RDs K N α H (ds.take n) (vs.take n)
  | _, _, 0, _ => .nil
  | _, _, _ + 1, .nil => .nil
  | _, _, n + 1, .cons r t => .cons r (RDs.take n t)
theorem RDs.drop : ∀ {ds : List D} {vs : List V} (n : Nat), RDs K N α H ds vs → RDs K N α H (ds.drop n) (vs.drop n)
  | _, _, 0, r => r
  | _, _, _ + 1, .nil => .nil
  | _, _, n + 1, .cons _ t => RDs.drop n t
theorem RDs.set : ∀ {ds : List D} {vs : List V} {d : D} {v : V} (i : Nat), RD K N α H d v → RDs K N α H ds vs → RDs K N α H (ds.set i d) (vs.set i v)
  | _, _, _, _, _, _, .nil => .nil
  | _, _, _, _, 0, r, .cons _ t => .cons r t
  | _, _, _, _, i + 1, r, .cons q t => .cons q (RDs.set i r t)
theorem RDs.reverse {ds : List D} {vs : List V} (h : RDs K N α H ds vs) : RDs K N α H ds.reverse vs.reverse := by
  induction ds generalizing vs with
  | nil => cases h; exact .nil
  | cons d ds ih =>
    cases h with
    | cons r t =>
      rw [List.reverse_cons, List.reverse_cons]
      exact RDs.append (ih t) (.cons r .nil)
end

/-- what stands at a list's, a dict's address -/
def ROb (K : PySem.W.Frag) (N : Addr → Prop) (α : List Addr) (H : Hp) (a : Addr) : D → HO → Prop
  | .lst ds, .lst vs => RDs K N α H ds vs
  | .dic ds, .dK vs => RKs K N α H ds vs
  | .dit ds, .ext φ => ∃ es, HO.ext φ = ditO Wd.w a es ∧ RNs K N α H ds es
  | _, _ => False
/-- a reading for the moment: the list or dict itself may be one of the frame's own (T bars less than N) -/
def RB (K : PySem.W.Frag) (N T : Addr → Prop) (α : List Addr) (H : Hp) : D → V → Prop
  | .lst ds, v => ∃ a vs, v = .ref a ∧ ((¬ T a ∧ Rd H a (.lst vs)) ∨ KL K a vs) ∧ RDs K N α H ds vs
  | .dic ds, v => ∃ a vs, v = .ref a ∧ ¬ T a ∧ Rd H a (.dK vs) ∧ RKs K N α H ds vs
  | .dit ds, v => ∃ a es, v = .ref a ∧ ¬ T a ∧ H a = some (ditO Wd.w a es) ∧ RNs K N α H ds es
  | d, v => RD K N α H d v
section
variable {K : PySem.W.Frag} {N T N' T' : Addr → Prop} {α α' : List Addr} {H H' : Hp} {a : Addr}
theorem RB.of {d : D} {v : V} (h : RD K N α H d v) (hT : ∀ a, T a → N a) : RB K N T α H d v := by
  cases h with
  | non => exact .non
  | bl b => exact .bl b
  | int i => exact .int i
  | str x => exact .str x
  | tup n h r => exact .tup n h r
  | lst n h r => exact ⟨_, _, rfl, .inl ⟨fun z => n (hT _ z), h⟩, r⟩
  | lstK h r => exact ⟨_, _, rfl, .inr h, r⟩
  | dic n h r => exact ⟨_, _, rfl, fun z => n (hT _ z), h, r⟩
  | dit n h r => exact ⟨_, _, rfl, fun z => n (hT _ z), h, r⟩
  | obj h => exact .obj h
theorem RB.step (s : Stp T α H T' α' H') (t : Stp N α H N' α' H') {d : D} {v : V} (h : RB K N T α H d v) : RB K N' T' α' H' d v := by
  cases d with
  | lst ds =>
    obtain ⟨a, vs, e, h, r⟩ := h
    refine ⟨a, vs, e, ?_, r.step t⟩
    rcases h with ⟨n, h⟩ | h
    · exact .inl ⟨(s.rd n h).2, (s.rd n h).1⟩
    · exact .inr h
  | dic ds =>
    obtain ⟨a, vs, e, n, h, r⟩ := h
    exact ⟨a, vs, e, (s.rd n h).2, (s.rd n h).1, r.step t⟩
  | dit ds =>
    obtain ⟨a, es, e, n, h, r⟩ := h
    exact ⟨a, es, e, (s.keep a _ h n).2, (s.keep a _ h n).1, r.step t⟩
  | non => exact RD.step t h
  | bl b => exact RD.step t h
  | int b => exact RD.step t h
  | str b => exact RD.step t h
  | tup b => exact RD.step t h
  | obj b => exact RD.step t h
theorem RB.lst {ds : List D} {v : V} (h : RB K N T α H (.lst ds) v) : ∃ a vs, v = .ref a ∧ SqL K H a vs ∧ RDs K N α H ds vs := by
  obtain ⟨a, vs, e, h, r⟩ := h
  refine ⟨a, vs, e, ?_, r⟩
  rcases h with ⟨_, h⟩ | h
  · exact .inl h
  · exact h.sq
theorem RB.tup {ds : List D} {v : V} (h : RB K N T α H (.tup ds) v) : ∃ a vs, v = .ref a ∧ ¬ N a ∧ Rd H a (.tup vs) ∧ RDs K N α H ds vs := by
  cases (show RD K N α H (.tup ds) v from h) with
  | tup n h1 r => exact ⟨_, _, rfl, n, h1, r⟩
theorem ROb.step (t : Stp N α H N' α' H') {d : D} {o : HO} (h : ROb K N α H a d o) : ROb K N' α' H' a d o := by
  cases d <;> cases o <;> first | exact RDs.step t h | exact RKs.step t h | exact ⟨h.choose, h.choose_spec.1, RNs.step t h.choose_spec.2⟩ | exact False.elim h
end

/-! ### the state of a frame -/
/-- the call's constants: the addresses barred to it, the heap and the store at its entry -/
structure Cz where
  B : Addr → Prop
  H0 : Hp
  α0 : List Addr
/-- the addresses of the frame's own lists and dicts -/
def LocO (Γ : List Bool) (σ : St) (a : Addr) : Prop := ∃ i : Nat, Γ[i]? = some true ∧ σ[i]? = some (some (.ref a))
def NB (c : Cz) (α : List Addr) : Addr → Prop := fun a => c.B a ∨ a ∈ α
def NN (c : Cz) (Γ : List Bool) (σ : St) (α : List Addr) : Addr → Prop := fun a => NB c α a ∨ LocO Γ σ a

def ObRel (K : PySem.W.Frag) (N : Addr → Prop) (α : List Addr) (H : Hp) : Ob → Addr → Prop
  | .ins C fs, a => ∃ dx fs', H a = some (.ins C dx fs') ∧ fs.map (·.1) = fs'.map (·.1) ∧ RDs K N α H (fs.map (·.2)) (fs'.map (·.2))
  | .lst ds, a => ∃ vs, H a = some (.lst vs) ∧ RDs K N α H ds vs
  | .dic ds, a => ∃ vs, H a = some (.dK vs) ∧ RKs K N α H ds vs
structure StoRel (K : PySem.W.Frag) (N : Addr → Prop) (α : List Addr) (H : Hp) (st : Sto) : Prop where
  len : α.length = st.length
  nd : α.Nodup
  ob : ∀ (n : Nat) ob a, st[n]? = some ob → α[n]? = some a → ObRel K N α H ob a
structure Rel (K : PySem.W.Frag) (c : Cz) (Γ : List Bool) (sl : Sl) (st : Sto) (α : List Addr) (σ : St) (H : Hp) : Prop where
  len : σ.length = sl.length
  val : ∀ (i : Nat) d, sl[i]? = some (some d) → Γ[i]? ≠ some true → ∃ v, σ[i]? = some (some v) ∧ RD K (NN c Γ σ α) α H d v
  own : ∀ (i : Nat), Γ[i]? = some true → ∃ d a o, sl[i]? = some (some d) ∧ σ[i]? = some (some (.ref a)) ∧ H a = some o ∧ ROb K (NN c Γ σ α) α H a d o ∧ c.H0 a = none ∧ ¬ NB c α a
  dist : ∀ (i j : Nat) a, Γ[i]? = some true → Γ[j]? = some true → σ[i]? = some (some (.ref a)) → σ[j]? = some (some (.ref a)) → i = j
  sto : StoRel K (NN c Γ σ α) α H st
  bt : ∀ a, c.B a → H a ≠ none
  αB : ∀ a, a ∈ α → ¬ c.B a
  αn : ∃ t, α = c.α0 ++ t
  αf : ∀ a, a ∈ α → a ∈ c.α0 ∨ c.H0 a = none
  fr : ∀ a o, c.H0 a = some o → a ∉ c.α0 → H a = some o
section
variable {K : PySem.W.Frag} {N N' : Addr → Prop} {c : Cz} {Γ Γ' : List Bool} {sl : Sl} {st : Sto} {α α' : List Addr} {σ : St} {H H' : Hp} {a : Addr}
theorem ObRel.tr {ob : Ob} (h : ObRel K N α H ob a) : H a ≠ none := by
  cases ob with
  | ins C fs => obtain ⟨_, _, h, _⟩ := h; rw [h]; exact fun z => nomatch z
  | lst ds => obtain ⟨_, h, _⟩ := h; rw [h]; exact fun z => nomatch z
  | dic ds => obtain ⟨_, h, _⟩ := h; rw [h]; exact fun z => nomatch z
theorem StoRel.tr (h : StoRel K N α H st) (ha : a ∈ α) : H a ≠ none := by
  obtain ⟨n, hn⟩ := List.mem_iff_getElem?.mp ha
  have hl : n < st.length := by rw [← h.len]; exact (List.getElem?_eq_some_iff.mp hn).1
  exact (h.ob n st[n] a (List.getElem?_eq_getElem hl) hn).tr
theorem Rel.tr (h : Rel K c Γ sl st α σ H) (n : NN c Γ σ α a) : H a ≠ none := by
  rcases n with (n | n) | ⟨i, n, e⟩
  · exact h.bt a n
  · exact h.sto.tr n
  · obtain ⟨d, a', o, _, e', ho, _⟩ := h.own i n
    rw [e] at e'
    cases e'
    rw [ho]
    exact fun z => nomatch z
theorem Rel.fresh (h : Rel K c Γ sl st α σ H) (e : H a = none) : ¬ NN c Γ σ α a := fun n => h.tr n e
theorem Rel.fresh0 (h : Rel K c Γ sl st α σ H) (e : H a = none) : c.H0 a = none := by
  cases q : c.H0 a with
  | none => rfl
  | some o =>
    by_cases m : a ∈ c.α0
    · obtain ⟨t, et⟩ := h.αn
      exact absurd e (h.sto.tr (by rw [et]; exact List.mem_append_left _ m))
    · rw [h.fr a o q m] at e
      cases e
theorem StoRel.step (h : StoRel K N α H st) (t : Stp N α H N' α H') (k : ∀ a, a ∈ α → H' a = H a) : StoRel K N' α H' st := by
  refine ⟨h.len, h.nd, fun n ob a e1 e2 => ?_⟩
  have ha := k a (List.mem_of_getElem? e2)
  have q := h.ob n ob a e1 e2
  cases ob with
  | ins C fs => obtain ⟨dx, fs', h1, h2, h3⟩ := q; exact ⟨dx, fs', ha.trans h1, h2, h3.step t⟩
  | lst ds => obtain ⟨vs, h1, h2⟩ := q; exact ⟨vs, ha.trans h1, h2.step t⟩
  | dic ds => obtain ⟨vs, h1, h2⟩ := q; exact ⟨vs, ha.trans h1, h2.step t⟩
/-- new objects -/
theorem Rel.grow (h : Rel K c Γ sl st α σ H) (g : Same H H') : Rel K c Γ sl st α σ H' := by
  have S : Stp (NN c Γ σ α) α H (NN c Γ σ α) α H' := .grow g
  refine ⟨h.len, fun i d e n => ?_, fun i n => ?_, h.dist, h.sto.step S fun a m => ?_, fun a b => ?_, h.αB, h.αn, h.αf, fun a o e n => g _ _ (h.fr a o e n)⟩
  · obtain ⟨v, h1, h2⟩ := h.val i d e n
    exact ⟨v, h1, h2.step S⟩
  · obtain ⟨d, a, o, h1, h2, h3, h4, h5⟩ := h.own i n
    exact ⟨d, a, o, h1, h2, g _ _ h3, h4.step S, h5⟩
  · cases q : H a with
    | none => exact absurd q (h.sto.tr m)
    | some o => exact g _ _ q
  · cases q : H a with
    | none => exact absurd q (h.bt a b)
    | some o => rw [g _ _ q]; exact fun z => nomatch z
/-- what an expression does to the heap: objects of the store change, all else that stood stands -/
structure Ste (α : List Addr) (H : Hp) (α' : List Addr) (H' : Hp) : Prop where
  pre : ∃ t, α' = α ++ t
  new : ∀ a, a ∈ α' → a ∈ α ∨ H a = none
  keep : ∀ a o, H a = some o → a ∉ α → H' a = some o
theorem Ste.refl : Ste α H α H := ⟨⟨[], by simp⟩, fun _ h => .inl h, fun _ _ h _ => h⟩
theorem Ste.grow (g : Same H H') : Ste α H α H' := ⟨⟨[], by simp⟩, fun _ h => .inl h, fun _ _ h _ => g _ _ h⟩
theorem Ste.trans {α'' : List Addr} {H'' : Hp} (s : Ste α H α' H') (t : Ste α' H' α'' H'') : Ste α H α'' H'' := by
  obtain ⟨x, e⟩ := s.pre
  obtain ⟨y, e'⟩ := t.pre
  have out : ∀ a o, H a = some o → a ∉ α → a ∉ α' := fun a o h n m => (s.new a m).elim n fun z => by rw [h] at z; cases z
  refine ⟨⟨x ++ y, by rw [e', e, List.append_assoc]⟩, fun a m => ?_, fun a o h n => t.keep a o (s.keep a o h n) (out a o h n)⟩
  rcases t.new a m with z | z
  · exact s.new a z
  · by_cases ma : a ∈ α
    · exact .inl ma
    · refine .inr ?_
      cases q : H a with
      | none => rfl
      | some o => rw [s.keep a o q ma] at z; cases z
theorem Ste.nb (s : Ste α H α' H') : Stp (NB c α) α H (NB c α') α' H' :=
  ⟨s.pre, fun a o e n => ⟨s.keep a o e fun z => n (.inr z), fun z => z.elim (fun z => n (.inl z)) fun z => (s.new a z).elim (fun z => n (.inr z)) fun z => by rw [e] at z; cases z⟩⟩
/-- the frame's own, under the callers' bar -/
theorem Stp.toNN (s : Stp (NB c α) α H (NB c α') α' H') : Stp (NN c Γ σ α) α H (NN c Γ σ α') α' H' :=
  ⟨s.pre, fun a o e n => ⟨(s.keep a o e fun z => n (.inl z)).1, fun z => z.elim (fun z => (s.keep a o e fun z => n (.inl z)).2 z) fun z => n (.inr z)⟩⟩
theorem Ste.nn (s : Ste α H α' H') : Stp (NN c Γ σ α) α H (NN c Γ σ α') α' H' := s.nb.toNN
theorem nb_nn {a : Addr} (h : NB c α a) : NN c Γ σ α a := .inl h
end

/-! ### weakest readings -/
def wpE (X : Cx) (e : Expr) : TE := fun σ H Q => ∃ t, PE X e t ∧ t σ H Q
def wpT (X : Cx) (e : Expr) : TT := fun σ H Q => ∃ t, PT X e t ∧ t σ H Q
def wpA (X : Cx) (es : List Expr) : TA := fun σ H Q => ∃ t, PA X es t ∧ t σ H Q
def wpS (X : Cx) (s : Stmt) : TS := fun D σ H => ∃ t, PS X s t ∧ t D σ H
def wpB (X : Cx) (s : List Stmt) : TS := fun D σ H => ∃ t, PSs X s t ∧ t D σ H
def wpI (X : Cx) (tg it : Expr) : TI := fun σ H R => ∃ t, PI X tg it t ∧ t σ H R
def wpO (X : Cx) (e : Option Expr) : TO := fun σ H Q => ∃ t, PO X e t ∧ t σ H Q
def wpG (X : Cx) (tg : Expr) : TG := fun v σ H Q => ∃ t, PG X tg t ∧ t v σ H Q
theorem pe_wp {X : Cx} {e : Expr} : PE X e (wpE X e) := ⟨fun pins s σ H Q I ⟨_, ht, h⟩ => ht.run pins s σ H Q I h⟩
theorem pt_wp {X : Cx} {e : Expr} : PT X e (wpT X e) := ⟨fun pins s σ H Q I ⟨_, ht, h⟩ => ht.run pins s σ H Q I h⟩
theorem pa_wp {X : Cx} {e : List Expr} : PA X e (wpA X e) := ⟨fun pos pins s σ H Q I ⟨_, ht, h⟩ => ht.run pos pins s σ H Q I h⟩
theorem ps_wp {X : Cx} {e : Stmt} : PS X e (wpS X e) := ⟨fun pins s σ H D I ⟨_, ht, h⟩ => ht.run pins s σ H D I h⟩
theorem pss_wp {X : Cx} {e : List Stmt} : PSs X e (wpB X e) := ⟨fun pins s σ H D I ⟨_, ht, h⟩ => ht.run pins s σ H D I h⟩
theorem pi_wp {X : Cx} {tg it : Expr} : PI X tg it (wpI X tg it) := ⟨fun pins s σ H R I ⟨_, ht, h⟩ => ht.run pins s σ H R I h⟩
theorem po_wp {X : Cx} {e : Option Expr} : PO X e (wpO X e) := ⟨fun pins s σ H Q I ⟨_, ht, h⟩ => ht.run pins s σ H Q I h⟩
theorem pg_wp {X : Cx} {tg : Expr} : PG X tg (wpG X tg) := ⟨fun pins s σ H v u Q I r ⟨_, ht, h⟩ => ht.run pins s σ H v u Q I r h⟩

/-! ### judgements: a piece of syntax does what a function on values says -/
abbrev WXc := Value → Option Addr → St → Hp → Prop
def ExRel (K : PySem.W.Frag) (N : Addr → Prop) (α : List Addr) (H : Hp) (x : Ex) (cl : Value) (dd : Option Addr) : Prop :=
  cl = .ref x.cls ∧ ((x.fs = [] ∧ dd = none) ∨ ∃ d fs', dd = some d ∧ ¬ N d ∧ H d = some (.xd fs') ∧ x.fs.map (·.1) = fs'.map (·.1) ∧ RDs K N α H (x.fs.map (·.2)) (fs'.map (·.2)))
def PX (K : PySem.W.Frag) (c : Cz) (Γ : List Bool) (sl : Sl) (σ : St) (W : WXc) (x : Ex) (st : Sto) : Prop :=
  ∀ cl dd α' H', Rel K c Γ sl st α' σ H' → ExRel K (NN c Γ σ α') α' H' x cl dd → W cl dd σ H'
def PQ (K : PySem.W.Frag) (c : Cz) (Γ : List Bool) (sl : Sl) (α : List Addr) (σ : St) (H : Hp) (Q : VK) (d : D) (st : Sto) : Prop :=
  ∀ v α' H', Rel K c Γ sl st α' σ H' → Ste α H α' H' → RD K (NN c Γ σ α') α' H' d v → Q v H'
def PQb (K : PySem.W.Frag) (c : Cz) (Γ : List Bool) (sl : Sl) (α : List Addr) (σ : St) (H : Hp) (Q : VK) (d : D) (st : Sto) : Prop :=
  ∀ v α' H', Rel K c Γ sl st α' σ H' → Ste α H α' H' → RB K (NN c Γ σ α') (NB c α') α' H' d v → Q v H'
/-- .. with p barred too -/
def Cz.add (c : Cz) (p : Addr) : Cz := { c with B := fun a => c.B a ∨ a = p }
/-- a new list or dict that nobody else holds -/
def PQf (K : PySem.W.Frag) (c : Cz) (Γ : List Bool) (sl : Sl) (α : List Addr) (σ : St) (H : Hp) (Q : VK) (d : D) (st : Sto) : Prop :=
  ∀ p o α' H', H p = none → H' p = some o → Rel K (c.add p) Γ sl st α' σ H' → Ste α H α' H' → ROb K (NN (c.add p) Γ σ α') α' H' p d o → Q (.ref p) H'
def SE (X : Cx) (W : WXc) (Γ : List Bool) (e : Expr) (f : FE) : Prop := ∀ c sl st α σ H Q, Rel X.K c Γ sl st α σ H → (f sl st).Sat (PQ X.K c Γ sl α σ H Q) (PX X.K c Γ sl σ W) → wpE X e σ H Q
def SB (X : Cx) (W : WXc) (Γ : List Bool) (e : Expr) (f : FE) : Prop := ∀ c sl st α σ H Q, Rel X.K c Γ sl st α σ H → (f sl st).Sat (PQb X.K c Γ sl α σ H Q) (PX X.K c Γ sl σ W) → wpE X e σ H Q
def SF (X : Cx) (W : WXc) (Γ : List Bool) (e : Expr) (f : FE) : Prop := ∀ c sl st α σ H Q, Rel X.K c Γ sl st α σ H → (f sl st).Sat (PQf X.K c Γ sl α σ H Q) (PX X.K c Γ sl σ W) → wpE X e σ H Q
def ST (X : Cx) (W : WXc) (Γ : List Bool) (e : Expr) (f : FT) : Prop := ∀ c sl st α σ H Q, Rel X.K c Γ sl st α σ H →
  (f sl st).Sat (fun b st' => ∀ α' H', Rel X.K c Γ sl st' α' σ H' → Ste α H α' H' → Q b H') (PX X.K c Γ sl σ W) → wpT X e σ H Q
def SA (X : Cx) (W : WXc) (Γ : List Bool) (es : List Expr) (f : FA) : Prop := ∀ c sl st α σ H Q, Rel X.K c Γ sl st α σ H →
  (f sl st).Sat (fun ds st' => ∀ vs α' H', Rel X.K c Γ sl st' α' σ H' → Ste α H α' H' → RDs X.K (NN c Γ σ α') α' H' ds vs → Q vs H') (PX X.K c Γ sl σ W) → wpA X es σ H Q
inductive RBs (K : PySem.W.Frag) (N T : Addr → Prop) (α : List Addr) (H : Hp) : List D → List V → Prop
  | nil : RBs K N T α H [] []
  | cons {d : D} {ds : List D} {v : V} {vs : List V} : RB K N T α H d v → RBs K N T α H ds vs → RBs K N T α H (d :: ds) (v :: vs)
/-- arguments of a built-in: read for the moment -/
def SAb (X : Cx) (W : WXc) (Γ : List Bool) (es : List Expr) (f : FA) : Prop := ∀ c sl st α σ H Q, Rel X.K c Γ sl st α σ H →
  (f sl st).Sat (fun ds st' => ∀ vs α' H', Rel X.K c Γ sl st' α' σ H' → Ste α H α' H' → RBs X.K (NN c Γ σ α') (NB c α') α' H' ds vs → Q vs H') (PX X.K c Γ sl σ W) → wpA X es σ H Q
def SO (X : Cx) (W : WXc) (Γ : List Bool) (e : Option Expr) (f : FO) : Prop := ∀ c sl st α σ H Q, Rel X.K c Γ sl st α σ H →
  (f sl st).Sat (fun i st' => ∀ α' H', Rel X.K c Γ sl st' α' σ H' → Ste α H α' H' → Q i H') (PX X.K c Γ sl σ W) → wpO X e σ H Q
/-- an iterator yields the items ds, whatever is done the while to objects that T does not bar -/
def Yields (K : PySem.W.Frag) (N T : Addr → Prop) (α : List Addr) (H : Hp) (J : It) (ds : List D) : Prop :=
  ∀ N' T' α' H', Stp T α H T' α' H' → Stp N α H N' α' H' → (∀ a, N' a → H' a ≠ none) →
    (∀ (i : Nat) d, ds[i]? = some d → J.go i H' ∧ ∀ x H'', J.yld i H' x H'' → Same H' H'' ∧ RD K N' α' H'' d x) ∧ ∀ i, ds.length ≤ i → J.stop i H'
/-- b: the list itself may be one of the frame's own (for a comprehension, in which no list is changed) -/
def SI (X : Cx) (W : WXc) (Γ : List Bool) (b : Bool) (tg it : Expr) (f : FA) : Prop := ∀ c sl st α σ H R, Rel X.K c Γ sl st α σ H →
  (f sl st).Sat (fun ds st' => ∀ J α' H', Rel X.K c Γ sl st' α' σ H' → Ste α H α' H' → Yields X.K (NN c Γ σ α') (if b then NB c α' else NN c Γ σ α') α' H' J ds → R J H') (PX X.K c Γ sl σ W) → wpI X tg it σ H R
/-- a target -/
def SG (X : Cx) (tg : Expr) (is : List Nat) (g : D → Sl → Option Sl) : Prop := ∀ c Γ sl st α σ H d v sl' Q, (∀ i ∈ is, Γ[i]? ≠ some true) → Rel X.K c Γ sl st α σ H → RD X.K (NN c Γ σ α) α H d v → g d sl = some sl' →
  (∀ σ' , Rel X.K c Γ sl' st α σ' H → (∀ a, LocO Γ σ' a ↔ LocO Γ σ a) → σ'.length = σ.length → (∀ i, i ∉ is → σ'[i]? = σ[i]?) → Q σ' H) → wpG X tg v σ H Q

def PF (K : PySem.W.Frag) (c : Cz) (Γ : List Bool) (α : List Addr) (σ : St) (H : Hp) (k : St → Hp → Prop) (Γ' : List Bool) (sl' : Sl) (st' : Sto) : Prop :=
  ∀ α' σ' H', Rel K c Γ' sl' st' α' σ' H' → Stp (NN c Γ σ α) α H (NN c Γ' σ' α') α' H' → k σ' H'
/-- what a def hands back: d at v; o: a list or dict that nobody else holds -/
def PR (K : PySem.W.Frag) (c : Cz) (ρ : Bool) (k : VK) (d : D) (st' : Sto) : Prop :=
  (∀ Γ'' sl'' σ'' v α' H', Rel K c Γ'' sl'' st' α' σ'' H' → RD K (NN c Γ'' σ'' α') α' H' d v → (ρ = true → ∀ ds ks, d ≠ .lst ds ∧ d ≠ .dic ks) → k v H') ∧
  (ρ = true → ∀ Γ'' sl'' σ'' p o α' H', c.H0 p = none → H' p = some o → Rel K (c.add p) Γ'' sl'' st' α' σ'' H' → ROb K (NN (c.add p) Γ'' σ'' α') α' H' p d o → k (.ref p) H')
def Fl.Sat (r : Fl) (n : Sl → Sto → Prop) (t : D → Sto → Prop) (b c : Sl → Sto → Prop) (E : Ex → Sl → Sto → Prop) : Prop := match r with
  | .nx l s => n l s
  | .rt d s => t d s
  | .bk l s => b l s
  | .ct l s => c l s
  | .ex e l s => E e l s
  | .no => False
def FQ (K : PySem.W.Frag) (W : WXc) (ρ : Bool) (ΓL : List Bool) (c : Cz) (Γ : List Bool) (α : List Addr) (σ : St) (H : Hp) (D : Ends) (Γ' : List Bool) (r : Fl) : Prop :=
  r.Sat (PF K c Γ α σ H D.nx Γ') (PR K c ρ D.rt) (PF K c Γ α σ H D.bk ΓL) (PF K c Γ α σ H D.ct ΓL) (fun x l s => ∀ Γ'' σ'', PX K c Γ'' l σ'' W x s)
/-- a statement; Γ' are the own lists behind it, ΓL those at a loop's end -/
def SS (X : Cx) (W : WXc) (ρ : Bool) (ΓL Γ : List Bool) (s : Stmt) (f : FS) (Γ' : List Bool) : Prop := ∀ c sl st α σ H D, Rel X.K c Γ sl st α σ H → FQ X.K W ρ ΓL c Γ α σ H D Γ' (f sl st) → wpS X s D σ H
def SSs (X : Cx) (W : WXc) (ρ : Bool) (ΓL Γ : List Bool) (s : List Stmt) (f : FS) (Γ' : List Bool) : Prop := ∀ c sl st α σ H D, Rel X.K c Γ sl st α σ H → FQ X.K W ρ ΓL c Γ α σ H D Γ' (f sl st) → wpB X s D σ H
end Vx

/-! VExp: the rules for expressions, tests, arguments. -/
namespace Vx
open PySem PySem.Spec L2
variable [Wd]
section
variable {X : Cx} {W : WXc} {Γ : List Bool} {e a b : Expr} {es : List Expr} {f fa fb fc : FE} {x : Str} {pos p : Pos}
variable {K : PySem.W.Frag} {N T : Addr → Prop} {α : List Addr} {H : Hp}

theorem same_upd {H : Hp} {p : Addr} {o : HO} (h : H p = none) : Same H (upd H p o) := fun b z e => by rw [upd_ne (ne_of_none e h)]; exact e
theorem ROb.rd {d : D} {o : HO} {p : Addr} (r : ROb K N α H p d o) (h : H p = some o) (n : ¬ N p) : RD K N α H d (.ref p) := by
  cases d <;> cases o <;> first | exact .lst n (.of h) r | exact .dic n (.of h) r | (obtain ⟨es, e, r⟩ := r; exact .dit n (by rw [← e]; exact h) r) | exact False.elim r
theorem nn_less {c : Cz} {σ : St} {p : Addr} : ∀ a, NN c Γ σ α a → NN (c.add p) Γ σ α a := fun a h => h.elim (fun h => h.elim (fun h => .inl (.inl (.inl h))) fun h => .inl (.inr h)) fun h => .inr h
/-- one address less is barred -/
theorem Rel.drop {c : Cz} {sl : Sl} {st : Sto} {σ : St} {p : Addr} (h : Rel K (c.add p) Γ sl st α σ H) : Rel K c Γ sl st α σ H := by
  have S : Stp (NN (c.add p) Γ σ α) α H (NN c Γ σ α) α H := .less nn_less
  refine ⟨h.len, fun i d e n => ?_, fun i n => ?_, h.dist, h.sto.step S fun a m => rfl, fun a b => h.bt a (.inl b), fun a m b => h.αB a m (.inl b), h.αn, h.αf, h.fr⟩
  · obtain ⟨v, h1, h2⟩ := h.val i d e n
    exact ⟨v, h1, h2.step S⟩
  · obtain ⟨d, a, o, h1, h2, h3, h4, h5, h6⟩ := h.own i n
    exact ⟨d, a, o, h1, h2, h3, h4.step S, h5, fun z => h6 (z.elim (fun z => .inl (.inl z)) fun z => .inr z)⟩
/-- a barred address is none of the frame's own -/
theorem Rel.add_ne {c : Cz} {sl : Sl} {st : Sto} {σ : St} {p : Addr} (h : Rel K (c.add p) Γ sl st α σ H) (n : ¬ c.B p) : ¬ NN c Γ σ α p := by
  rintro ((z | z) | ⟨i, z, e⟩)
  · exact n z
  · exact h.αB p z (.inr rfl)
  · obtain ⟨d, a, o, _, e2, _, _, _, h6⟩ := h.own i z
    rw [e] at e2
    cases e2
    exact h6 (.inl (.inr rfl))
/-- a new object, barred -/
theorem Rel.new {c : Cz} {sl : Sl} {st : Sto} {σ : St} {p : Addr} {o : HO} (h : Rel K c Γ sl st α σ H) (hp : H p = none) : Rel K (c.add p) Γ sl st α σ (upd H p o) ∧ Stp (NN c Γ σ α) α H (NN (c.add p) Γ σ α) α (upd H p o) := by
  have S : Stp (NN c Γ σ α) α H (NN (c.add p) Γ σ α) α (upd H p o) := by
    refine ⟨⟨[], by simp⟩, fun a u e n => ?_⟩
    have ne : a ≠ p := ne_of_none e hp
    refine ⟨by rw [upd_ne ne]; exact e, fun z => ?_⟩
    rcases z with (z | z) | z
    · exact z.elim (fun z => n (.inl (.inl z))) ne
    · exact n (.inl (.inr z))
    · exact n (.inr z)
  have nz : ∀ a, H a ≠ none → a ≠ p := fun a h e => h (e ▸ hp)
  refine ⟨⟨h.len, fun i d e n => ?_, fun i n => ?_, h.dist, h.sto.step S fun a m => upd_ne (nz a (h.sto.tr m)), fun a b => ?_, fun a m b => ?_, h.αn, h.αf, fun a u e n => ?_⟩, S⟩
  · obtain ⟨v, h1, h2⟩ := h.val i d e n
    exact ⟨v, h1, h2.step S⟩
  · obtain ⟨d, a, u, h1, h2, h3, h4, h5, h6⟩ := h.own i n
    have ne : a ≠ p := ne_of_none h3 hp
    exact ⟨d, a, u, h1, h2, by rw [upd_ne ne]; exact h3, h4.step S, h5, fun z => z.elim (fun z => z.elim (fun z => h6 (.inl z)) ne) fun z => h6 (.inr z)⟩
  · rcases b with b | b
    · rw [upd_ne (nz a (h.bt a b))]
      exact h.bt a b
    · rw [b, upd_same]
      exact fun z => nomatch z
  · rcases b with b | b
    · exact h.αB a m b
    · exact nz a (h.sto.tr m) b
  · have := h.fr a u e n
    rw [upd_ne (ne_of_none this hp)]
    exact this
theorem PQ.of_f {c : Cz} {sl : Sl} {σ : St} {Q : VK} {d : D} {st : Sto} (R0 : ∀ a, c.B a → H a ≠ none) (h : PQ K c Γ sl α σ H Q d st) : PQf K c Γ sl α σ H Q d st := by
  intro p o α' H' h0 hp R S r
  exact h (.ref p) α' H' R.drop S ((r.step (.less nn_less)).rd hp (R.add_ne fun z => R0 p z h0))
theorem se_sf (h : SF X W Γ e f) : SE X W Γ e f := fun c sl st α σ H Q R q => h c sl st α σ H Q R (q.imp (fun _ _ z => z.of_f R.bt) fun _ _ z => z)
theorem PQb.toPQ {c : Cz} {sl : Sl} {σ : St} {Q : VK} {d : D} {st : Sto} (h : PQb K c Γ sl α σ H Q d st) : PQ K c Γ sl α σ H Q d st :=
  fun v α' H' R S r => h v α' H' R S (RB.of r fun _ z => nb_nn z)
theorem sb_se (h : SE X W Γ e f) : SB X W Γ e f := fun c sl st α σ H Q R q => h c sl st α σ H Q R (q.imp (fun _ _ z => z.toPQ) fun _ _ z => z)
theorem sb_sf (h : SF X W Γ e f) : SB X W Γ e f := sb_se (se_sf h)

/-! ### names, constants -/
theorem mV_sat {i : Nat} {sl : Sl} {st : Sto} {P : D → Sto → Prop} {E : Ex → Sto → Prop} (h : (mV i sl st).Sat P E) : ∃ d, sl[i]? = some (some d) ∧ P d st := by
  unfold mV at h
  split at h
  · rename_i d e
    exact ⟨d, e, h⟩
  · exact False.elim h
theorem se_var (i : Nat) (hΓ : Γ[i]? ≠ some true := by decide) (hN : X.N[i]? = some x := by rfl) (hv : Vis X.env.scope x := by first | exact Or.inl rfl | exact Or.inr (Or.inl rfl) | exact Or.inr (Or.inr rfl))
    (hd : (x == ("__debug__" : Str)) = false := by decide) (hcd : (x == ("__classdict__" : Str)) = false := by decide) : SE X W Γ (.Name x pos) (mV i) := by
  intro c sl st α σ H Q R h
  obtain ⟨d, e, h⟩ := mV_sat h
  obtain ⟨v, e1, r⟩ := R.val i d e hΓ
  exact ⟨tVar i, pe_var hN hv hd hcd, v, e1, h v α H R .refl r⟩
/-- one of the frame's own lists, for the moment -/
theorem sb_own (i : Nat) (hΓ : Γ[i]? = some true := by decide) (hN : X.N[i]? = some x := by rfl) (hv : Vis X.env.scope x := by first | exact Or.inl rfl | exact Or.inr (Or.inl rfl) | exact Or.inr (Or.inr rfl))
    (hd : (x == ("__debug__" : Str)) = false := by decide) (hcd : (x == ("__classdict__" : Str)) = false := by decide) : SB X W Γ (.Name x pos) (mV i) := by
  intro c sl st α σ H Q R h
  obtain ⟨d, e, h⟩ := mV_sat h
  obtain ⟨d', a, o, e0, e1, ho, r, _, n⟩ := R.own i hΓ
  rw [e] at e0
  cases e0
  refine ⟨tVar i, pe_var hN hv hd hcd, .ref a, e1, h (.ref a) α H R .refl ?_⟩
  cases d <;> cases o <;> first | exact ⟨a, _, rfl, .inl ⟨n, .of ho⟩, r⟩ | exact ⟨a, _, rfl, n, .of ho, r⟩ | (obtain ⟨es, e2, r⟩ := r; exact ⟨a, es, rfl, n, by rw [← e2]; exact ho, r⟩) | exact False.elim r
theorem se_k {d : D} {v : V} (hr : ∀ N α H, RD X.K N α H d v) (hp : PE X e (tC v)) : SE X W Γ e (mC d) := fun c sl st α σ H Q R h => ⟨_, hp, h v α H R .refl (hr _ _ _)⟩
theorem se_int {i j} : SE X W Γ (.Constant (.int i) j pos) (mC (.int i)) := se_k (fun _ _ _ => .int i) pe_int
theorem se_bl {i j} : SE X W Γ (.Constant (.bool i) j pos) (mC (.bl i)) := se_k (fun _ _ _ => .bl i) pe_bl
theorem se_non {j} : SE X W Γ (.Constant .none j pos) (mC .non) := se_k (fun _ _ _ => .non) pe_non
theorem se_str {i j} : SE X W Γ (.Constant (.str i) j pos) (mC (.str i)) := se_k (fun _ _ _ => .str i) pe_str
theorem se_globS {z : Str} {t : Tok} (hm : X.mg x = some (.str z t)) (hg : Gl X x := by rfl) (hd : (x == ("__debug__" : Str)) = false := by decide) : SE X W Γ (.Name x pos) (mC (.str z)) := se_k (fun _ _ _ => .str z) (pe_glob hg hm ⟨_, rfl⟩ hd)
theorem se_globI {z : Int} {t : Tok} (hm : X.mg x = some (.int z t)) (hg : Gl X x := by rfl) (hd : (x == ("__debug__" : Str)) = false := by decide) : SE X W Γ (.Name x pos) (mC (.int z)) := se_k (fun _ _ _ => .int z) (pe_glob hg hm ⟨_, rfl⟩ hd)

/-! ### operators -/
def OpD (X : Cx) (fop : Value → Value → Sem Value) (g : D → D → Option D) : Prop := ∃ r : R2, OpR X fop r ∧
  ∀ (N T : Addr → Prop) (α : List Addr) (H : Hp) (x y : D) (vx vy : V) (d : D) (Q : VK), (∀ a, N a → H a ≠ none) → RB X.K N T α H x vx → RB X.K N T α H y vy → g x y = some d →
    (∀ v H', Same H H' → RD X.K N α H' d v → Q v H') → r vx vy H Q
theorem Rel.nn {c : Cz} {sl : Sl} {st : Sto} {σ : St} (R : Rel K c Γ sl st α σ H) : ∀ a, NN c Γ σ α a → H a ≠ none := fun _ n => R.tr n
theorem bin_core {r : R2} {g : D → D → Option D} (hr : ∀ (N T : Addr → Prop) (α : List Addr) (H : Hp) (x y : D) (vx vy : V) (d : D) (Q : VK), (∀ a, N a → H a ≠ none) → RB X.K N T α H x vx → RB X.K N T α H y vy → g x y = some d → (∀ v H', Same H H' → RD X.K N α H' d v → Q v H') → r vx vy H Q)
    (ha : SB X W Γ a fa) (hb : SB X W Γ b fb) {c : Cz} {sl : Sl} {st : Sto} {α : List Addr} {σ : St} {H : Hp} {Q : VK} (R : Rel X.K c Γ sl st α σ H)
    (h : (mBin g fa fb sl st).Sat (PQ X.K c Γ sl α σ H Q) (PX X.K c Γ sl σ W)) : tOp r (wpE X a) (wpE X b) σ H Q := by
  refine ha c sl st α σ H _ R ((Vx.R.sat_bind.mp h).imp (fun x s1 hx vx α1 H1 R1 S1 d1 => ?_) fun _ _ z => z)
  refine hb c sl s1 α1 σ H1 _ R1 ((Vx.R.sat_bind.mp hx).imp (fun y s2 hy vy α2 H2 R2 S2 d2 => ?_) fun _ _ z => z)
  cases eg : g x y with
  | none => rw [eg] at hy; exact False.elim hy
  | some d =>
    rw [eg] at hy
    refine hr _ _ _ _ x y vx vy d Q R2.nn (d1.step S2.nb S2.nn) d2 eg fun v H' G r => ?_
    exact hy v α2 H' (R2.grow G) (S1.trans (S2.trans (.grow G))) r
theorem se_bin {op : Operator} {g : D → D → Option D} (ho : OpD X (binaryOp op) g) (ha : SB X W Γ a fa) (hb : SB X W Γ b fb) : SE X W Γ (.BinOp a op b pos) (mBin g fa fb) := by
  obtain ⟨r, o, hr⟩ := ho
  exact fun c sl st α σ H Q R h => ⟨_, pe_op o pe_wp pe_wp, bin_core hr ha hb R h⟩
theorem se_cmp {op : CmpOp} {g : D → D → Option D} (ho : OpD X (compareOp op) g) (ha : SB X W Γ a fa) (hb : SB X W Γ b fb) (hm : behindInMarks op b = false := by first | exact nobehind _ (by decide) (by decide) | rfl) : SE X W Γ (.Compare a [op] [b] pos) (mBin g fa fb) := by
  obtain ⟨r, o, hr⟩ := ho
  exact fun c sl st α σ H Q R h => ⟨_, pe_cmpR o pe_wp pe_wp hm, bin_core hr ha hb R h⟩
theorem gBl_some {d : D} {k : Bool} (h : gBl d = some k) : d = .bl k := by
  cases d <;> first | (injection h with h; rw [h]) | cases h
theorem rd_bl {k : Bool} {v : V} (h : RD K N α H (.bl k) v) : v = .bl k := by cases h; rfl
theorem st_cmp {op : CmpOp} {g : D → D → Option D} (ho : OpD X (compareOp op) g) (ha : SB X W Γ a fa) (hb : SB X W Γ b fb) (hm : behindInMarks op b = false := by first | exact nobehind _ (by decide) (by decide) | rfl) : ST X W Γ (.Compare a [op] [b] pos) (mT (mBin g fa fb)) := by
  obtain ⟨r, o, hr⟩ := ho
  intro c sl st α σ H Q R h
  refine ⟨_, pt_cmpR o pe_wp pe_wp hm, ?_⟩
  refine bin_core hr ha hb R ((Vx.R.sat_bind.mp h).imp (fun d s1 hd v α1 H1 R1 S1 r1 => ?_) fun _ _ z => z)
  cases eg : gBl d with
  | none => rw [eg] at hd; exact False.elim hd
  | some k =>
    rw [eg] at hd
    have ed := gBl_some eg
    subst ed
    exact ⟨k, rd_bl r1, hd α1 H1 R1 S1⟩
/-- an expression that gives True or False, as a test -/
theorem st_val (ha : SE X W Γ a fa) (he : ∀ whole, isTrue a X.env whole = (do let v ← whole; standAt a.pos; holding [v] (truthy v)) := by intro _; rfl) : ST X W Γ a (mT fa) := by
  intro c sl st α σ H Q R h
  refine ⟨_, pt_val pe_wp he, ?_⟩
  refine ha c sl st α σ H _ R ((Vx.R.sat_bind.mp h).imp (fun d s1 hd v α1 H1 R1 S1 r1 => ?_) fun _ _ z => z)
  cases eg : gBl d with
  | none => rw [eg] at hd; exact False.elim hd
  | some k =>
    rw [eg] at hd
    have ed := gBl_some eg
    subst ed
    exact ⟨k, rd_bl r1, hd α1 H1 R1 S1⟩
theorem chain_core {r r' : R2} {g g' : D → D → Option D} {c' : Expr} (hr : ∀ (N T : Addr → Prop) (α : List Addr) (H : Hp) (x y : D) (vx vy : V) (d : D) (Q : VK), (∀ a, N a → H a ≠ none) → RB X.K N T α H x vx → RB X.K N T α H y vy → g x y = some d → (∀ v H', Same H H' → RD X.K N α H' d v → Q v H') → r vx vy H Q)
    (hr' : ∀ (N T : Addr → Prop) (α : List Addr) (H : Hp) (x y : D) (vx vy : V) (d : D) (Q : VK), (∀ a, N a → H a ≠ none) → RB X.K N T α H x vx → RB X.K N T α H y vy → g' x y = some d → (∀ v H', Same H H' → RD X.K N α H' d v → Q v H') → r' vx vy H Q)
    (ha : SB X W Γ a fa) (hb : SB X W Γ b fb) (hc : SB X W Γ c' fc) {c : Cz} {sl : Sl} {st : Sto} {α : List Addr} {σ : St} {H : Hp} {Q : VK} (R : Rel X.K c Γ sl st α σ H)
    (h : (mChain g g' fa fb fc sl st).Sat (PQ X.K c Γ sl α σ H Q) (PX X.K c Γ sl σ W)) : tChain r r' (wpE X a) (wpE X b) (wpE X c') σ H Q := by
  refine ha c sl st α σ H _ R ((Vx.R.sat_bind.mp h).imp (fun x s1 hx vx α1 H1 R1 S1 d1 => ?_) fun _ _ z => z)
  refine hb c sl s1 α1 σ H1 _ R1 ((Vx.R.sat_bind.mp hx).imp (fun y s2 hy vy α2 H2 R2 S2 d2 => ?_) fun _ _ z => z)
  cases eg : g x y with
  | none => rw [eg] at hy; exact False.elim hy
  | some d =>
    cases eb : gBl d with
    | none => rw [eg] at hy; simp only [Option.bind_some, eb] at hy; exact False.elim hy
    | some k =>
      rw [eg] at hy
      simp only [Option.bind_some, eb, liftO_some, Vx.R.bind_ok] at hy
      have ed := gBl_some eb
      subst ed
      refine hr _ _ _ _ x y vx vy _ _ R2.nn (d1.step S2.nb S2.nn) d2 eg fun v H' G r => ?_
      refine ⟨k, rd_bl r, ?_⟩
      have R3 := R2.grow G
      cases k with
      | false =>
        rw [if_neg Bool.false_ne_true] at hy ⊢
        exact hy (.bl false) α2 H' R3 (S1.trans (S2.trans (.grow G))) (.bl false)
      | true =>
        rw [if_pos rfl] at hy ⊢
        refine hc c sl s2 α2 σ H' _ R3 ((Vx.R.sat_bind.mp hy).imp (fun z s4 hz vz α4 H4 R4 S4 d4 => ?_) fun _ _ z => z)
        cases eg' : g' y z with
        | none => rw [eg'] at hz; exact False.elim hz
        | some d' =>
          rw [eg'] at hz
          have S34 : Ste α2 H2 α4 H4 := (Ste.grow G).trans S4
          refine hr' _ _ _ _ y z vy vz d' Q R4.nn (d2.step S34.nb S34.nn) d4 eg' fun v H5 G5 r5 => ?_
          exact hz v α4 H5 (R4.grow G5) (S1.trans (S2.trans (S34.trans (.grow G5)))) r5
theorem se_chain {op op' : CmpOp} {g g' : D → D → Option D} {c' : Expr} (ho : OpD X (compareOp op) g) (ho' : OpD X (compareOp op') g') (ha : SB X W Γ a fa) (hb : SB X W Γ b fb) (hc : SB X W Γ c' fc) (hm : lastMarks [op, op'] [b, c'] = false := by with_unfolding_all rfl) : SE X W Γ (.Compare a [op, op'] [b, c'] pos) (mChain g g' fa fb fc) := by
  obtain ⟨r, o, hr⟩ := ho
  obtain ⟨r', o', hr'⟩ := ho'
  exact fun c sl st α σ H Q R h => ⟨_, pe_chain o o' pe_wp pe_wp pe_wp hm, chain_core hr hr' ha hb hc R h⟩
theorem st_chain {op op' : CmpOp} {g g' : D → D → Option D} {c' : Expr} (ho : OpD X (compareOp op) g) (ho' : OpD X (compareOp op') g') (ha : SB X W Γ a fa) (hb : SB X W Γ b fb) (hc : SB X W Γ c' fc) (hm : lastMarks [op, op'] [b, c'] = false := by with_unfolding_all rfl) : ST X W Γ (.Compare a [op, op'] [b, c'] pos) (mT (mChain g g' fa fb fc)) := by
  obtain ⟨r, o, hr⟩ := ho
  obtain ⟨r', o', hr'⟩ := ho'
  intro c sl st α σ H Q R h
  refine ⟨_, pt_chain o o' pe_wp pe_wp pe_wp hm, ?_⟩
  refine chain_core hr hr' ha hb hc R ((Vx.R.sat_bind.mp h).imp (fun d s1 hd v α1 H1 R1 S1 r1 => ?_) fun _ _ z => z)
  cases eg : gBl d with
  | none => rw [eg] at hd; exact False.elim hd
  | some k =>
    rw [eg] at hd
    have ed := gBl_some eg
    subst ed
    exact ⟨k, rd_bl r1, hd α1 H1 R1 S1⟩

/-! ### not, and, or -/
theorem st_not {ta : FT} (ha : ST X W Γ a ta) : ST X W Γ (.UnaryOp .Not a pos) (mNot ta) := by
  intro c sl st α σ H Q R h
  refine ⟨_, pt_not pt_wp, ?_⟩
  exact ha c sl st α σ H _ R ((Vx.R.sat_bind.mp h).imp (fun d s1 hd α1 H1 R1 S1 => hd α1 H1 R1 S1) fun _ _ z => z)
def SW (X : Cx) (W : WXc) (Γ : List Bool) (e : Expr) (f : FT) : Prop := ∀ c sl st α σ H Q, Rel X.K c Γ sl st α σ H →
  (f sl st).Sat (fun b st' => ∀ α' H', Rel X.K c Γ sl st' α' σ H' → Ste α H α' H' → Q b H') (PX X.K c Γ sl σ W) → ∃ t, PW X e t ∧ t σ H Q
theorem SW.st {t : FT} (h : SW X W Γ a t) : ST X W Γ a t := fun c sl st α σ H Q R q => by
  obtain ⟨t, h1, h2⟩ := h c sl st α σ H Q R q
  exact ⟨t, h1.pt, h2⟩
def wpW (X : Cx) (e : Expr) : TT := fun σ H Q => ∃ t, PW X e t ∧ t σ H Q
theorem pw_wp : PW X e (wpW X e) := ⟨fun wh pins s σ H Q I ⟨_, ht, h⟩ => ht.run wh pins s σ H Q I h⟩
theorem sw_and1 {ta : FT} (ha : ST X W Γ a ta) : SW X W Γ (.BoolOp .And [a] pos) ta := fun c sl st α σ H Q R h => ⟨_, pw_and1 pt_wp, ha c sl st α σ H Q R h⟩
theorem sw_or1 {ta : FT} (ha : ST X W Γ a ta) : SW X W Γ (.BoolOp .Or [a] pos) ta := fun c sl st α σ H Q R h => ⟨_, pw_or1 pt_wp, ha c sl st α σ H Q R h⟩
theorem sw_and {ta tb : FT} {rest : List Expr} (ha : ST X W Γ a ta) (hb : SW X W Γ (.BoolOp .And (b :: rest) pos) tb) : SW X W Γ (.BoolOp .And (a :: b :: rest) pos) (mAnd ta tb) := by
  intro c sl st α σ H Q R h
  refine ⟨_, pw_and pt_wp pw_wp, ?_⟩
  refine ha c sl st α σ H _ R ((Vx.R.sat_bind.mp h).imp (fun d s1 hd α1 H1 R1 S1 => ?_) fun _ _ z => z)
  cases d with
  | true =>
    rw [if_pos rfl] at hd ⊢
    exact hb c sl s1 α1 σ H1 Q R1 (hd.imp (fun k s2 hk α2 H2 R2 S2 => hk α2 H2 R2 (S1.trans S2)) fun _ _ z => z)
  | false =>
    rw [if_neg Bool.false_ne_true] at hd ⊢
    exact hd α1 H1 R1 S1
theorem sw_or {ta tb : FT} {rest : List Expr} (ha : ST X W Γ a ta) (hb : SW X W Γ (.BoolOp .Or (b :: rest) pos) tb) : SW X W Γ (.BoolOp .Or (a :: b :: rest) pos) (mOr ta tb) := by
  intro c sl st α σ H Q R h
  refine ⟨_, pw_or pt_wp pw_wp, ?_⟩
  refine ha c sl st α σ H _ R ((Vx.R.sat_bind.mp h).imp (fun d s1 hd α1 H1 R1 S1 => ?_) fun _ _ z => z)
  cases d with
  | true =>
    rw [if_pos rfl] at hd ⊢
    exact hd α1 H1 R1 S1
  | false =>
    rw [if_neg Bool.false_ne_true] at hd ⊢
    exact hb c sl s1 α1 σ H1 Q R1 (hd.imp (fun k s2 hk α2 H2 R2 S2 => hk α2 H2 R2 (S1.trans S2)) fun _ _ z => z)
theorem se_one {op} (ha : SE X W Γ a fa) : SE X W Γ (.BoolOp op [a] pos) fa := fun c sl st α σ H Q R h => ⟨_, pe_one pe_wp, ha c sl st α σ H Q R h⟩
theorem se_and {rest : List Expr} (ha : SE X W Γ a fa) (hb : SE X W Γ (.BoolOp .And (b :: rest) pos) fb) : SE X W Γ (.BoolOp .And (a :: b :: rest) pos) (mAndV fa fb) := by
  intro c sl st α σ H Q R h
  refine ⟨_, pe_and pe_wp pe_wp, ?_⟩
  refine ha c sl st α σ H _ R ((Vx.R.sat_bind.mp h).imp (fun d s1 hd v α1 H1 R1 S1 r1 => ?_) fun _ _ z => z)
  cases eg : gBl d with
  | none => rw [eg] at hd; exact False.elim hd
  | some k =>
    rw [eg] at hd
    have ed := gBl_some eg
    subst ed
    refine ⟨k, rd_bl r1, ?_⟩
    have hd : (if k = true then fb sl s1 else .ok (.bl false) s1 : Vx.R D).Sat (PQ X.K c Γ sl α σ H Q) (PX X.K c Γ sl σ W) := hd
    cases k with
    | true =>
      rw [if_pos rfl] at hd ⊢
      exact hb c sl s1 α1 σ H1 Q R1 (hd.imp (fun k s2 hk v α2 H2 R2 S2 => hk v α2 H2 R2 (S1.trans S2)) fun _ _ z => z)
    | false =>
      rw [if_neg Bool.false_ne_true] at hd ⊢
      exact hd _ α1 H1 R1 S1 (.bl false)
theorem se_or {rest : List Expr} (ha : SE X W Γ a fa) (hb : SE X W Γ (.BoolOp .Or (b :: rest) pos) fb) : SE X W Γ (.BoolOp .Or (a :: b :: rest) pos) (mOrV fa fb) := by
  intro c sl st α σ H Q R h
  refine ⟨_, pe_or pe_wp pe_wp, ?_⟩
  refine ha c sl st α σ H _ R ((Vx.R.sat_bind.mp h).imp (fun d s1 hd v α1 H1 R1 S1 r1 => ?_) fun _ _ z => z)
  cases eg : gBl d with
  | none => rw [eg] at hd; exact False.elim hd
  | some k =>
    rw [eg] at hd
    have ed := gBl_some eg
    subst ed
    refine ⟨k, rd_bl r1, ?_⟩
    have hd : (if k = true then .ok (.bl true) s1 else fb sl s1 : Vx.R D).Sat (PQ X.K c Γ sl α σ H Q) (PX X.K c Γ sl σ W) := hd
    cases k with
    | true =>
      rw [if_pos rfl] at hd ⊢
      exact hd _ α1 H1 R1 S1 (.bl true)
    | false =>
      rw [if_neg Bool.false_ne_true] at hd ⊢
      exact hb c sl s1 α1 σ H1 Q R1 (hd.imp (fun k s2 hk v α2 H2 R2 S2 => hk v α2 H2 R2 (S1.trans S2)) fun _ _ z => z)
theorem se_not (ha : SE X W Γ a fa) : SE X W Γ (.UnaryOp .Not a pos) (mUn gNot fa) := by
  intro c sl st α σ H Q R h
  refine ⟨_, pe_not pe_wp, ?_⟩
  refine ha c sl st α σ H _ R ((Vx.R.sat_bind.mp h).imp (fun d s1 hd v α1 H1 R1 S1 r1 => ?_) fun _ _ z => z)
  cases d with
  | bl k => exact ⟨k, rd_bl r1, hd _ α1 H1 R1 S1 (.bl _)⟩
  | _ => exact False.elim hd
theorem se_neg (ha : SE X W Γ a fa) : SE X W Γ (.UnaryOp .USub a pos) (mUn gNeg fa) := by
  intro c sl st α σ H Q R h
  refine ⟨_, pe_un un_neg pe_wp, ?_⟩
  refine ha c sl st α σ H _ R ((Vx.R.sat_bind.mp h).imp (fun d s1 hd v α1 H1 R1 S1 r1 => ?_) fun _ _ z => z)
  cases d with
  | int k => exact ⟨k, by cases r1; rfl, hd _ α1 H1 R1 S1 (.int _)⟩
  | _ => exact False.elim hd

/-! ### arguments, displays -/
theorem sa_nil : SA X W Γ [] mNil := fun c sl st α σ H Q R h => ⟨_, pa_nil, h [] α H R .refl .nil⟩
theorem sa_cons {fr : FA} (ha : SE X W Γ e fa) (hr : SA X W Γ es fr) (hs : starEach (e :: es) X.env = (false, eval e X.env) :: starEach es X.env := by rfl) : SA X W Γ (e :: es) (mCons fa fr) := by
  intro c sl st α σ H Q R h
  refine ⟨_, pa_cons pe_wp pa_wp hs, ?_⟩
  refine ha c sl st α σ H _ R ((Vx.R.sat_bind.mp h).imp (fun d s1 hd v α1 H1 R1 S1 r1 => ?_) fun _ _ z => z)
  refine hr c sl s1 α1 σ H1 _ R1 ((Vx.R.sat_bind.mp hd).imp (fun ds s2 hds vs α2 H2 R2 S2 r2 => ?_) fun _ _ z => z)
  exact hds (v :: vs) α2 H2 R2 (S1.trans S2) (.cons (r1.step S2.nn) r2)
theorem sab_nil : SAb X W Γ [] mNil := fun c sl st α σ H Q R h => ⟨_, pa_nil, h [] α H R .refl .nil⟩
theorem RBs.step {N' T' : Addr → Prop} {α' : List Addr} {H' : Hp} (s : Stp T α H T' α' H') (t : Stp N α H N' α' H') : ∀ {ds : List D} {vs : List V}, RBs K N T α H ds vs → RBs K N' T' α' H' ds vs
  | _, _, .nil => .nil
  | _, _, .cons r q => .cons (r.step s t) (RBs.step s t q)
theorem sab_cons {fr : FA} (ha : SB X W Γ e fa) (hr : SAb X W Γ es fr) (hs : starEach (e :: es) X.env = (false, eval e X.env) :: starEach es X.env := by rfl) : SAb X W Γ (e :: es) (mCons fa fr) := by
  intro c sl st α σ H Q R h
  refine ⟨_, pa_cons pe_wp pa_wp hs, ?_⟩
  refine ha c sl st α σ H _ R ((Vx.R.sat_bind.mp h).imp (fun d s1 hd v α1 H1 R1 S1 r1 => ?_) fun _ _ z => z)
  refine hr c sl s1 α1 σ H1 _ R1 ((Vx.R.sat_bind.mp hd).imp (fun ds s2 hds vs α2 H2 R2 S2 r2 => ?_) fun _ _ z => z)
  exact hds (v :: vs) α2 H2 R2 (S1.trans S2) (.cons (r1.step S2.nb S2.nn) r2)
theorem szOk_le {n : Nat} (h : szOk n = true) : n ≤ sizeLine := by
  rw [sizeLine_eq]
  exact of_decide_eq_true h
theorem se_tup {x1} {fr : FA} (ha : SA X W Γ es fr) : SE X W Γ (.Tuple es x1 pos) (mTup fr) := by
  intro c sl st α σ H Q R h
  refine ⟨_, pe_tup pa_wp, ?_⟩
  refine ha c sl st α σ H _ R ((Vx.R.sat_bind.mp h).imp (fun ds s1 hd vs α1 H1 R1 S1 r1 => ?_) fun _ _ z => z)
  by_cases hz : szOk ds.length = true
  · rw [if_pos hz] at hd
    refine ⟨by rw [← r1.length]; exact szOk_le hz, fun p hp => ?_⟩
    have G : Same H1 (upd H1 p (.tup vs)) := same_upd hp
    exact hd (.ref p) α1 _ (R1.grow G) (S1.trans (.grow G)) (.tup (R1.fresh hp) (.of upd_same) (r1.step (.grow G)))
  · rw [if_neg hz] at hd
    exact False.elim hd
/-- a new list just laid -/
theorem PQf.new {c : Cz} {sl : Sl} {σ : St} {Q : VK} {d : D} {st : Sto} {o : HO} {p : Addr} {α1 : List Addr} {H1 : Hp} (h : PQf K c Γ sl α σ H Q d st) (R0 : Rel K c Γ sl st α1 σ H1) (S : Ste α H α1 H1) (hn : ∀ a, a ∈ α → H a ≠ none) (hp : H1 p = none) (r : ROb K (NN c Γ σ α1) α1 H1 p d o) : Q (.ref p) (upd H1 p o) := by
  obtain ⟨R1, S1⟩ := R0.new (o := o) hp
  refine h p o α1 (upd H1 p o) ?_ upd_same R1 (S.trans (.grow (same_upd hp))) (r.step S1)
  cases q : H p with
  | none => rfl
  | some u =>
    by_cases m : p ∈ α
    · obtain ⟨t, e⟩ := S.pre
      exact absurd hp (R0.sto.tr (by rw [e]; exact List.mem_append_left _ m))
    · rw [S.keep p u q m] at hp
      cases hp
theorem sf_lst {fr : FA} (ha : SA X W Γ es fr) : SF X W Γ (.List es pos) (mLst fr) := by
  intro c sl st α σ H Q R h
  refine ⟨_, pe_lst pa_wp, ?_⟩
  refine ha c sl st α σ H _ R ((Vx.R.sat_bind.mp h).imp (fun ds s1 hd vs α1 H1 R1 S1 r1 => ?_) fun _ _ z => z)
  by_cases hz : szOk ds.length = true
  · rw [if_pos hz] at hd
    exact ⟨by rw [← r1.length]; exact szOk_le hz, fun p hp => hd.new R1 S1 (fun _ m => R.sto.tr m) hp r1⟩
  · rw [if_neg hz] at hd
    exact False.elim hd
theorem sf_dic : SF X W Γ (.Dict [] [] pos) (mC (.dic [])) := fun c sl st α σ H Q R h => ⟨_, pe_dnewK, fun p hp => PQf.new (o := .dK []) h R .refl (fun _ m => R.sto.tr m) hp .nil⟩

/-! ### built-in functions by name -/
def CallD (X : Cx) (v : Value) (g : List D → Option D) : Prop := ∃ r : List V → Hp → VK → Prop, CallR X v r ∧
  ∀ (N T : Addr → Prop) (α : List Addr) (H : Hp) (xs : List D) (vs : List V) (d : D) (Q : VK), (∀ a, N a → H a ≠ none) → RBs X.K N T α H xs vs → g xs = some d →
    (∀ v H', Same H H' → RD X.K N α H' d v → Q v H') → r vs H Q
/-- the same, a new list or dict -/
def CallF (X : Cx) (v : Value) (g : List D → Option D) : Prop := ∃ r : List V → Hp → VK → Prop, CallR X v r ∧
  ∀ (N T : Addr → Prop) (α : List Addr) (H : Hp) (xs : List D) (vs : List V) (d : D) (Q : VK), (∀ a, N a → H a ≠ none) → RBs X.K N T α H xs vs → g xs = some d →
    (∀ p o, H p = none → ROb X.K N α H p d o → Q (.ref p) (upd H p o)) → r vs H Q
theorem call_core {r : List V → Hp → VK → Prop} {g : List D → Option D} {fr : FA} (hr : ∀ (N T : Addr → Prop) (α : List Addr) (H : Hp) (xs : List D) (vs : List V) (d : D) (Q : VK), (∀ a, N a → H a ≠ none) → RBs X.K N T α H xs vs → g xs = some d → (∀ v H', Same H H' → RD X.K N α H' d v → Q v H') → r vs H Q)
    (ha : SAb X W Γ es fr) {c : Cz} {sl : Sl} {st : Sto} {α : List Addr} {σ : St} {H : Hp} {Q : VK} (R : Rel X.K c Γ sl st α σ H) (h : (mArgs g fr sl st).Sat (PQ X.K c Γ sl α σ H Q) (PX X.K c Γ sl σ W)) : tCB r (wpA X es) σ H Q := by
  refine ha c sl st α σ H _ R ((Vx.R.sat_bind.mp h).imp (fun ds s1 hd vs α1 H1 R1 S1 r1 => ?_) fun _ _ z => z)
  cases eg : g ds with
  | none => rw [eg] at hd; exact False.elim hd
  | some d =>
    rw [eg] at hd
    exact hr _ _ _ _ ds vs d Q R1.nn r1 eg fun v H' G r => hd v α1 H' (R1.grow G) (S1.trans (.grow G)) r
theorem callF_core {r : List V → Hp → VK → Prop} {g : List D → Option D} {fr : FA} (hr : ∀ (N T : Addr → Prop) (α : List Addr) (H : Hp) (xs : List D) (vs : List V) (d : D) (Q : VK), (∀ a, N a → H a ≠ none) → RBs X.K N T α H xs vs → g xs = some d → (∀ p o, H p = none → ROb X.K N α H p d o → Q (.ref p) (upd H p o)) → r vs H Q)
    (ha : SAb X W Γ es fr) {c : Cz} {sl : Sl} {st : Sto} {α : List Addr} {σ : St} {H : Hp} {Q : VK} (R : Rel X.K c Γ sl st α σ H) (h : (mArgs g fr sl st).Sat (PQf X.K c Γ sl α σ H Q) (PX X.K c Γ sl σ W)) : tCB r (wpA X es) σ H Q := by
  refine ha c sl st α σ H _ R ((Vx.R.sat_bind.mp h).imp (fun ds s1 hd vs α1 H1 R1 S1 r1 => ?_) fun _ _ z => z)
  cases eg : g ds with
  | none => rw [eg] at hd; exact False.elim hd
  | some d =>
    rw [eg] at hd
    exact hr _ _ _ _ ds vs d Q R1.nn r1 eg fun p o hp r => PQf.new hd R1 S1 (fun _ m => R.sto.tr m) hp r
theorem se_callB {id : String} {g : List D → Option D} {fr : FA} (hc : CallD X (.builtin id) g) (hm : X.mg x = none) (hv : bootBuiltins x = some (.builtin id)) (ha : SAb X W Γ (e :: es) fr) (hg : Gl X x := by rfl) (hn : x ≠ "__name__" := by decide) (hdb : (x == ("__debug__" : Str)) = false := by decide)
    (he : starEach (e :: es) X.env = (false, eval e X.env) :: starEach es X.env := by rfl) (hpl : (backTo pos (starEach es X.env)).any (·.1) = false := by rfl) : SE X W Γ (.Call (.Name x p) (e :: es) [] pos) (mArgs g fr) := by
  obtain ⟨r, o, hr⟩ := hc
  exact fun c sl st α σ H Q R h => ⟨_, pe_callB o hg hm hv pa_wp hn hdb he hpl, call_core hr ha R h⟩
theorem se_callTy {T : String} {g : List D → Option D} {fr : FA} (hc : CallD X (.type T) g) (hm : X.mg x = none) (hv : bootBuiltins x = some (.type T)) (ha : SAb X W Γ (e :: es) fr) (hg : Gl X x := by rfl) (hn : x ≠ "__name__" := by decide) (hdb : (x == ("__debug__" : Str)) = false := by decide)
    (he : starEach (e :: es) X.env = (false, eval e X.env) :: starEach es X.env := by rfl) (hpl : (backTo pos (starEach es X.env)).any (·.1) = false := by rfl) : SE X W Γ (.Call (.Name x p) (e :: es) [] pos) (mArgs g fr) := by
  obtain ⟨r, o, hr⟩ := hc
  exact fun c sl st α σ H Q R h => ⟨_, pe_callTy o hg hm hv pa_wp hn hdb he hpl, call_core hr ha R h⟩
theorem sf_callB {id : String} {g : List D → Option D} {fr : FA} (hc : CallF X (.builtin id) g) (hm : X.mg x = none) (hv : bootBuiltins x = some (.builtin id)) (ha : SAb X W Γ (e :: es) fr) (hg : Gl X x := by rfl) (hn : x ≠ "__name__" := by decide) (hdb : (x == ("__debug__" : Str)) = false := by decide)
    (he : starEach (e :: es) X.env = (false, eval e X.env) :: starEach es X.env := by rfl) (hpl : (backTo pos (starEach es X.env)).any (·.1) = false := by rfl) : SF X W Γ (.Call (.Name x p) (e :: es) [] pos) (mArgs g fr) := by
  obtain ⟨r, o, hr⟩ := hc
  exact fun c sl st α σ H Q R h => ⟨_, pe_callB o hg hm hv pa_wp hn hdb he hpl, callF_core hr ha R h⟩
theorem sf_callTy {T : String} {g : List D → Option D} {fr : FA} (hc : CallF X (.type T) g) (hm : X.mg x = none) (hv : bootBuiltins x = some (.type T)) (ha : SAb X W Γ (e :: es) fr) (hg : Gl X x := by rfl) (hn : x ≠ "__name__" := by decide) (hdb : (x == ("__debug__" : Str)) = false := by decide)
    (he : starEach (e :: es) X.env = (false, eval e X.env) :: starEach es X.env := by rfl) (hpl : (backTo pos (starEach es X.env)).any (·.1) = false := by rfl) : SF X W Γ (.Call (.Name x p) (e :: es) [] pos) (mArgs g fr) := by
  obtain ⟨r, o, hr⟩ := hc
  exact fun c sl st α σ H Q R h => ⟨_, pe_callTy o hg hm hv pa_wp hn hdb he hpl, callF_core hr ha R h⟩
/-- isinstance(x, T), T a built-in class -/
theorem se_isi {T : String} {y : Str} {p p2 : Pos} {a : Expr} (hcl : ∀ (N T' : Addr → Prop) (α : List Addr) (H : Hp) (d : D) (v : V), RB X.K N T' α H d v → (∀ n, d ≠ .obj n) → (∀ k, d ≠ .dic k ∧ d ≠ .dit k) → ∃ t, TyX X.K H v t ∧ PySem.W.kitOne X.K t (.type T) = some (d.isT T))
    (hm : X.mg "isinstance" = none) (hmT : X.mg y = none) (hvT : bootBuiltins y = some (.type T)) (ha : SB X W Γ a fa) (hg : Gl X "isinstance" := by rfl) (hgT : Gl X y := by rfl) (hv : bootBuiltins "isinstance" = some (.builtin "isinstance") := by decide +kernel) (hyn : y ≠ "__name__" := by decide) (hyd : (y == ("__debug__" : Str)) = false := by decide)
    (he : starEach [a, .Name y p2] X.env = (false, eval a X.env) :: starEach [.Name y p2] X.env := by rfl) (he2 : starEach [.Name y p2] X.env = (false, eval (.Name y p2) X.env) :: starEach [] X.env := by rfl) (hpl : (backTo pos (starEach [.Name y p2] X.env)).any (·.1) = false := by rfl) :
    SE X W Γ (.Call (.Name "isinstance" p) [a, .Name y p2] [] pos) (mUn (gIsi T) fa) := by
  intro c sl st α σ H Q R h
  refine ⟨_, pe_callB call_isi hg hm hv (pa_cons (e := a) pe_wp (pa_cons (pe_bltn (v := .ty T) hgT hmT hvT rfl hyn hyd) pa_nil he2) he) (by decide) (by decide) he hpl, ?_⟩
  refine ha c sl st α σ H _ R ((Vx.R.sat_bind.mp h).imp (fun d s1 hd v α1 H1 R1 S1 r1 => ?_) fun _ _ z => z)
  have hno : ∀ n, d ≠ .obj n := fun n q => by subst q; exact False.elim hd
  have hnd : ∀ n, d ≠ .dic n ∧ d ≠ .dit n := fun n => ⟨fun q => by subst q; exact False.elim hd, fun q => by subst q; exact False.elim hd⟩
  obtain ⟨t, ht, hk⟩ := hcl _ _ _ _ d v r1 hno hnd
  refine ⟨v, .ty T, t, .type T, d.isT T, rfl, .ty T, ht, hk, ?_⟩
  have hd' : PQ X.K c Γ sl α σ H Q (.bl (d.isT T)) s1 := by cases d <;> first | exact hd | exact False.elim hd
  exact hd' _ α1 H1 R1 S1 (.bl _)

/-! ### items, slices -/
def IxD (X : Cx) (g : D → D → Option D) : Prop := ∃ r : R2, IxR X r ∧
  ∀ (N T : Addr → Prop) (α : List Addr) (H : Hp) (x y : D) (vx vy : V) (d : D) (Q : VK), (∀ a, N a → H a ≠ none) → RB X.K N T α H x vx → RB X.K N T α H y vy → g x y = some d →
    (∀ v H', Same H H' → RD X.K N α H' d v → Q v H') → r vx vy H Q
theorem se_ix {g : D → D → Option D} (ho : IxD X g) (ha : SB X W Γ a fa) (hb : SB X W Γ b fb) (hs : PlainIx b := by intro _ _; rfl) : SE X W Γ (.Subscript a b pos) (mBin g fa fb) := by
  obtain ⟨r, o, hr⟩ := ho
  exact fun c sl st α σ H Q R h => ⟨_, pe_ix o pe_wp pe_wp hs, bin_core hr ha hb R h⟩
theorem so_none : SO X W Γ none mNoO := fun c sl st α σ H Q R h => ⟨_, po_none, h α H R .refl⟩
theorem so_some (ha : SE X W Γ a fa) : SO X W Γ (some a) (mO fa) := by
  intro c sl st α σ H Q R h
  refine ⟨_, po_some pe_wp, ?_⟩
  refine ha c sl st α σ H _ R ((Vx.R.sat_bind.mp h).imp (fun d s1 hd v α1 H1 R1 S1 r1 => ?_) fun _ _ z => z)
  cases d with
  | int k => exact ⟨k, by cases r1; rfl, hd α1 H1 R1 S1⟩
  | _ => exact False.elim hd
def CutD (X : Cx) (g : D → Option Int → Option Int → Option D) : Prop := ∃ r : V → Option Int → Option Int → Hp → VK → Prop, SlR X r ∧
  ∀ (N T : Addr → Prop) (α : List Addr) (H : Hp) (x : D) (i j : Option Int) (vx : V) (d : D) (Q : VK), (∀ a, N a → H a ≠ none) → RB X.K N T α H x vx → g x i j = some d →
    (∀ v H', Same H H' → RD X.K N α H' d v → Q v H') → r vx i j H Q
def CutF (X : Cx) (g : D → Option Int → Option Int → Option D) : Prop := ∃ r : V → Option Int → Option Int → Hp → VK → Prop, SlR X r ∧
  ∀ (N T : Addr → Prop) (α : List Addr) (H : Hp) (x : D) (i j : Option Int) (vx : V) (d : D) (Q : VK), (∀ a, N a → H a ≠ none) → RB X.K N T α H x vx → g x i j = some d →
    (∀ p o, H p = none → ROb X.K N α H p d o → Q (.ref p) (upd H p o)) → r vx i j H Q
theorem se_cut {lo hi : Option Expr} {p2 : Pos} {fl fh : FO} (ho : CutD X gCut) (ha : SB X W Γ a fa) (hl : SO X W Γ lo fl) (hh : SO X W Γ hi fh) : SE X W Γ (.Subscript a (.Slice lo hi none p2) pos) (mCut fa fl fh) := by
  obtain ⟨r, o, hr⟩ := ho
  intro c sl st α σ H Q R h
  refine ⟨_, pe_slice o pe_wp po_wp po_wp, ?_⟩
  refine ha c sl st α σ H _ R ((Vx.R.sat_bind.mp h).imp (fun d s1 hd v α1 H1 R1 S1 r1 => ?_) fun _ _ z => z)
  refine hl c sl s1 α1 σ H1 _ R1 ((Vx.R.sat_bind.mp hd).imp (fun i s2 hi α2 H2 R2 S2 => ?_) fun _ _ z => z)
  refine hh c sl s2 α2 σ H2 _ R2 ((Vx.R.sat_bind.mp hi).imp (fun j s3 hj α3 H3 R3 S3 => ?_) fun _ _ z => z)
  cases eg : gCut d i j with
  | none => rw [eg] at hj; exact False.elim hj
  | some z =>
    rw [eg] at hj
    have S23 := S2.trans S3
    exact hr _ _ _ _ d i j v z Q R3.nn (r1.step S23.nb S23.nn) eg fun v H' G r => hj v α3 H' (R3.grow G) (S1.trans (S23.trans (.grow G))) r
theorem sf_cut {lo hi : Option Expr} {p2 : Pos} {fl fh : FO} (ho : CutF X gCutL) (ha : SB X W Γ a fa) (hl : SO X W Γ lo fl) (hh : SO X W Γ hi fh) : SF X W Γ (.Subscript a (.Slice lo hi none p2) pos) (mCutL fa fl fh) := by
  obtain ⟨r, o, hr⟩ := ho
  intro c sl st α σ H Q R h
  refine ⟨_, pe_slice o pe_wp po_wp po_wp, ?_⟩
  refine ha c sl st α σ H _ R ((Vx.R.sat_bind.mp h).imp (fun d s1 hd v α1 H1 R1 S1 r1 => ?_) fun _ _ z => z)
  refine hl c sl s1 α1 σ H1 _ R1 ((Vx.R.sat_bind.mp hd).imp (fun i s2 hi α2 H2 R2 S2 => ?_) fun _ _ z => z)
  refine hh c sl s2 α2 σ H2 _ R2 ((Vx.R.sat_bind.mp hi).imp (fun j s3 hj α3 H3 R3 S3 => ?_) fun _ _ z => z)
  cases eg : gCutL d i j with
  | none => rw [eg] at hj; exact False.elim hj
  | some z =>
    rw [eg] at hj
    have S23 := S2.trans S3
    exact hr _ _ _ _ d i j v z Q R3.nn (r1.step S23.nb S23.nn) eg fun p o hp r => PQf.new hj R3 (S1.trans S23) (fun _ m => R.sto.tr m) hp r
end
end Vx

/-! VOps: the operators and built-in functions that the text uses. -/
namespace Vx
open PySem PySem.Spec L2
variable [Wd]
section
variable {X : Cx} {K : PySem.W.Frag} {N T : Addr → Prop} {α : List Addr} {H : Hp}
theorem rb_int {i : Int} {v : V} (h : RB K N T α H (.int i) v) : v = .int i := by cases (show RD K N α H (.int i) v from h); rfl
theorem rb_str {i : Str} {v : V} (h : RB K N T α H (.str i) v) : v = .str i := by cases (show RD K N α H (.str i) v from h); rfl
theorem rb_bl {i : Bool} {v : V} (h : RB K N T α H (.bl i) v) : v = .bl i := by cases (show RD K N α H (.bl i) v from h); rfl
theorem rb_non {v : V} (h : RB K N T α H .non v) : v = .non := by cases (show RD K N α H .non v from h); rfl
theorem ite_some {α : Type} {c : Prop} [Decidable c] {a b : α} (h : (if c then some a else none) = some b) : c ∧ b = a := by
  by_cases hc : c
  · rw [if_pos hc] at h
    exact ⟨hc, (Option.some.inj h).symm⟩
  · rw [if_neg hc] at h
    cases h
theorem OpD.of_I {f : Value → Value → Sem Value} {C : Int → Int → Prop} {k : Int → Int → V} {g : D → D → Option D} (h : OpR X f (rI C k))
    (hg : ∀ x y d, g x y = some d → ∃ i j, x = .int i ∧ y = .int j ∧ C i j ∧ ∀ N α H, RD X.K N α H d (k i j)) : OpD X f g := by
  refine ⟨_, h, fun N T α H x y vx vy d Q _ rx ry e q => ?_⟩
  obtain ⟨i, j, ex, ey, c, r⟩ := hg x y d e
  subst ex ey
  exact ⟨i, j, rb_int rx, rb_int ry, c, q _ H (Same.refl H) (r _ _ _)⟩
theorem OpD.of_I0 {f : Value → Value → Sem Value} {k : Int → Int → V} {g : D → D → Option D} (h : OpR X f (rI0 k))
    (hg : ∀ x y d, g x y = some d → ∃ i j, x = .int i ∧ y = .int j ∧ ∀ N α H, RD X.K N α H d (k i j)) : OpD X f g := by
  refine ⟨_, h, fun N T α H x y vx vy d Q _ rx ry e q => ?_⟩
  obtain ⟨i, j, ex, ey, r⟩ := hg x y d e
  subst ex ey
  exact ⟨i, j, rb_int rx, rb_int ry, q _ H (Same.refl H) (r _ _ _)⟩
theorem opd_sub : OpD X (binaryOp .Sub) gSub := .of_I0 op_sub fun x y d e => by
  unfold gSub at e; split at e
  · cases e; exact ⟨_, _, rfl, rfl, fun _ _ _ => .int _⟩
  · cases e
theorem opd_lt : OpD X (compareOp .Lt) gLt := .of_I0 op_lt fun x y d e => by
  unfold gLt at e; split at e
  · cases e; exact ⟨_, _, rfl, rfl, fun _ _ _ => .bl _⟩
  · cases e
theorem opd_le : OpD X (compareOp .LtE) gLe := .of_I0 op_le fun x y d e => by
  unfold gLe at e; split at e
  · cases e; exact ⟨_, _, rfl, rfl, fun _ _ _ => .bl _⟩
  · cases e
theorem opd_gt : OpD X (compareOp .Gt) gGt := .of_I0 op_gt fun x y d e => by
  unfold gGt at e; split at e
  · cases e; exact ⟨_, _, rfl, rfl, fun _ _ _ => .bl _⟩
  · cases e
theorem opd_ge : OpD X (compareOp .GtE) gGe := .of_I0 op_ge fun x y d e => by
  unfold gGe at e; split at e
  · cases e; exact ⟨_, _, rfl, rfl, fun _ _ _ => .bl _⟩
  · cases e
theorem opd_mul : OpD X (binaryOp .Mult) gMul := .of_I op_mul fun x y d e => by
  unfold gMul at e; split at e
  · obtain ⟨hc, rfl⟩ := ite_some e
    rw [Bool.or_eq_true, decide_eq_true_eq, decide_eq_true_eq] at hc
    exact ⟨_, _, rfl, rfl, by unfold CMul; omega, fun _ _ _ => .int _⟩
  · cases e
theorem opd_div : OpD X (binaryOp .FloorDiv) gDiv := .of_I op_fdiv fun x y d e => by
  unfold gDiv at e; split at e
  · obtain ⟨hc, rfl⟩ := ite_some e
    rw [Bool.and_eq_true, decide_eq_true_eq, decide_eq_true_eq] at hc
    exact ⟨_, _, rfl, rfl, hc, fun _ _ _ => .int _⟩
  · cases e
theorem opd_mod : OpD X (binaryOp .Mod) gMod := .of_I op_mod fun x y d e => by
  unfold gMod at e; split at e
  · obtain ⟨hc, rfl⟩ := ite_some e
    exact ⟨_, _, rfl, rfl, hc, fun _ _ _ => .int _⟩
  · cases e
theorem opd_pow : OpD X (binaryOp .Pow) gPow := .of_I op_pow fun x y d e => by
  unfold gPow at e; split at e
  · obtain ⟨hc, rfl⟩ := ite_some e
    rw [Bool.and_eq_true, Bool.and_eq_true, decide_eq_true_eq, decide_eq_true_eq, decide_eq_true_eq] at hc
    exact ⟨_, _, rfl, rfl, ⟨hc.1.1, hc.1.2, hc.2⟩, fun _ _ _ => .int _⟩
  · cases e
theorem opd_shr : OpD X (binaryOp .RShift) gShr := .of_I op_shr fun x y d e => by
  unfold gShr at e; split at e
  · obtain ⟨hc, rfl⟩ := ite_some e
    exact ⟨_, _, rfl, rfl, hc, fun _ _ _ => .int _⟩
  · cases e
theorem opd_mask : OpD X (binaryOp .BitAnd) gMask := by
  refine ⟨_, op_andM, fun N T α H x y vx vy d Q _ rx ry e q => ?_⟩
  unfold gMask at e; split at e
  · obtain ⟨hc, rfl⟩ := ite_some e
    subst hc
    exact ⟨_, 31, rb_int rx, rb_int ry, q _ H (Same.refl H) (.int _)⟩
  · cases e
/-- xs + ys, both lists as they are read -/
def rCatS (K : PySem.W.Frag) : R2 := fun x y H Q => ∃ l b xs zs, x = .ref l ∧ y = .ref b ∧ SqL K H l xs ∧ SqL K H b zs ∧ xs.length + zs.length ≤ sizeLine ∧ ∀ p, H p = none → Q (.ref p) (upd H p (.lst (xs ++ zs)))
theorem op_catS : OpR X (binaryOp .Add) (rCatS X.K) := by
  intro pins s σ H x y v u Q I rx ry h
  obtain ⟨l, b, xs, zs, rfl, rfl, hH, hB, hz, q⟩ := h
  cases rx
  cases ry
  obtain ⟨its, r, hl, _⟩ := I.list hH
  obtain ⟨its2, r2, hl2, _⟩ := I.list hB
  obtain ⟨⟨cls, dd, data, sl⟩, ho, hc, n, hd⟩ := id hl.isList
  obtain ⟨⟨cls2, dd2, data2, sl2⟩, ho2, hc2, n2, hd2⟩ := id hl2.isList
  simp only at hc hd hc2 hd2
  subst hc hd hc2 hd2
  have h1 := r.length
  have h2 := r2.length
  have e : its.toArray ++ its2.toArray = (its ++ its2).toArray := by simp
  refine PySem.concat_meets ⟨_, ho, rfl⟩ ⟨_, ho2, rfl⟩ PySem.noFill_list_add PySem.seq_list_add PySem.F.slot_list_add PySem.F.entry_list_add (PySem.F.args_list_add_2 _ _) (PyProof.Rows.list_addW l b its.toArray its2.toArray n n2 dd dd2 sl sl2 (by simp only [List.size_toArray]; omega)) ⟨ho, ho2, ?_⟩
  rw [e]
  exact ⟨.ref _, _, I.lnew (t' := s.toks) (r.append r2) (by rw [List.length_append]; omega), rfl, q _ I.fresh⟩
theorem RDs.nil_iff {ds : List D} {vs : List V} (r : RDs K N α H ds vs) : vs = [] ↔ ds = [] := by cases r <;> simp
theorem opd_add : OpD X (binaryOp .Add) gAdd := by
  refine ⟨_, op_add.or (op_add_str.or (op_catA.or op_catS)), fun N T α H x y vx vy d Q hN rx ry e q => ?_⟩
  unfold gAdd at e; split at e
  · cases e
    exact .inl ⟨_, _, rb_int rx, rb_int ry, q _ H (Same.refl H) (.int _)⟩
  · obtain ⟨hc, rfl⟩ := ite_some e
    exact .inr (.inl ⟨_, _, rb_str rx, rb_str ry, szOk_le hc, q _ H (Same.refl H) (.str _)⟩)
  · obtain ⟨hc, rfl⟩ := ite_some e
    obtain ⟨a, vs, rfl, na, ha, ra⟩ := rx.tup
    obtain ⟨b, ws, rfl, nb, hb, rb⟩ := ry.tup
    refine .inr (.inr (.inl ⟨a, b, vs, ws, rfl, rfl, .inl ha, .inl hb, by rw [← ra.length, ← rb.length]; exact szOk_le hc, fun z => ?_, fun z z' => ?_, fun z z' p hp => ?_⟩))
    · refine q _ H (Same.refl H) (.tup nb hb ?_)
      rw [ra.nil_iff.mp z]
      exact rb
    · refine q _ H (Same.refl H) (.tup na ha ?_)
      rw [rb.nil_iff.mp z', List.append_nil]
      exact ra
    · have G : Same H (upd H p (.tup (vs ++ ws))) := same_upd hp
      exact q _ _ G (.tup (fun n => hN p n hp) (.of upd_same) ((ra.append rb).step (.grow G)))
  · obtain ⟨hc, rfl⟩ := ite_some e
    obtain ⟨a, vs, rfl, ha, ra⟩ := rx.lst
    obtain ⟨b, ws, rfl, hb, rb⟩ := ry.lst
    refine .inr (.inr (.inr ⟨a, b, vs, ws, rfl, rfl, ha, hb, by rw [← ra.length, ← rb.length]; exact szOk_le hc, fun p hp => ?_⟩))
    have G : Same H (upd H p (.lst (vs ++ ws))) := same_upd hp
    exact q _ _ G (.lst (fun n => hN p n hp) (.of upd_same) ((ra.append rb).step (.grow G)))
  · cases e

/-! ### == -/
mutual
def D.py : D → PyData
  | .non => .none
  | .bl b => .bool b
  | .int i => .int i
  | .str x => .str x
  | .tup xs => .tuple (D.pys xs)
  | .lst xs => .list (D.pys xs)
  | .dic _ => .none
  | .dit _ => .none
  | .obj _ => .none
def D.pys : List D → List PyData
  | [] => []
  | x :: xs => D.py x :: D.pys xs
end
mutual
theorem D.py_eqv : ∀ x y : D, D.pl x = true → D.pl y = true → PyData.eqv (D.py x) (D.py y) = D.eqv x y
  | .tup xs, .tup ys, hx, hy => by
    unfold D.pl at hx hy
    unfold D.py D.eqv
    simp only [PyData.eqv]
    exact D.pys_eqv xs ys hx hy
  | .lst xs, .lst ys, hx, hy => by
    unfold D.pl at hx hy
    unfold D.py D.eqv
    simp only [PyData.eqv]
    exact D.pys_eqv xs ys hx hy
  | .dic _, _, hx, _ => by unfold D.pl at hx; cases hx
  | .dit _, _, hx, _ => by unfold D.pl at hx; cases hx
  | .obj _, _, hx, _ => by unfold D.pl at hx; cases hx
  | _, .dic _, _, hy => by unfold D.pl at hy; cases hy
  | _, .dit _, _, hy => by unfold D.pl at hy; cases hy
  | _, .obj _, _, hy => by unfold D.pl at hy; cases hy
  | .non, .non, _, _ | .non, .bl _, _, _ | .non, .int _, _, _ | .non, .str _, _, _ | .non, .tup _, _, _ | .non, .lst _, _, _ => by simp only [D.py, D.eqv, PyData.eqv]
  | .bl _, .non, _, _ | .bl _, .bl _, _, _ | .bl _, .int _, _, _ | .bl _, .str _, _, _ | .bl _, .tup _, _, _ | .bl _, .lst _, _, _ => by simp only [D.py, D.eqv, PyData.eqv]
  | .int _, .non, _, _ | .int _, .bl _, _, _ | .int _, .int _, _, _ | .int _, .str _, _, _ | .int _, .tup _, _, _ | .int _, .lst _, _, _ => by simp only [D.py, D.eqv, PyData.eqv]
  | .str _, .non, _, _ | .str _, .bl _, _, _ | .str _, .int _, _, _ | .str _, .str _, _, _ | .str _, .tup _, _, _ | .str _, .lst _, _, _ => by simp only [D.py, D.eqv, PyData.eqv]
  | .tup _, .non, _, _ | .tup _, .bl _, _, _ | .tup _, .int _, _, _ | .tup _, .str _, _, _ | .tup _, .lst _, _, _ => by simp only [D.py, D.eqv, PyData.eqv]
  | .lst _, .non, _, _ | .lst _, .bl _, _, _ | .lst _, .int _, _, _ | .lst _, .str _, _, _ | .lst _, .tup _, _, _ => by simp only [D.py, D.eqv, PyData.eqv]
theorem D.pys_eqv : ∀ x y : List D, D.plAll x = true → D.plAll y = true → PyData.eqvAll (D.pys x) (D.pys y) = D.eqvAll x y
  | [], [], _, _ => by simp only [D.pys, D.eqvAll, PyData.eqvAll]
  | [], _ :: _, _, _ => by simp only [D.pys, D.eqvAll, PyData.eqvAll]
  | _ :: _, [], _, _ => by simp only [D.pys, D.eqvAll, PyData.eqvAll]
  | x :: xs, y :: ys, hx, hy => by
    unfold D.plAll at hx hy
    rw [Bool.and_eq_true] at hx hy
    simp only [D.pys, D.eqvAll, PyData.eqvAll]
    rw [D.py_eqv x y hx.1 hy.1, D.pys_eqv xs ys hx.2 hy.2]
end
mutual
theorem D.py_lay : ∀ x : D, D.pl x = true → PyData.canLay0 (D.py x) = true
  | .non, _ | .bl _, _ | .int _, _ => by simp only [D.py, PyData.canLay0]
  | .str x, h => by
    unfold D.pl at h
    simp only [D.py, PyData.canLay0]
    exact Array.all_eq_true.mpr fun i hi => by
      have := Array.all_eq_true.mp h i hi
      rw [decide_eq_true_eq] at this ⊢
      omega
  | .tup xs, h => by
    unfold D.pl at h
    simp only [D.py, PyData.canLay0]
    exact D.pys_lay xs h
  | .lst xs, h => by
    unfold D.pl at h
    simp only [D.py, PyData.canLay0]
    exact D.pys_lay xs h
  | .dic _, h => by unfold D.pl at h; cases h
  | .obj _, h => by unfold D.pl at h; cases h
theorem D.pys_lay : ∀ x : List D, D.plAll x = true → PyData.canLayAll0 (D.pys x) = true
  | [], _ => by simp only [D.pys, PyData.canLayAll0]
  | x :: xs, h => by
    unfold D.plAll at h
    rw [Bool.and_eq_true] at h
    simp only [D.pys, PyData.canLayAll0, Bool.and_eq_true]
    exact ⟨D.py_lay x h.1, D.pys_lay xs h.2⟩
end
mutual
theorem D.py_dep : ∀ x : D, PyData.depth (D.py x) ≤ D.dep x
  | .non | .bl _ | .int _ | .str _ | .dic _ | .dit _ | .obj _ => by simp only [D.py, PyData.depth, D.dep, Nat.le_refl]
  | .tup xs => by
    have := D.pys_dep xs
    simp only [D.py, PyData.depth, D.dep]
    omega
  | .lst xs => by
    have := D.pys_dep xs
    simp only [D.py, PyData.depth, D.dep]
    omega
theorem D.pys_dep : ∀ x : List D, PyData.depthAll (D.pys x) ≤ D.depAll x
  | [] => by simp only [D.pys, PyData.depthAll, D.depAll, Nat.le_refl]
  | x :: xs => by
    have h1 := D.py_dep x
    have h2 := D.pys_dep xs
    simp only [D.pys, PyData.depthAll, D.depAll]
    omega
end
theorem D.py_shaped {x : D} (h : D.shp x = true) : SeqAt.shaped (D.py x) = true := by
  unfold D.shp at h
  rw [Bool.and_eq_true, decide_eq_true_eq] at h
  have hd := D.py_dep x
  show (PyData.canLay0 (D.py x) && decide (PyData.depth (D.py x) ≤ 64)) = true
  rw [Bool.and_eq_true, decide_eq_true_eq]
  exact ⟨D.py_lay x h.1, by omega⟩
theorem sqL_of {a : Addr} {vs : List V} (h : Rd H a (.lst vs)) : SqL K H a vs := .inl h
theorem sqT_of {a : Addr} {vs : List V} (h : Rd H a (.tup vs)) : SqT K H a vs := .inl h
mutual
theorem RD.dp : ∀ {d : D} {v : V}, RD K N α H d v → D.pl d = true → Dp K H v (D.py d)
  | _, _, .non, _ => by unfold D.py; exact .non
  | _, _, .bl b, _ => by unfold D.py; exact .bl b
  | _, _, .int i, _ => by unfold D.py; exact .int i
  | _, _, .str x, _ => by unfold D.py; exact .str x
  | _, _, .tup _ h r, p => by
    unfold D.pl at p
    unfold D.py
    exact .tup (sqT_of h) (RDs.dp r p)
  | _, _, .lst _ h r, p => by
    unfold D.pl at p
    unfold D.py
    exact .lst (sqL_of h) (RDs.dp r p)
  | _, _, .lstK h r, p => by
    unfold D.pl at p
    unfold D.py
    exact .lst h.sq (RDs.dp r p)
  | _, _, .dic _ _ _, p => by unfold D.pl at p; cases p
  | _, _, .dit _ _ _, p => by unfold D.pl at p; cases p
  | _, _, .obj _, p => by unfold D.pl at p; cases p
theorem RDs.dp : ∀ {d : List D} {v : List V}, RDs K N α H d v → D.plAll d = true → DpAll K H v (D.pys d)
  | _, _, .nil, _ => by unfold D.pys; exact .nil
  | _, _, .cons r t, p => by
    unfold D.plAll at p
    rw [Bool.and_eq_true] at p
    unfold D.pys
    exact .cons (RD.dp r p.1) (RDs.dp t p.2)
end
theorem RB.dp {d : D} {v : V} (h : RB K N T α H d v) (p : D.pl d = true) : Dp K H v (D.py d) := by
  cases d with
  | lst ds =>
    obtain ⟨a, vs, rfl, hs, r⟩ := h.lst
    unfold D.pl at p
    unfold D.py
    exact .lst hs (r.dp p)
  | dic ds => unfold D.pl at p; cases p
  | non => exact RD.dp h p
  | bl b => exact RD.dp h p
  | int b => exact RD.dp h p
  | str b => exact RD.dp h p
  | tup b => exact RD.dp h p
  | dit b => unfold D.pl at p; cases p
  | obj b => unfold D.pl at p; cases p
theorem shp_pl {x : D} (h : D.shp x = true) : D.pl x = true := by
  unfold D.shp at h
  rw [Bool.and_eq_true] at h
  exact h.1
/-- flat values, as the layer compares them -/
theorem flat_eqv {x y : D} {vx vy : V} (hx : D.flat x = true) (hy : D.flat y = true) (rx : RB K N T α H x vx) (ry : RB K N T α H y vy) : flatV vx = true ∧ flatV vy = true ∧ eqV vx vy = D.eqv x y := by
  cases x <;> first | (cases (show D.flat _ = true from hx)) | skip
  all_goals (cases y <;> first | (cases (show D.flat _ = true from hy)) | skip)
  all_goals (cases (show RD K N α H _ vx from rx); cases (show RD K N α H _ vy from ry); refine ⟨rfl, rfl, ?_⟩; simp only [eqV, D.eqv])

/-! ### the rules of ==, in, is -/
theorem eqOk_cases {x y : D} (h : D.eqOk x y = true) : (∃ a b, x = .str a ∧ y = .str b) ∨ (D.shp x = true ∧ D.shp y = true) := by
  unfold D.eqOk at h
  rw [Bool.or_eq_true, Bool.and_eq_true, Bool.and_eq_true] at h
  rcases h with ⟨h1, h2⟩ | h
  · cases x <;> first | (cases (show D.isStr _ = true from h1)) | skip
    cases y <;> first | (cases (show D.isStr _ = true from h2)) | skip
    exact .inl ⟨_, _, rfl, rfl⟩
  · exact .inr h
theorem opd_eq (hu : X.A.units + 64 < cLine) : OpD X (compareOp .Eq) gEq := by
  refine ⟨_, op_eq.or (op_eqD hu), fun N T α H x y vx vy d Q hN rx ry e q => ?_⟩
  obtain ⟨hc, rfl⟩ := ite_some (show (if D.eqOk x y = true then some (D.bl (D.eqv x y)) else none) = some d from e)
  rcases eqOk_cases hc with ⟨a, b, rfl, rfl⟩ | ⟨hx, hy⟩
  · rw [rb_str rx, rb_str ry]
    refine .inl ⟨rfl, ?_⟩
    have e1 : decide (V.str a = V.str b) = D.eqv (.str a) (.str b) := by rw [dec_str]; simp only [D.eqv]
    exact q _ H (Same.refl H) (by rw [e1]; exact .bl _)
  · exact .inr ⟨_, _, rx.dp (shp_pl hx), ry.dp (shp_pl hy), D.py_shaped hx, D.py_shaped hy, q _ H (Same.refl H) (by rw [D.py_eqv x y (shp_pl hx) (shp_pl hy)]; exact .bl _)⟩
theorem opd_ne (hu : X.A.units + 64 < cLine) : OpD X (compareOp .NotEq) gNe := by
  refine ⟨_, op_ne.or (op_neD hu), fun N T α H x y vx vy d Q hN rx ry e q => ?_⟩
  obtain ⟨hc, rfl⟩ := ite_some (show (if D.eqOk x y = true then some (D.bl (!D.eqv x y)) else none) = some d from e)
  rcases eqOk_cases hc with ⟨a, b, rfl, rfl⟩ | ⟨hx, hy⟩
  · rw [rb_str rx, rb_str ry]
    refine .inl ⟨rfl, ?_⟩
    have e1 : decide (V.str a = V.str b) = D.eqv (.str a) (.str b) := by rw [dec_str]; simp only [D.eqv]
    exact q _ H (Same.refl H) (by rw [e1]; exact .bl _)
  · exact .inr ⟨_, _, rx.dp (shp_pl hx), ry.dp (shp_pl hy), D.py_shaped hx, D.py_shaped hy, q _ H (Same.refl H) (by rw [D.py_eqv x y (shp_pl hx) (shp_pl hy)]; exact .bl _)⟩
theorem flat_v {x : D} {vx : V} (hx : D.flat x = true) (rx : RB K N T α H x vx) : flatV vx = true := by
  cases x <;> first | (cases (show D.flat _ = true from hx)) | skip
  all_goals (cases (show RD K N α H _ vx from rx); rfl)
theorem flat_e1 {x y : D} {vx vy : V} (hx : D.flat x = true) (hy : D.flat y = true) (rx : RD K N α H x vx) (ry : RB K N T α H y vy) : eqV vx vy = D.eqv x y := by
  refine (flat_eqv (N := N) (T := T) (α := α) (H := H) (K := K) hx hy ?_ ry).2.2
  cases x <;> first | exact rx | (cases (show D.flat _ = true from hx))
theorem any_flat {x : D} {vx : V} (hx : D.flat x = true) (rx : RB K N T α H x vx) : ∀ {ys : List D} {vs : List V}, RDs K N α H ys vs → ys.all D.flat = true → vs.all flatV = true ∧ inV vx vs = ys.any fun y => D.eqv y x
  | _, _, .nil, _ => ⟨rfl, rfl⟩
  | _, _, .cons r t, h => by
    rw [List.all_cons, Bool.and_eq_true] at h
    obtain ⟨h1, h2⟩ := any_flat hx rx t h.2
    refine ⟨?_, ?_⟩
    · rw [List.all_cons, h1, Bool.and_true]
      exact flat_v (T := T) h.1 (by rename_i d _ _ _; cases d <;> first | exact r | (cases (show D.flat _ = true from h.1)))
    · unfold inV at h2 ⊢
      rw [List.any_cons, List.any_cons, h2, flat_e1 h.1 hx r rx]
theorem any_py {x : D} (hx : D.pl x = true) : ∀ {ys : List D}, D.plAll ys = true → ((D.pys ys).any fun z => PyData.eqv z (D.py x)) = ys.any fun y => D.eqv y x
  | [], _ => by unfold D.pys; rfl
  | y :: ys, h => by
    unfold D.plAll at h
    rw [Bool.and_eq_true] at h
    unfold D.pys
    rw [List.any_cons, List.any_cons, any_py hx h.2, D.py_eqv y x h.1 hx]
theorem shp_lst {ys : List D} (h : D.shp (.lst ys) = true) : D.plAll ys = true := by
  have := shp_pl h
  unfold D.pl at this
  exact this
theorem opd_in (hu : X.A.units + 65 < cLine) : OpD X (compareOp .In) gIn := by
  refine ⟨_, op_in_seq.or ((op_inD hu).or op_in_sign), fun N T α H x y vx vy d Q hN rx ry e q => ?_⟩
  unfold gIn at e; split at e
  · rename_i ys
    obtain ⟨hc, rfl⟩ := ite_some e
    obtain ⟨a, vs, rfl, hs, r⟩ := ry.lst
    rw [Bool.or_eq_true, Bool.and_eq_true, Bool.and_eq_true] at hc
    rcases hc with ⟨h1, h2⟩ | ⟨h1, h2⟩
    · obtain ⟨f1, f2⟩ := any_flat h1 rx r h2
      refine .inl ⟨a, vs, rfl, .inl hs, flat_v h1 rx, f1, ?_⟩
      rw [if_neg Bool.false_ne_true, f2]
      exact q _ H (Same.refl H) (.bl _)
    · refine .inr (.inl ⟨_, _, rx.dp (shp_pl h1), .lst hs (r.dp (shp_lst h2)), D.py_shaped h1, ?_, ?_⟩)
      · have := D.py_shaped h2
        unfold D.py at this
        exact this
      · rw [any_py (shp_pl h1) (shp_lst h2)]
        exact q _ H (Same.refl H) (.bl _)
  · obtain ⟨hc, rfl⟩ := ite_some e
    obtain ⟨a, vs, rfl, _, hs, r⟩ := ry.tup
    rw [Bool.and_eq_true] at hc
    obtain ⟨f1, f2⟩ := any_flat hc.1 rx r hc.2
    refine .inl ⟨a, vs, rfl, .inr (sqT_of hs), flat_v hc.1 rx, f1, ?_⟩
    rw [if_neg Bool.false_ne_true, f2]
    exact q _ H (Same.refl H) (.bl _)
  · rename_i a b
    split at e
    · rename_i c ec
      cases e
      refine .inr (.inr ⟨c, b, ?_, rb_str ry, q _ H (Same.refl H) (.bl _)⟩)
      rw [rb_str rx]
      obtain ⟨ca⟩ := a
      have : ca = #[c] := by
        apply Array.ext'
        exact ec
      rw [this]
    · cases e
  · cases e
theorem opd_notIn (hu : X.A.units + 65 < cLine) : OpD X (compareOp .NotIn) gNotIn := by
  refine ⟨_, op_notIn_seq.or ((op_notInD hu).or op_notIn_sign), fun N T α H x y vx vy d Q hN rx ry e q => ?_⟩
  unfold gNotIn gIn at e; split at e
  · rename_i ys
    split at e
    · rename_i hc
      cases e
      obtain ⟨a, vs, rfl, hs, r⟩ := ry.lst
      rw [Bool.or_eq_true, Bool.and_eq_true, Bool.and_eq_true] at hc
      rcases hc with ⟨h1, h2⟩ | ⟨h1, h2⟩
      · obtain ⟨f1, f2⟩ := any_flat h1 rx r h2
        refine .inl ⟨a, vs, rfl, .inl hs, flat_v h1 rx, f1, ?_⟩
        rw [if_pos rfl, f2]
        exact q _ H (Same.refl H) (.bl _)
      · refine .inr (.inl ⟨_, _, rx.dp (shp_pl h1), .lst hs (r.dp (shp_lst h2)), D.py_shaped h1, ?_, ?_⟩)
        · have := D.py_shaped h2
          unfold D.py at this
          exact this
        · rw [any_py (shp_pl h1) (shp_lst h2)]
          exact q _ H (Same.refl H) (.bl _)
    · cases e
  · split at e
    · rename_i hc
      cases e
      obtain ⟨a, vs, rfl, _, hs, r⟩ := ry.tup
      rw [Bool.and_eq_true] at hc
      obtain ⟨f1, f2⟩ := any_flat hc.1 rx r hc.2
      refine .inl ⟨a, vs, rfl, .inr (sqT_of hs), flat_v hc.1 rx, f1, ?_⟩
      rw [if_pos rfl, f2]
      exact q _ H (Same.refl H) (.bl _)
    · cases e
  · rename_i a b
    split at e
    · rename_i c ec
      cases e
      refine .inr (.inr ⟨c, b, ?_, rb_str ry, q _ H (Same.refl H) (.bl _)⟩)
      rw [rb_str rx]
      obtain ⟨ca⟩ := a
      have : ca = #[c] := by
        apply Array.ext'
        exact ec
      rw [this]
    · cases e
  · cases e
theorem non_v {x : D} {vx : V} (rx : RB K N T α H x vx) : decide (vx = .non) = x.isNon := by
  cases x with
  | lst ds => obtain ⟨a, vs, rfl, _⟩ := rx; rfl
  | dic ds => obtain ⟨a, vs, rfl, _⟩ := rx; rfl
  | dit ds => obtain ⟨a, vs, rfl, _⟩ := rx; rfl
  | _ => first | (cases (show RD K N α H _ vx from rx); rfl)
theorem opd_is : OpD X (compareOp .Is) gIs := by
  refine ⟨_, op_isN.or op_isBl, fun N T α H x y vx vy d Q hN rx ry e q => ?_⟩
  unfold gIs at e; split at e
  · cases e
    refine .inl ⟨rb_non ry, q _ H (Same.refl H) ?_⟩
    rw [non_v rx]
    exact .bl _
  · cases e
    refine .inr ⟨_, _, rb_bl rx, rb_bl ry, q _ H (Same.refl H) ?_⟩
    rw [← Bool.beq_eq_decide_eq]
    exact .bl _
  · cases e
theorem opd_isNot : OpD X (compareOp .IsNot) gIsNot := by
  refine ⟨_, op_notN.or op_notBl, fun N T α H x y vx vy d Q hN rx ry e q => ?_⟩
  unfold gIsNot at e; split at e
  · cases e
    refine .inl ⟨rb_non ry, q _ H (Same.refl H) ?_⟩
    rw [non_v rx]
    exact .bl _
  · cases e
    refine .inr ⟨_, _, rb_bl rx, rb_bl ry, q _ H (Same.refl H) ?_⟩
    rw [← Bool.beq_eq_decide_eq]
    exact .bl _
  · cases e

/-! ### items, slices -/
theorem ixI_eq {n : Nat} {i : Int} : ixI n i = ixN n i := rfl
theorem RDs.at_ {ds : List D} {vs : List V} {i : Int} {d : D} (r : RDs K N α H ds vs) (h : ((ixI ds.length i).bind fun j => ds[j]?) = some d) : ∃ v, atI vs i = some v ∧ RD K N α H d v := by
  cases e : ixI ds.length i with
  | none => rw [e] at h; cases h
  | some j =>
    rw [e] at h
    obtain ⟨v, h1, h2⟩ := r.get (i := j) h
    refine ⟨v, ?_, h2⟩
    unfold atI
    rw [← r.length, ← ixI_eq, e]
    exact h1
theorem ixd : IxD X gIx := by
  refine ⟨_, ix_seq, fun N T α H x y vx vy d Q hN rx ry e q => ?_⟩
  unfold gIx at e; split at e
  · obtain ⟨a, vs, rfl, hs, r⟩ := rx.lst
    obtain ⟨v, h1, h2⟩ := r.at_ e
    exact .inl ⟨a, vs, _, v, rfl, rb_int ry, hs, h1, q _ H (Same.refl H) h2⟩
  · obtain ⟨a, vs, rfl, _, hs, r⟩ := rx.tup
    obtain ⟨v, h1, h2⟩ := r.at_ e
    exact .inr (.inl ⟨a, vs, _, v, rfl, rb_int ry, (sqT_of hs), h1, q _ H (Same.refl H) h2⟩)
  · rename_i x i
    by_cases hz : szOk x.length = true
    · rw [if_pos hz] at e
      cases e1 : ixI x.length i with
      | none => rw [e1] at e; cases e
      | some j =>
        rw [e1] at e
        cases e2 : x.cps[j]? with
        | none => simp only [Option.bind_some, e2] at e; cases e
        | some c =>
          simp only [Option.bind_some, e2] at e
          cases e
          refine .inr (.inr ⟨x, i, c, rb_str rx, rb_int ry, szOk_le hz, ?_, q _ H (Same.refl H) (.str _)⟩)
          unfold atI
          rw [show x.cps.toList.length = x.length from Array.length_toList, ← ixI_eq, e1]
          simpa using e2
    · rw [if_neg hz] at e
      cases e
  · cases e
theorem sIx_eq {n d : Nat} {o : Option Int} : sIx n d o = HT.sIx n d o := by
  cases o with
  | none => rfl
  | some v =>
    show (if v < 0 then (v + n).toNat else min v.toNat n) = HT.sIx n d (some v)
    by_cases h : v < 0
    · rw [if_pos h]
      have := HT.clip_eq v n d
      rw [if_pos h] at this
      omega
    · rw [if_neg h]
      have := HT.clip_eq v n d
      rw [if_neg h] at this
      omega
theorem RDs.cut {ds : List D} {vs : List V} (r : RDs K N α H ds vs) (i j : Option Int) : RDs K N α H (cutD ds i j) (cutV vs i j) := by
  unfold cutD cutV
  rw [sIx_eq, sIx_eq, r.length]
  exact (r.drop _).take _
theorem cut_whole {ds : List D} {i j : Option Int} (h : HT.sIx ds.length 0 i = 0 ∧ HT.sIx ds.length ds.length j = ds.length) : cutD ds i j = ds := by
  unfold cutD
  rw [sIx_eq, sIx_eq, h.1, h.2]
  simp
theorem cutd : CutD X gCut := by
  refine ⟨_, sl_list.or (sl_tupA.or sl_str), fun N T α H x i j vx d Q hN rx e q => ?_⟩
  unfold gCut at e; split at e
  · cases e
    obtain ⟨a, vs, rfl, hs, r⟩ := rx.lst
    refine .inl ⟨a, vs, rfl, hs, fun p hp => ?_⟩
    have G : Same H (upd H p (.lst (cutV vs i j))) := same_upd hp
    exact q _ _ G (.lst (fun n => hN p n hp) (.of upd_same) ((r.cut _ _).step (.grow G)))
  · cases e
    obtain ⟨a, vs, rfl, n, hs, r⟩ := rx.tup
    refine .inr (.inl ⟨a, vs, rfl, (sqT_of hs), fun hw => ?_, fun hw p hp => ?_⟩)
    · rw [← r.length] at hw
      rw [cut_whole hw] at q
      exact q _ H (Same.refl H) (.tup n hs r)
    · have G : Same H (upd H p (.tup (cutV vs i j))) := same_upd hp
      exact q _ _ G (.tup (fun n => hN p n hp) (.of upd_same) ((r.cut _ _).step (.grow G)))
  · obtain ⟨hz, rfl⟩ := ite_some e
    refine .inr (.inr ⟨_, rb_str rx, szOk_le hz, q _ H (Same.refl H) ?_⟩)
    have e2 : ∀ z : Str, cutS z i j = ⟨(cutD z.cps.toList i j).toArray⟩ := fun z => by
      unfold cutS cutD
      rw [sIx_eq, sIx_eq, show z.cps.toList.length = z.length from Array.length_toList]
    rw [e2]
    exact .str _
  · cases e
theorem cutf : CutF X gCutL := by
  refine ⟨_, sl_list, fun N T α H x i j vx d Q hN rx e q => ?_⟩
  unfold gCutL at e; split at e
  · cases e
    obtain ⟨a, vs, rfl, hs, r⟩ := rx.lst
    exact ⟨a, vs, rfl, hs, fun p hp => q p _ hp (r.cut _ _)⟩
  · cases e

/-! ### built-in functions -/
theorem RBs.one {x : D} {vs : List V} (h : RBs K N T α H [x] vs) : ∃ v, vs = [v] ∧ RB K N T α H x v := by
  cases h with
  | cons r t => cases t; exact ⟨_, rfl, r⟩
theorem RBs.two {x y : D} {vs : List V} (h : RBs K N T α H [x, y] vs) : ∃ v w, vs = [v, w] ∧ RB K N T α H x v ∧ RB K N T α H y w := by
  cases h with
  | cons r t =>
    cases t with
    | cons r2 t => cases t; exact ⟨_, _, rfl, r, r2⟩
theorem call_lenDR : CallR X (.builtin "len") (fun xs H Q => ∃ a kvs, xs = [V.ref a] ∧ Rd H a (.dK kvs) ∧ Q (.int kvs.length) H) := by
  intro pins s σ H xs us Q I r h
  obtain ⟨a, kvs, rfl, ha, q⟩ := h
  obtain ⟨u, rfl, ru⟩ := vals1 r
  cases ru
  exact d_len I ha fun t s' I' => ⟨.int kvs.length, H, I', ⟨t, rfl⟩, q⟩
theorem calld_len : CallD X (.builtin "len") gLen := by
  refine ⟨_, call_len_seq.or (call_len_str.or call_lenDR), fun N T α H xs vs d Q hN r e q => ?_⟩
  unfold gLen at e; split at e
  · cases e
    obtain ⟨v, rfl, rx⟩ := r.one
    obtain ⟨a, ws, rfl, hs, r⟩ := rx.lst
    exact .inl ⟨a, ws, rfl, .inl hs, q _ H (Same.refl H) (by rw [r.length]; exact .int _)⟩
  · cases e
    obtain ⟨v, rfl, rx⟩ := r.one
    obtain ⟨a, ws, rfl, _, hs, r⟩ := rx.tup
    exact .inl ⟨a, ws, rfl, .inr (sqT_of hs), q _ H (Same.refl H) (by rw [r.length]; exact .int _)⟩
  · obtain ⟨hz, rfl⟩ := ite_some e
    obtain ⟨v, rfl, rx⟩ := r.one
    exact .inr (.inl ⟨_, by rw [rb_str rx], szOk_le hz, q _ H (Same.refl H) (.int _)⟩)
  · cases e
    obtain ⟨v, rfl, rx⟩ := r.one
    obtain ⟨a, ws, rfl, _, hs, r⟩ := rx
    have hl : ∀ {ds : List (D × D)} {ks : List (Key × V)}, RKs X.K N α H ds ks → ds.length = ks.length := by
      intro ds ks h
      induction ds generalizing ks with
      | nil => cases h; rfl
      | cons a ds ih => cases h with | cons _ _ t => rw [List.length_cons, List.length_cons, ih t]
    exact .inr (.inr ⟨a, ws, rfl, hs, q _ H (Same.refl H) (by rw [hl r]; exact .int _)⟩)
  · cases e
theorem calld_max2 (hc : X.calm = true) : CallD X (.builtin "max") gMax2 := by
  refine ⟨_, call_max2 hc, fun N T α H xs vs d Q hN r e q => ?_⟩
  unfold gMax2 at e; split at e
  · cases e
    obtain ⟨v, w, rfl, rx, ry⟩ := r.two
    exact ⟨_, _, by rw [rb_int rx, rb_int ry], q _ H (Same.refl H) (.int _)⟩
  · cases e
theorem calld_min2 (hc : X.calm = true) : CallD X (.builtin "min") gMin2 := by
  refine ⟨_, call_min2 hc, fun N T α H xs vs d Q hN r e q => ?_⟩
  unfold gMin2 at e; split at e
  · cases e
    obtain ⟨v, w, rfl, rx, ry⟩ := r.two
    exact ⟨_, _, by rw [rb_int rx, rb_int ry], q _ H (Same.refl H) (.int _)⟩
  · cases e
theorem calld_int1 : CallD X (.type "int") gInt1 := by
  refine ⟨_, call_int1, fun N T α H xs vs d Q hN r e q => ?_⟩
  unfold gInt1 at e; split at e
  · cases e
    obtain ⟨v, rfl, rx⟩ := r.one
    exact .inl ⟨_, by rw [rb_int rx], q _ H (Same.refl H) (.int _)⟩
  · cases e
    obtain ⟨v, rfl, rx⟩ := r.one
    exact .inr ⟨_, by rw [rb_bl rx], q _ H (Same.refl H) (.int _)⟩
  · cases e
theorem calld_tuple : CallD X (.type "tuple") gTuple := by
  refine ⟨_, call_tuple_of, fun N T α H xs vs d Q hN r e q => ?_⟩
  unfold gTuple at e; split at e
  · cases e
    obtain ⟨v, rfl, rx⟩ := r.one
    obtain ⟨a, ws, rfl, hs, r⟩ := rx.lst
    refine ⟨a, ws, rfl, .inl ⟨hs, fun p hp => ?_⟩⟩
    have G : Same H (upd H p (.tup ws)) := same_upd hp
    exact q _ _ G (.tup (fun n => hN p n hp) (.of upd_same) (r.step (.grow G)))
  · cases e
    obtain ⟨v, rfl, rx⟩ := r.one
    obtain ⟨a, ws, rfl, n, hs, r⟩ := rx.tup
    exact ⟨a, ws, rfl, .inr ⟨(sqT_of hs), q _ H (Same.refl H) (.tup n hs r)⟩⟩
  · cases e
theorem callf_list : CallF X (.type "list") gList := by
  refine ⟨_, call_list_of, fun N T α H xs vs d Q hN r e q => ?_⟩
  unfold gList at e; split at e
  · cases e
    obtain ⟨v, rfl, rx⟩ := r.one
    obtain ⟨a, ws, rfl, hs, r⟩ := rx.lst
    exact ⟨a, ws, rfl, .inl hs, fun p hp => q p _ hp r⟩
  · cases e
    obtain ⟨v, rfl, rx⟩ := r.one
    obtain ⟨a, ws, rfl, n, hs, r⟩ := rx.tup
    exact ⟨a, ws, rfl, .inr (sqT_of hs), fun p hp => q p _ hp r⟩
  · cases e
end
end Vx

/-! VStm: the rules for statements, loops, comprehensions, calls, and for a def as a whole. -/
namespace Vx
open PySem PySem.Spec L2
variable [Wd]
section
variable {X : Cx} {W : WXc} {ρ : Bool} {Γ Γ' Γ'' ΓL : List Bool} {e a b : Expr} {es : List Expr} {s : Stmt} {ss : List Stmt} {f fa fb fc : FE} {x : Str} {pos p : Pos} {g1 g2 : FS}
variable {K : PySem.W.Frag} {N T : Addr → Prop} {α : List Addr} {H : Hp} {c : Cz} {sl : Sl} {st : Sto} {σ : St}

theorem getElem?_set_ne' {α : Type} {l : List α} {i j : Nat} {a : α} (h : i ≠ j) : (l.set i a)[j]? = l[j]? := List.getElem?_set_ne h
/-! ### changes of the frame -/
theorem loc_set {i : Nat} {v : Option V} (hi : Γ[i]? ≠ some true) (a : Addr) : LocO Γ (σ.set i v) a ↔ LocO Γ σ a := by
  constructor
  · rintro ⟨j, h1, h2⟩
    have ne : i ≠ j := fun e => hi (e ▸ h1)
    rw [getElem?_set_ne' ne] at h2
    exact ⟨j, h1, h2⟩
  · rintro ⟨j, h1, h2⟩
    have ne : i ≠ j := fun e => hi (e ▸ h1)
    exact ⟨j, h1, by rw [getElem?_set_ne' ne]; exact h2⟩
theorem nn_set {i : Nat} {v : Option V} (hi : Γ[i]? ≠ some true) (a : Addr) : NN c Γ (σ.set i v) α a ↔ NN c Γ σ α a := by
  unfold NN
  rw [loc_set hi]
/-- a name is stored that holds no list of the frame's own -/
theorem Rel.set {i : Nat} {d : D} {v : V} (R : Rel K c Γ sl st α σ H) (hi : Γ[i]? ≠ some true) (r : RD K (NN c Γ σ α) α H d v) : Rel K c Γ (sl.set i (some d)) st α (σ.set i (some v)) H := by
  have S : Stp (NN c Γ σ α) α H (NN c Γ (σ.set i (some v)) α) α H := .less fun a z => (nn_set hi a).mp z
  refine ⟨by rw [List.length_set, List.length_set]; exact R.len, fun j d' h n => ?_, fun j h => ?_, fun j k a h1 h2 h3 h4 => ?_, R.sto.step S fun _ _ => rfl, R.bt, R.αB, R.αn, R.αf, R.fr⟩
  · rcases of_getElem?_set h with ⟨ej, ed, hl⟩ | ⟨ne, h'⟩
    · subst ej
      cases ed
      exact ⟨v, by rw [List.getElem?_set_self (by rw [R.len]; exact hl)], r.step S⟩
    · obtain ⟨w, h1, h2⟩ := R.val j d' h' n
      exact ⟨w, by rw [getElem?_set_ne' ne]; exact h1, h2.step S⟩
  · have ne : i ≠ j := fun q => hi (q ▸ h)
    obtain ⟨d', a, o, h1, h2, h3, h4, h5⟩ := R.own j h
    exact ⟨d', a, o, by rw [getElem?_set_ne' ne]; exact h1, by rw [getElem?_set_ne' ne]; exact h2, h3, h4.step S, h5⟩
  · have n1 : i ≠ j := fun q => hi (q ▸ h1)
    have n2 : i ≠ k := fun q => hi (q ▸ h2)
    rw [getElem?_set_ne' n1] at h3
    rw [getElem?_set_ne' n2] at h4
    exact R.dist j k a h1 h2 h3 h4
/-- names forgotten -/
theorem Rel.forget {i : Nat} {v : Option V} (R : Rel K c Γ sl st α σ H) (hi : Γ[i]? ≠ some true) : Rel K c Γ (sl.set i none) st α (σ.set i v) H := by
  have S : Stp (NN c Γ σ α) α H (NN c Γ (σ.set i v) α) α H := .less fun a z => (nn_set hi a).mp z
  refine ⟨by rw [List.length_set, List.length_set]; exact R.len, fun j d' h n => ?_, fun j h => ?_, fun j k a h1 h2 h3 h4 => ?_, R.sto.step S fun _ _ => rfl, R.bt, R.αB, R.αn, R.αf, R.fr⟩
  · rcases of_getElem?_set h with ⟨ej, ed, hl⟩ | ⟨ne, h'⟩
    · cases ed
    · obtain ⟨w, h1, h2⟩ := R.val j d' h' n
      exact ⟨w, by rw [getElem?_set_ne' ne]; exact h1, h2.step S⟩
  · have ne : i ≠ j := fun q => hi (q ▸ h)
    obtain ⟨d', a, o, h1, h2, h3, h4, h5⟩ := R.own j h
    exact ⟨d', a, o, by rw [getElem?_set_ne' ne]; exact h1, by rw [getElem?_set_ne' ne]; exact h2, h3, h4.step S, h5⟩
  · have n1 : i ≠ j := fun q => hi (q ▸ h1)
    have n2 : i ≠ k := fun q => hi (q ▸ h2)
    rw [getElem?_set_ne' n1] at h3
    rw [getElem?_set_ne' n2] at h4
    exact R.dist j k a h1 h2 h3 h4
/-- fewer lists are held as own -/
def leG (Γ' Γ : List Bool) : Bool := (List.range Γ'.length).all fun i => !(Γ'.getD i false) || Γ.getD i false
theorem leG_ok (h : leG Γ' Γ = true) {i : Nat} (hi : Γ'[i]? = some true) : Γ[i]? = some true := by
  have hl := (List.getElem?_eq_some_iff.mp hi).1
  have := List.all_eq_true.mp h i (List.mem_range.mpr hl)
  rw [List.getD_eq_getElem?_getD, List.getD_eq_getElem?_getD, hi] at this
  simp only [Option.getD_some, Bool.not_true, Bool.false_or] at this
  cases q : Γ[i]? with
  | none => rw [q] at this; cases this
  | some b => rw [q] at this; simp only [Option.getD_some] at this; rw [this]
theorem Rel.weak (R : Rel K c Γ sl st α σ H) (h : leG Γ' Γ = true) : Rel K c Γ' sl st α σ H := by
  have sub : ∀ a, NN c Γ' σ α a → NN c Γ σ α a := fun a z => z.elim .inl fun ⟨i, h1, h2⟩ => .inr ⟨i, leG_ok h h1, h2⟩
  have S : Stp (NN c Γ σ α) α H (NN c Γ' σ α) α H := .less sub
  refine ⟨R.len, fun i d h1 n => ?_, fun i h1 => ?_, fun i j a h1 h2 => R.dist i j a (leG_ok h h1) (leG_ok h h2), R.sto.step S fun _ _ => rfl, R.bt, R.αB, R.αn, R.αf, R.fr⟩
  · by_cases hi : Γ[i]? = some true
    · obtain ⟨d', a, o, h2, h3, h4, h5, h6, h7⟩ := R.own i hi
      rw [h1] at h2
      cases h2
      refine ⟨.ref a, h3, (h5.step S).rd h4 ?_⟩
      rintro (z | ⟨j, z1, z2⟩)
      · exact h7 z
      · have e := R.dist i j a hi (leG_ok h z1) h3 z2
        subst e
        exact n z1
    · obtain ⟨v, h2, h3⟩ := R.val i d h1 hi
      exact ⟨v, h2, h3.step S⟩
  · obtain ⟨d', a, o, h2, h3, h4, h5, h6⟩ := R.own i (leG_ok h h1)
    exact ⟨d', a, o, h2, h3, h4, h5.step S, h6⟩
/-- a new list becomes the frame's own -/
theorem Rel.setOwn {i : Nat} {d : D} {p : Addr} {o : HO} (R : Rel K (c.add p) Γ sl st α σ H) (hp : H p = some o) (h0 : c.H0 p = none) (nB : ¬ c.B p) (r : ROb K (NN (c.add p) Γ σ α) α H p d o) (hl : i < sl.length) (hg : i < Γ.length) :
    Rel K c (Γ.set i true) (sl.set i (some d)) st α (σ.set i (some (.ref p))) H ∧ Stp (NN (c.add p) Γ σ α) α H (NN c (Γ.set i true) (σ.set i (some (.ref p))) α) α H := by
  have hσ : i < σ.length := by rw [R.len]; exact hl
  have old : ∀ {j : Nat}, i ≠ j → ((Γ.set i true)[j]? = some true ↔ Γ[j]? = some true) := fun ne => by rw [getElem?_set_ne' ne]
  have S : Stp (NN (c.add p) Γ σ α) α H (NN c (Γ.set i true) (σ.set i (some (.ref p))) α) α H := .less fun a z => by
    rcases z with (z | z) | ⟨j, z1, z2⟩
    · exact .inl (.inl (.inl z))
    · exact .inl (.inr z)
    · by_cases ej : i = j
      · subst ej
        rw [List.getElem?_set_self hσ] at z2
        cases z2
        exact .inl (.inl (.inr rfl))
      · rw [getElem?_set_ne' ej] at z2
        exact .inr ⟨j, (old ej).mp z1, z2⟩
  refine ⟨⟨by rw [List.length_set, List.length_set]; exact R.len, fun j d' h n => ?_, fun j h => ?_, fun j k a h1 h2 h3 h4 => ?_, R.sto.step S fun _ _ => rfl, fun a z => R.bt a (.inl z), fun a m z => R.αB a m (.inl z), R.αn, R.αf, R.fr⟩, S⟩
  · rcases of_getElem?_set h with ⟨ej, ed, hl⟩ | ⟨ne, h'⟩
    · subst ej
      exact absurd (List.getElem?_set_self hg) n
    · obtain ⟨w, h1, h2⟩ := R.val j d' h' fun z => n ((old ne).mpr z)
      exact ⟨w, by rw [getElem?_set_ne' ne]; exact h1, h2.step S⟩
  · by_cases ej : i = j
    · subst ej
      refine ⟨d, p, o, List.getElem?_set_self hl, List.getElem?_set_self hσ, hp, r.step S, h0, ?_⟩
      rintro (z | z)
      · exact nB z
      · exact R.αB p z (.inr rfl)
    · obtain ⟨d', a, u, h1, h2, h3, h4, h5, h6⟩ := R.own j ((old ej).mp h)
      exact ⟨d', a, u, by rw [getElem?_set_ne' ej]; exact h1, by rw [getElem?_set_ne' ej]; exact h2, h3, h4.step S, h5, fun z => h6 (z.elim (fun z => .inl (.inl z)) .inr)⟩
  · have other : ∀ {j : Nat} {a : Addr}, i ≠ j → (Γ.set i true)[j]? = some true → (σ.set i (some (.ref p)))[j]? = some (some (.ref a)) → a ≠ p := fun {j a} ne h1 h2 e => by
      rw [getElem?_set_ne' ne] at h2
      obtain ⟨d', a', u, _, h2', _, _, _, h6⟩ := R.own j ((old ne).mp h1)
      rw [h2] at h2'
      cases h2'
      exact h6 (.inl (.inr e))
    have self : ∀ {j : Nat} {a : Addr}, i = j → (σ.set i (some (.ref p)))[j]? = some (some (.ref a)) → a = p := fun {j a} e h2 => by
      subst e
      rw [List.getElem?_set_self hσ] at h2
      cases h2
      rfl
    by_cases ej : i = j
    · by_cases ek : i = k
      · rw [← ej, ← ek]
      · exact absurd (self ej h3) (other ek h2 h4)
    · by_cases ek : i = k
      · exact absurd (self ek h4) (other ej h1 h3)
      · rw [getElem?_set_ne' ej] at h3
        rw [getElem?_set_ne' ek] at h4
        exact R.dist j k a ((old ej).mp h1) ((old ek).mp h2) h3 h4
/-- one of the frame's own lists is changed -/
theorem Rel.change {i : Nat} {d' : D} {a : Addr} {o' : HO} (R : Rel K c Γ sl st α σ H) (hi : Γ[i]? = some true) (ha : σ[i]? = some (some (.ref a))) (r : ROb K (NN c Γ σ α) α H a d' o') :
    Rel K c Γ (sl.set i (some d')) st α σ (upd H a o') ∧ Stp (NN c Γ σ α) α H (NN c Γ σ α) α (upd H a o') := by
  have na : NN c Γ σ α a := .inr ⟨i, hi, ha⟩
  have S : Stp (NN c Γ σ α) α H (NN c Γ σ α) α (upd H a o') := ⟨⟨[], by simp⟩, fun b u h n => ⟨by rw [upd_ne (fun e => n (by rw [e]; exact na))]; exact h, n⟩⟩
  obtain ⟨d0, a0, o0, h1, h2, h3, h4, h5, h6⟩ := R.own i hi
  rw [ha] at h2
  cases h2
  have hl : i < sl.length := (List.getElem?_eq_some_iff.mp h1).1
  refine ⟨⟨by rw [List.length_set]; exact R.len, fun j d'' h n => ?_, fun j h => ?_, R.dist, R.sto.step S fun b m => upd_ne fun e => h6 (.inr (e ▸ m)), fun b m => ?_, R.αB, R.αn, R.αf, fun b u h n => ?_⟩, S⟩
  · have ne : i ≠ j := fun q => n (q ▸ hi)
    rw [getElem?_set_ne' ne] at h
    obtain ⟨w, h1, h2⟩ := R.val j d'' h n
    exact ⟨w, h1, h2.step S⟩
  · by_cases ej : i = j
    · subst ej
      exact ⟨d', a, o', List.getElem?_set_self hl, ha, upd_same, r.step S, h5, h6⟩
    · obtain ⟨d2, b, u, e1, e2, e3, e4, e5⟩ := R.own j h
      have ne : b ≠ a := fun e => ej (R.dist i j a hi h ha (e ▸ e2))
      exact ⟨d2, b, u, by rw [getElem?_set_ne' ej]; exact e1, e2, by rw [upd_ne ne]; exact e3, e4.step S, e5⟩
  · have ne : b ≠ a := fun e => h6 (.inl (e ▸ m))
    rw [upd_ne ne]
    exact R.bt b m
  · rw [upd_ne (fun e => by subst e; rw [h5] at h; cases h)]
    exact R.fr b u h n

/-! ### blocks -/
theorem Fl.Sat.imp {r : Fl} {n n' : Sl → Sto → Prop} {t t' : D → Sto → Prop} {b b' c c' : Sl → Sto → Prop} {E E' : Ex → Sl → Sto → Prop} (h : r.Sat n t b c E) (h1 : ∀ l s, n l s → n' l s) (h2 : ∀ d s, t d s → t' d s) (h3 : ∀ l s, b l s → b' l s) (h4 : ∀ l s, c l s → c' l s) (h5 : ∀ e l s, E e l s → E' e l s) : r.Sat n' t' b' c' E' := by
  cases r with
  | nx l s => exact h1 l s h
  | rt d s => exact h2 d s h
  | bk l s => exact h3 l s h
  | ct l s => exact h4 l s h
  | ex e l s => exact h5 e l s h
  | no => exact h
theorem PF.from {α1 : List Addr} {σ1 : St} {H1 : Hp} {Γ1 : List Bool} {k : St → Hp → Prop} {Γ2 : List Bool} {l : Sl} {s : Sto} (S : Stp (NN c Γ σ α) α H (NN c Γ1 σ1 α1) α1 H1) (h : PF K c Γ α σ H k Γ2 l s) : PF K c Γ1 α1 σ1 H1 k Γ2 l s :=
  fun α' σ' H' R S' => h α' σ' H' R (S.trans S')
/-- from a later state -/
theorem FQ.from {α1 : List Addr} {σ1 : St} {H1 : Hp} {Γ1 : List Bool} {D : Ends} {r : Fl} (S : Stp (NN c Γ σ α) α H (NN c Γ1 σ1 α1) α1 H1) (h : FQ K W ρ ΓL c Γ α σ H D Γ' r) : FQ K W ρ ΓL c Γ1 α1 σ1 H1 D Γ' r :=
  Fl.Sat.imp h (fun _ _ z => z.from S) (fun _ _ z => z) (fun _ _ z => z.from S) (fun _ _ z => z.from S) fun _ _ _ z => z
theorem sss_nil : SSs X W ρ ΓL Γ [] sNil Γ := fun c sl st α σ H D R h => ⟨_, pss_nil, h α σ H R .refl⟩
theorem sss_cons (h1 : SS X W ρ ΓL Γ s g1 Γ') (h2 : SSs X W ρ ΓL Γ' ss g2 Γ'') : SSs X W ρ ΓL Γ (s :: ss) (sSeq g1 g2) Γ'' := by
  intro c sl st α σ H D R h
  refine ⟨_, pss_cons ps_wp pss_wp, ?_⟩
  refine h1 c sl st α σ H _ R ?_
  unfold FQ sSeq at h
  unfold FQ
  cases e : g1 sl st with
  | nx l s' =>
    rw [e] at h
    intro α' σ' H' R' S'
    exact h2 c l s' α' σ' H' D R' (FQ.from S' h)
  | rt d s' => rw [e] at h; exact h
  | bk l s' => rw [e] at h; exact h
  | ct l s' => rw [e] at h; exact h
  | ex x l s' => rw [e] at h; exact h
  | no => rw [e] at h; exact h
theorem sss_one (h1 : SS X W ρ ΓL Γ s g1 Γ') : SSs X W ρ ΓL Γ [s] g1 Γ' := fun c sl st α σ H D R h => ⟨_, pss_one ps_wp, h1 c sl st α σ H D R h⟩
/-- less is held as own ahead, behind -/
theorem ss_ahead (h : leG Γ' Γ = true) (h1 : SS X W ρ ΓL Γ' s g1 Γ'') : SS X W ρ ΓL Γ s g1 Γ'' := fun c sl st α σ H D R q =>
  h1 c sl st α σ H D (R.weak h) (FQ.from (.less fun a z => z.elim .inl fun ⟨i, z1, z2⟩ => .inr ⟨i, leG_ok h z1, z2⟩) q)
theorem sss_ahead (h : leG Γ' Γ = true) (h1 : SSs X W ρ ΓL Γ' ss g1 Γ'') : SSs X W ρ ΓL Γ ss g1 Γ'' := fun c sl st α σ H D R q =>
  h1 c sl st α σ H D (R.weak h) (FQ.from (.less fun a z => z.elim .inl fun ⟨i, z1, z2⟩ => .inr ⟨i, leG_ok h z1, z2⟩) q)
theorem FQ.behind {D : Ends} {r : Fl} (h : leG Γ'' Γ' = true) (q : FQ K W ρ ΓL c Γ α σ H D Γ'' r) : FQ K W ρ ΓL c Γ α σ H D Γ' r :=
  Fl.Sat.imp q (fun _ _ z α' σ' H' R S => z α' σ' H' (R.weak h) (S.trans (.less fun a z => z.elim .inl fun ⟨i, z1, z2⟩ => .inr ⟨i, leG_ok h z1, z2⟩))) (fun _ _ z => z) (fun _ _ z => z) (fun _ _ z => z) fun _ _ _ z => z
theorem ss_behind (h : leG Γ'' Γ' = true) (h1 : SS X W ρ ΓL Γ s g1 Γ') : SS X W ρ ΓL Γ s g1 Γ'' := fun c sl st α σ H D R q => h1 c sl st α σ H D R (q.behind h)
theorem sss_behind (h : leG Γ'' Γ' = true) (h1 : SSs X W ρ ΓL Γ ss g1 Γ') : SSs X W ρ ΓL Γ ss g1 Γ'' := fun c sl st α σ H D R q => h1 c sl st α σ H D R (q.behind h)

/-! ### small statements -/
theorem R.sat_fl {α : Type} {r : R α} {l : Sl} {k : α → Sto → Fl} {n : Sl → Sto → Prop} {t : D → Sto → Prop} {b c : Sl → Sto → Prop} {E : Ex → Sl → Sto → Prop} : (r.fl l k).Sat n t b c E ↔ r.Sat (fun a s => (k a s).Sat n t b c E) (fun e s => E e l s) := by
  cases r <;> exact Iff.rfl
theorem ss_pass : SS X W ρ ΓL Γ (.Pass pos) sPass Γ := fun c sl st α σ H D R h => ⟨_, ps_pass, h α σ H R .refl⟩
theorem ss_brk (h : leG ΓL Γ = true := by decide) : SS X W ρ ΓL Γ (.Break pos) sBrk Γ' := fun c sl st α σ H D R q => ⟨_, ps_break, q α σ H (R.weak h) (.less fun a z => z.elim .inl fun ⟨i, z1, z2⟩ => .inr ⟨i, leG_ok h z1, z2⟩)⟩
theorem ss_cnt (h : leG ΓL Γ = true := by decide) : SS X W ρ ΓL Γ (.Continue pos) sCnt Γ' := fun c sl st α σ H D R q => ⟨_, ps_continue, q α σ H (R.weak h) (.less fun a z => z.elim .inl fun ⟨i, z1, z2⟩ => .inr ⟨i, leG_ok h z1, z2⟩)⟩
theorem ss_exp (ha : SE X W Γ a fa) (hs : swapsWith a none pos.line X.env = pure false := by rfl) : SS X W ρ ΓL Γ (.Expr a pos) (sExp fa) Γ := by
  intro c sl st α σ H D R h
  refine ⟨_, ps_expr pe_wp hs, ?_⟩
  exact ha c sl st α σ H _ R ((Vx.R.sat_fl.mp h).imp (fun d s1 hd v α1 H1 R1 S1 r1 => hd α1 σ H1 R1 S1.nn) fun x s1 hx => hx Γ σ)
/-- name = value -/
theorem ss_set (i : Nat) {pos' : Pos} (ha : SE X W Γ a fa) (hN : X.N.Nodup) (hΓ : Γ[i]? ≠ some true := by decide) (hi : X.N[i]? = some x := by rfl) (hx : Loc X.env.scope x := by first | exact Or.inl rfl | exact Or.inr rfl) (hs : swapsWith a (some (.Name x pos')) pos.line X.env = pure false := by rfl)
    (hf : X.fn x = true ∨ X.env.scope.names.lookup x = some .local := by first | exact .inl rfl | exact .inr rfl) : SS X W ρ ΓL Γ (.Assign [.Name x pos'] a pos) (sSet i fa) Γ := by
  intro c sl st α σ H D R h
  refine ⟨_, ps_set hN hi hx pe_wp hs hf, ?_⟩
  refine ha c sl st α σ H _ R ((Vx.R.sat_fl.mp h).imp (fun d s1 hd v α1 H1 R1 S1 r1 => ?_) fun x s1 hx => hx Γ σ)
  exact hd α1 _ H1 (R1.set hΓ r1) (S1.nn.trans (.less fun a z => (nn_set hΓ a).mp z))
theorem of_f0 (R : Rel K c Γ sl st α σ H) {p : Addr} (h : H p = none) : ¬ c.B p := fun z => R.bt p z h
theorem set_own_core {i : Nat} {Dn : Ends} (R : Rel X.K c Γ sl st α σ H) (hg : i < Γ.length) (hsl : i < sl.length) {d : D} {s1 : Sto} (h : PF X.K c Γ α σ H Dn.nx (Γ.set i true) (sl.set i (some d)) s1) : PQf X.K c Γ sl α σ H (fun x H1 => gName i x σ H1 Dn.nx) d s1 := by
  intro p o α1 H1 h0 hp R1 S1 r1
  obtain ⟨R2, S2⟩ := R1.setOwn (i := i) hp (R.fresh0 h0) (of_f0 R h0) r1 hsl hg
  refine h α1 _ H1 R2 ⟨S1.pre, fun a u e n => ?_⟩
  have ne : a ≠ p := ne_of_none e h0
  obtain ⟨e1, n1⟩ := S1.nn.keep a u e n
  refine S2.keep a u e1 ?_
  rintro ((z | z) | z)
  · exact z.elim (fun z => n1 (.inl (.inl z))) ne
  · exact n1 (.inl (.inr z))
  · exact n1 (.inr z)
/-- name = a new list; the name is not known as own ahead -/
theorem ss_setF (i : Nat) {pos' : Pos} (ha : SF X W Γ a fa) (hN : X.N.Nodup) (hi : X.N[i]? = some x := by rfl) (hx : Loc X.env.scope x := by first | exact Or.inl rfl | exact Or.inr rfl) (hs : swapsWith a (some (.Name x pos')) pos.line X.env = pure false := by rfl)
    (hf : X.fn x = true ∨ X.env.scope.names.lookup x = some .local := by first | exact .inl rfl | exact .inr rfl) (hg : i < Γ.length := by decide) : SS X W ρ ΓL Γ (.Assign [.Name x pos'] a pos) (sSetF i fa) (Γ.set i true) := by
  intro c sl st α σ H Dn R h
  refine ⟨_, ps_set hN hi hx pe_wp hs hf, ?_⟩
  refine ha c sl st α σ H _ R ((Vx.R.sat_fl.mp h).imp (fun d s1 hd => ?_) fun x s1 hx => hx Γ σ)
  by_cases hl : i < sl.length
  · rw [if_pos hl] at hd
    exact set_own_core R hg hl hd
  · rw [if_neg hl] at hd
    exact False.elim hd
theorem PR.of {c : Cz} {k : VK} {d : D} {s1 : Sto} (h : PR K c ρ k d s1) (hd : ρ = true → ∀ ds ks, d ≠ .lst ds ∧ d ≠ .dic ks) : ∀ Γ'' sl'' σ'' v α' H', Rel K c Γ'' sl'' s1 α' σ'' H' → RD K (NN c Γ'' σ'' α') α' H' d v → k v H' :=
  fun Γ'' sl'' σ'' v α' H' R r => h.1 Γ'' sl'' σ'' v α' H' R r hd
theorem ss_ret (ha : SE X W Γ a fa) : SS X W false ΓL Γ (.Return (some a) pos) (sRet fa) Γ' := by
  intro c sl st α σ H D R h
  refine ⟨_, ps_ret pe_wp, ?_⟩
  refine ha c sl st α σ H _ R ((Vx.R.sat_fl.mp h).imp (fun d s1 hd v α1 H1 R1 S1 r1 => ?_) fun x s1 hx => hx Γ σ)
  exact hd.1 Γ sl σ v α1 H1 R1 r1 fun z => nomatch z
/-- in a def that hands back new lists: a value that is no list -/
theorem ss_retN (ha : SE X W Γ a fa) : SS X W ρ ΓL Γ (.Return (some a) pos) (sRetN' fa) Γ' := by
  intro c sl st α σ H D R h
  refine ⟨_, ps_ret pe_wp, ?_⟩
  refine ha c sl st α σ H _ R ((Vx.R.sat_fl.mp h).imp (fun d s1 hd v α1 H1 R1 S1 r1 => ?_) fun x s1 hx => hx Γ σ)
  by_cases hm : d.isMut = true
  · rw [if_pos hm] at hd
    exact False.elim hd
  · rw [if_neg hm] at hd
    refine hd.1 Γ sl σ v α1 H1 R1 r1 fun _ ds ks => ⟨?_, ?_⟩
    · rintro rfl; exact hm rfl
    · rintro rfl; exact hm rfl
/-- .. a new list -/
theorem ss_retF (ha : SF X W Γ a fa) : SS X W true ΓL Γ (.Return (some a) pos) (sRet fa) Γ' := by
  intro c sl st α σ H Dn R h
  refine ⟨_, ps_ret pe_wp, ?_⟩
  refine ha c sl st α σ H _ R ((Vx.R.sat_fl.mp h).imp (fun d s1 hd p o α1 H1 h0 hp R1 S1 r1 => ?_) fun x s1 hx => hx Γ σ)
  exact hd.2 rfl Γ sl σ p o α1 H1 (R.fresh0 h0) hp R1 r1
/-- one of the frame's own lists, as a thing that nobody else holds -/
theorem Rel.give {i : Nat} {d : D} {a : Addr} {o : HO} (R : Rel K c Γ sl st α σ H) (hi : Γ[i]? = some true) (hd : sl[i]? = some (some d)) (ha : σ[i]? = some (some (.ref a))) (ho : H a = some o) (r : ROb K (NN c Γ σ α) α H a d o) :
    Rel K (c.add a) (Γ.set i false) (sl.set i none) st α (σ.set i none) H ∧ ROb K (NN (c.add a) (Γ.set i false) (σ.set i none) α) α H a d o ∧ c.H0 a = none := by
  obtain ⟨d0, a0, o0, h1, h2, h3, h4, h5, h6⟩ := R.own i hi
  rw [ha] at h2
  cases h2
  have hg : i < Γ.length := (List.getElem?_eq_some_iff.mp hi).1
  have hl : i < sl.length := (List.getElem?_eq_some_iff.mp h1).1
  have off : ∀ {j : Nat}, (Γ.set i false)[j]? = some true → i ≠ j ∧ Γ[j]? = some true := fun {j} h => by
    rcases of_getElem?_set h with ⟨_, e, _⟩ | ⟨n, h⟩
    · cases e
    · exact ⟨n, h⟩
  have S : Stp (NN c Γ σ α) α H (NN (c.add a) (Γ.set i false) (σ.set i none) α) α H := .less fun b z => by
    rcases z with (z | z) | ⟨j, z1, z2⟩
    · rcases z with z | z
      · exact .inl (.inl z)
      · exact .inr ⟨i, hi, by rw [z]; exact ha⟩
    · exact .inl (.inr z)
    · obtain ⟨n, z1⟩ := off z1
      rw [getElem?_set_ne' n] at z2
      exact .inr ⟨j, z1, z2⟩
  refine ⟨⟨by rw [List.length_set, List.length_set]; exact R.len, fun j d' h n => ?_, fun j h => ?_, fun j k b z1 z2 z3 z4 => ?_, R.sto.step S fun _ _ => rfl, fun b z => ?_, fun b m z => ?_, R.αn, R.αf, R.fr⟩, r.step S, h5⟩
  · rcases of_getElem?_set h with ⟨_, e, _⟩ | ⟨ne, h'⟩
    · cases e
    · rw [getElem?_set_ne' ne] at n
      obtain ⟨w, e1, e2⟩ := R.val j d' h' n
      exact ⟨w, by rw [getElem?_set_ne' ne]; exact e1, e2.step S⟩
  · obtain ⟨ne, h'⟩ := off h
    obtain ⟨d2, b, u, e1, e2, e3, e4, e5, e6⟩ := R.own j h'
    refine ⟨d2, b, u, by rw [getElem?_set_ne' ne]; exact e1, by rw [getElem?_set_ne' ne]; exact e2, e3, e4.step S, e5, fun z => ?_⟩
    rcases z with (z | z) | z
    · exact e6 (.inl z)
    · exact ne (R.dist i j a hi h' ha (by rw [z] at e2; exact e2))
    · exact e6 (.inr z)
  · obtain ⟨n1, z1⟩ := off z1
    obtain ⟨n2, z2⟩ := off z2
    rw [getElem?_set_ne' n1] at z3
    rw [getElem?_set_ne' n2] at z4
    exact R.dist j k b z1 z2 z3 z4
  · rcases z with z | z
    · exact R.bt b z
    · rw [z, ho]; exact fun z => nomatch z
  · rcases z with z | z
    · exact R.αB b m z
    · exact h6 (.inr (z ▸ m))
theorem ss_retO (i : Nat) {p2 : Pos} (hΓ : Γ[i]? = some true := by decide) (hN : X.N[i]? = some x := by rfl) (hv : Vis X.env.scope x := by first | exact Or.inl rfl | exact Or.inr (Or.inl rfl) | exact Or.inr (Or.inr rfl))
    (hd : (x == ("__debug__" : Str)) = false := by decide) (hcd : (x == ("__classdict__" : Str)) = false := by decide) : SS X W true ΓL Γ (.Return (some (.Name x p2)) pos) (sRet (mV i)) Γ' := by
  intro c sl st α σ H Dn R h
  obtain ⟨d, e, h⟩ := mV_sat (Vx.R.sat_fl.mp h)
  obtain ⟨d', a, o, e0, e1, ho, r, _, n⟩ := R.own i hΓ
  rw [e] at e0
  cases e0
  refine ⟨_, ps_ret (pe_var hN hv hd hcd), .ref a, e1, ?_⟩
  obtain ⟨R1, r1, h0⟩ := R.give hΓ e e1 ho r
  exact h.2 rfl _ _ _ a o α H h0 ho R1 r1
theorem ss_retn : SS X W ρ ΓL Γ (.Return none pos) sRetN Γ' := fun c sl st α σ H D R h => ⟨_, ps_retN, h.1 Γ sl σ .non α H R .non fun _ _ _ => ⟨(fun z => nomatch z), (fun z => nomatch z)⟩⟩
theorem ss_if {ta : FT} {sa sb : List Stmt} (hc : ST X W Γ e ta) (ha : SSs X W ρ ΓL Γ sa g1 Γ') (hb : SSs X W ρ ΓL Γ sb g2 Γ') : SS X W ρ ΓL Γ (.If e sa sb pos) (sIf ta g1 g2) Γ' := by
  intro c sl st α σ H D R h
  refine ⟨_, ps_if pt_wp pss_wp pss_wp, ?_⟩
  refine hc c sl st α σ H _ R ((Vx.R.sat_fl.mp h).imp (fun k s1 hk α1 H1 R1 S1 => ?_) fun x s1 hx => hx Γ σ)
  cases k with
  | true =>
    rw [if_pos rfl] at hk ⊢
    exact ha c sl s1 α1 σ H1 D R1 (FQ.from S1.nn hk)
  | false =>
    rw [if_neg Bool.false_ne_true] at hk ⊢
    exact hb c sl s1 α1 σ H1 D R1 (FQ.from S1.nn hk)
/-- name op= e -/
def InD (X : Cx) (op : Operator) (g : D → D → Option D) : Prop := ∃ r : TIp, PIp X op r ∧
  ∀ (N T : Addr → Prop) (α : List Addr) (H : Hp) (x y : D) (vx vy : V) (d : D) (Q : VK), (∀ a, N a → H a ≠ none) → RB X.K N T α H x vx → RB X.K N T α H y vy → g x y = some d →
    (∀ v H', Same H H' → RD X.K N α H' d v → Q v H') → r vx vy H Q
theorem ss_aug (i : Nat) {op : Operator} {g : D → D → Option D} {pos' : Pos} (ho : InD X op g) (ha : SB X W Γ a fa) (hN : X.N.Nodup) (hΓ : Γ[i]? ≠ some true := by decide) (hi : X.N[i]? = some x := by rfl) (hx : Loc X.env.scope x := by first | exact Or.inl rfl | exact Or.inr rfl)
    (hf : X.fn x = true ∨ X.env.scope.names.lookup x = some .local := by first | exact .inl rfl | exact .inr rfl) : SS X W ρ ΓL Γ (.AugAssign (.Name x pos') op a pos) (sAug g i fa) Γ := by
  obtain ⟨r, o, hr⟩ := ho
  intro c sl st α σ H Dn R h
  refine ⟨_, ps_aug hN hi hx pe_wp o hf, ?_⟩
  unfold sAug at h
  cases e1 : sl[i]? with
  | none => rw [e1] at h; exact False.elim h
  | some od =>
    cases od with
    | none => rw [e1] at h; exact False.elim h
    | some d =>
      rw [e1] at h
      obtain ⟨v, hv, rv⟩ := R.val i d e1 hΓ
      refine ⟨v, hv, ?_⟩
      refine ha c sl st α σ H _ R ((Vx.R.sat_fl.mp h).imp (fun y s1 hy vy α1 H1 R1 S1 r1 => ?_) fun x s1 hx => hx Γ σ)
      cases eg : g d y with
      | none => rw [eg] at hy; exact False.elim hy
      | some z =>
        rw [eg] at hy
        refine hr _ _ _ _ d y v vy z _ R1.nn (RB.of (rv.step S1.nn) fun _ z => nb_nn z) r1 eg fun w H2 G rw' => ?_
        have R2 := R1.grow G
        exact hy α1 _ H2 (R2.set hΓ rw') ((S1.trans (.grow G)).nn.trans (.less fun a z => (nn_set hΓ a).mp z))

/-! ### targets, loops -/
theorem sg_name (i : Nat) (hN : X.N.Nodup) (hi : X.N[i]? = some x := by rfl) (hx : Loc X.env.scope x := by first | exact Or.inl rfl | exact Or.inr rfl)
    (hf : X.fn x = true ∨ X.env.scope.names.lookup x = some .local := by first | exact .inl rfl | exact .inr rfl) : SG X (.Name x pos) [i] (tg1 i) := by
  intro c Γ sl st α σ H d v sl' Q hΓ R r e h
  cases e
  have hi' := hΓ i List.mem_cons_self
  refine ⟨_, pg_name hN hi hx hf, ?_⟩
  exact h _ (R.set hi' r) (loc_set hi') (List.length_set ..) fun j hj => getElem?_set_ne' fun e => hj (by rw [e]; exact List.mem_cons_self)
theorem sg_pair (i j : Nat) {y : Str} {k : Nat} {p1 p2 : Pos} (hc : X.calm = true) (hN : X.N.Nodup) (hi : X.N[i]? = some x := by rfl) (hx : Loc X.env.scope x := by first | exact Or.inl rfl | exact Or.inr rfl)
    (hf : X.fn x = true ∨ X.env.scope.names.lookup x = some .local := by first | exact .inl rfl | exact .inr rfl) (hj : X.N[j]? = some y := by rfl) (hy : Loc X.env.scope y := by first | exact Or.inl rfl | exact Or.inr rfl)
    (hf2 : X.fn y = true ∨ X.env.scope.names.lookup y = some .local := by first | exact .inl rfl | exact .inr rfl)
    (hs : (assignEach [.Name x p1, .Name y p2] X.env).map (·.2) = assign (.Name x p1) X.env :: (assignEach [.Name y p2] X.env).map (·.2) := by rfl) (hs2 : (assignEach [.Name y p2] X.env).map (·.2) = assign (.Name y p2) X.env :: (assignEach [] X.env).map (·.2) := by rfl)
    (hn : (assignEach [.Name x p1, .Name y p2] X.env).length = 2 := by rfl) (hst : (assignEach [.Name x p1, .Name y p2] X.env).findIdx? (·.1) = none := by rfl) : SG X (.Tuple [.Name x p1, .Name y p2] k pos) [i, j] (tg2 i j) := by
  intro c Γ sl st α σ H d v sl' Q hΓ R r e h
  have hi' := hΓ i List.mem_cons_self
  have hj' := hΓ j (List.mem_cons_of_mem _ List.mem_cons_self)
  unfold tg2 at e
  split at e
  · cases e
    rename_i d1 d2
    cases r with
    | tup n hr rr =>
      rename_i a vs
      cases rr with
      | cons r1 rr =>
        cases rr with
        | cons r2 rr =>
          cases rr
          refine ⟨_, pg_tup hc (pgs_cons (pg_name hN hi hx hf) (pgs_cons (pg_name hN hj hy hf2) pgs_nil hs2) hs) hn hst, ?_⟩
          refine ⟨a, _, rfl, .inl hr, rfl, _, _, rfl, _, _, rfl, rfl, ?_⟩
          have R1 := R.set hi' r1
          have S1 : ∀ w : V, Stp (NN c Γ σ α) α H (NN c Γ (σ.set i (some w)) α) α H := fun w => .less fun a z => (nn_set hi' a).mp z
          refine h _ (R1.set hj' (r2.step (S1 _))) (fun a => (loc_set hj' a).trans (loc_set hi' a)) (by rw [List.length_set, List.length_set]) fun m hm => ?_
          rw [getElem?_set_ne' (fun e => hm (by rw [e]; exact List.mem_cons_of_mem _ List.mem_cons_self)), getElem?_set_ne' (fun e => hm (by rw [e]; exact List.mem_cons_self))]
  · cases e
theorem stp_loc {σ' : St} (h : ∀ a, LocO Γ σ' a ↔ LocO Γ σ a) : Stp (NN c Γ σ α) α H (NN c Γ σ' α) α H := .less fun a z => z.elim .inl fun z => .inr ((h a).mp z)
/-- a, b = e -/
theorem ss_tg {tg : Expr} {is : List Nat} {g : D → Sl → Option Sl} (hg : SG X tg is g) (ha : SE X W Γ a fa) (hΓ : ∀ i ∈ is, Γ[i]? ≠ some true := by decide) (hs : swapsWithSole [tg] a pos.line X.env = pure false := by rfl) (hw : swappedStores [tg] a X.env = pure none := by rfl)
    (h1 : (assignEach [tg] X.env).map (·.2) = [assign tg X.env] := by rfl) : SS X W ρ ΓL Γ (.Assign [tg] a pos) (sTg g fa) Γ := by
  intro c sl st α σ H Dn R h
  refine ⟨_, ps_asg pe_wp pg_wp hs hw h1, ?_⟩
  refine ha c sl st α σ H _ R ((Vx.R.sat_fl.mp h).imp (fun d s1 hd v α1 H1 R1 S1 r1 => ?_) fun x s1 hx => hx Γ σ)
  cases eg : g d sl with
  | none => rw [eg] at hd; exact False.elim hd
  | some l1 =>
    rw [eg] at hd
    exact hg c Γ sl s1 α1 σ H1 d v l1 _ hΓ R1 r1 eg fun σ' R2 hl _ _ => hd α1 σ' H1 R2 (S1.nn.trans (stp_loc hl))
theorem FQ.sat {D : Ends} {r : Fl} (h : FQ K W ρ ΓL c Γ α σ H D Γ' r) : r.Sat (PF K c Γ α σ H D.nx Γ') (PR K c ρ D.rt) (PF K c Γ α σ H D.bk ΓL) (PF K c Γ α σ H D.ct ΓL) (fun x l s => ∀ Γ'' σ'', PX K c Γ'' l σ'' W x s) := h
/-- a loop's body, from the loop's own ends -/
theorem loop_body {D : Ends} {g : Fl} {k : Sl → Sto → Fl} {Nx : St → Hp → Prop} {c0 : Cz}
    (h : (match g with | .nx l s => k l s | .ct l s => k l s | .bk l s => .nx l s | f => f : Fl).Sat (PF K c Γ α σ H D.nx Γ) (PR K c ρ D.rt) (PF K c Γ α σ H D.bk ΓL) (PF K c Γ α σ H D.ct ΓL) (fun x l s => ∀ Γ'' σ'', PX K c Γ'' l σ'' W x s))
    (hk : ∀ l s, FQ K W ρ ΓL c Γ α σ H D Γ (k l s) → PF K c Γ α σ H Nx Γ l s) : FQ K W ρ Γ c Γ α σ H { D with nx := Nx, ct := Nx, bk := D.nx } Γ g := by
  cases g with
  | nx l s => exact hk l s h
  | ct l s => exact hk l s h
  | bk l s => exact h
  | rt d s => exact h
  | ex x l s => exact h
  | no => exact h
theorem ss_for {tg iter : Expr} {body : List Stmt} {is : List Nat} {g : D → Sl → Option Sl} {it : FA} {fb : FS} (hp : PassesOwn (model X.prog X.w) X.A X.env X.xe) (hc : X.calm = true) (hi : SI X W Γ false tg iter it) (hg : SG X tg is g) (hb : SSs X W ρ Γ Γ body fb Γ) (hΓ : ∀ i ∈ is, Γ[i]? ≠ some true := by decide)
    (hs : ∀ x, foldedSetIterable iter X.env x = pure x := by intro _; rfl) : SS X W ρ ΓL Γ (.For tg iter body [] pos) (sFor it g fb) Γ := by
  intro c sl st α σ H Dn R h
  refine ⟨_, ps_for hp hc pi_wp pg_wp pss_wp hs, ?_⟩
  refine hi c sl st α σ H _ R ((Vx.R.sat_fl.mp h).imp (fun ds s1 hd J α1 H1 R1 S1 hJ => ?_) fun x s1 hx => hx Γ σ)
  have hJ : Yields X.K (NN c Γ σ α1) (NN c Γ σ α1) α1 H1 J ds := hJ
  refine ⟨fun i m σ' H' => m = ds.length - i ∧ ∃ sl' st' α', Rel X.K c Γ sl' st' α' σ' H' ∧ Stp (NN c Γ σ α1) α1 H1 (NN c Γ σ' α') α' H' ∧ FQ X.K W ρ ΓL c Γ α' σ' H' Dn Γ (forD g fb (ds.drop i) sl' st'), ⟨ds.length, by simp, sl, s1, α1, R1, .refl, FQ.from S1.nn hd⟩, ?_⟩
  rintro i m σ2 H2 ⟨rfl, sl2, st2, α2, R2, S2, q2⟩
  obtain ⟨y1, y2⟩ := hJ _ _ α2 H2 S2 S2 R2.nn
  by_cases hlt : i < ds.length
  · have hd' : ds[i]? = some ds[i] := List.getElem?_eq_getElem hlt
    obtain ⟨go, yl⟩ := y1 i _ hd'
    rw [List.drop_eq_getElem_cons hlt] at q2
    refine .inr ⟨go, fun σ' H' => ∃ sl' st' α', Rel X.K c Γ sl' st' α' σ' H' ∧ Stp (NN c Γ σ α1) α1 H1 (NN c Γ σ' α') α' H' ∧ FQ X.K W ρ ΓL c Γ α' σ' H' Dn Γ (forD g fb (ds.drop (i + 1)) sl' st'), ?_, ?_⟩
    · rintro σ' H' ⟨sl', st', α', h1, h2, h3⟩
      exact ⟨_, by omega, rfl, sl', st', α', h1, h2, h3⟩
    · intro x H3 hy
      obtain ⟨G, rx⟩ := yl x H3 hy
      have R3 := R2.grow G
      unfold forD at q2
      cases eg : g ds[i] sl2 with
      | none => rw [eg] at q2; exact False.elim q2
      | some l1 =>
        rw [eg] at q2
        refine hg c Γ sl2 st2 α2 σ2 H3 _ x l1 _ hΓ R3 rx eg fun σ4 R4 hl _ _ => ?_
        have S4 : Stp (NN c Γ σ2 α2) α2 H2 (NN c Γ σ4 α2) α2 H3 := (Stp.grow G).trans (stp_loc hl)
        refine hb c l1 st2 α2 σ4 H3 _ R4 (loop_body (c0 := c) (FQ.from S4 q2).sat fun l s hq α' σ' H' R' S' => ?_)
        exact ⟨l, s, α', R', S2.trans (S4.trans S'), FQ.from S' hq⟩
  · have hge : ds.length ≤ i := Nat.le_of_not_lt hlt
    rw [List.drop_eq_nil_iff.mpr hge] at q2
    exact .inl ⟨y2 i hge, q2 α2 σ2 H2 R2 .refl⟩
theorem ss_while {e : Expr} {body : List Stmt} {tc : FT} {fb : FS} (n : Nat) (hp : PassesOwn (model X.prog X.w) X.A X.env X.xe) (hc : ST X W Γ e tc) (hb : SSs X W ρ Γ Γ body fb Γ) : SS X W ρ ΓL Γ (.While e body [] pos) (sWhile n tc fb) Γ := by
  intro c sl st α σ H Dn R h
  refine ⟨_, ps_while hp pt_wp pss_wp, ?_⟩
  refine ⟨fun m σ' H' => ∃ sl' st' α', Rel X.K c Γ sl' st' α' σ' H' ∧ FQ X.K W ρ ΓL c Γ α' σ' H' Dn Γ (whileD tc fb m sl' st'), ⟨n, sl, st, α, R, h⟩, ?_⟩
  rintro m σ2 H2 ⟨sl2, st2, α2, R2, q2⟩
  cases m with
  | zero => exact False.elim q2
  | succ m =>
    unfold whileD at q2
    refine hc c sl2 st2 α2 σ2 H2 _ R2 ((Vx.R.sat_fl.mp q2.sat).imp (fun k s3 hk α3 H3 R3 S3 => ?_) fun x s1 hx => hx Γ σ2)
    cases k with
    | true =>
      rw [if_pos rfl] at hk ⊢
      refine ⟨fun σ' H' => ∃ sl' st' α', Rel X.K c Γ sl' st' α' σ' H' ∧ FQ X.K W ρ ΓL c Γ α' σ' H' Dn Γ (whileD tc fb m sl' st'), fun σ' H' q => ⟨m, Nat.lt_succ_self _, q⟩, ?_⟩
      refine hb c sl2 s3 α3 σ2 H3 _ R3 (loop_body (c0 := c) (FQ.from S3.nn hk).sat fun l s hq α' σ' H' R' S' => ?_)
      exact ⟨l, s, α', R', FQ.from S' hq⟩
    | false =>
      rw [if_neg Bool.false_ne_true] at hk ⊢
      exact hk α3 σ2 H3 R3 S3.nn
end
end Vx

/-! VCall: what is walked, comprehensions, calls, lists changed in place, a def as a whole. -/
namespace Vx
open PySem PySem.Spec L2
variable [Wd]
section
variable {X : Cx} {W : WXc} {ρ : Bool} {Γ Γ' Γ'' ΓL : List Bool} {e a b : Expr} {es : List Expr} {s : Stmt} {ss : List Stmt} {f fa fb fc : FE} {x : Str} {pos p : Pos} {g1 g2 : FS}
variable {K : PySem.W.Frag} {N T : Addr → Prop} {α α' : List Addr} {H H' : Hp} {c c' : Cz} {sl : Sl} {st st' : Sto} {σ : St}

/-! ### what is walked -/
theorem rgD_get {lo : Int} {n i : Nat} {d : D} (h : (rgD lo n)[i]? = some d) : i < n ∧ d = .int (lo + i) := by
  unfold rgD at h
  rw [List.getElem?_map] at h
  cases q : (List.range n)[i]? with
  | none => rw [q] at h; cases h
  | some k =>
    rw [q] at h
    cases h
    obtain ⟨hl, hk⟩ := List.getElem?_eq_some_iff.mp q
    rw [List.length_range] at hl
    rw [List.getElem_range] at hk
    rw [← hk]
    exact ⟨hl, rfl⟩
theorem rgD_length {lo : Int} {n : Nat} : (rgD lo n).length = n := by unfold rgD; rw [List.length_map, List.length_range]
theorem yields_rg {lo : Int} {n : Nat} : Yields K N T α H (Itr lo n) (rgD lo n) := by
  intro N' T' α' H' _ _ _
  refine ⟨fun i d h => ?_, fun i h => by rw [rgD_length] at h; exact h⟩
  obtain ⟨hl, rfl⟩ := rgD_get h
  refine ⟨hl, fun x H'' y => ?_⟩
  obtain ⟨rfl, rfl⟩ := y
  exact ⟨Same.refl _, .int _⟩
theorem rgOk_iff {i : Int} (h : rgOk i = true) : -(2 ^ 62) ≤ i ∧ i < 2 ^ 62 := by
  unfold rgOk at h
  rw [Bool.and_eq_true, decide_eq_true_eq, decide_eq_true_eq] at h
  exact h
theorem si_rg1 {tg : Expr} {fr : FA} {bb : Bool} (hm : X.mg "range" = none) (ha : SA X W Γ [a] fr) (hg : Gl X "range" := by rfl) (hs : starEach [a] X.env = [(false, eval a X.env)] := by rfl) : SI X W Γ bb tg (.Call (.Name "range" p) [a] [] pos) (itRg1 fr) := by
  intro c sl st α σ H R' Rl h
  refine ⟨_, pi_range1 hg hm pa_wp hs, ?_⟩
  refine ha c sl st α σ H _ Rl ((Vx.R.sat_bind.mp h).imp (fun ds s1 hd vs α1 H1 R1 S1 r1 => ?_) fun _ _ z => z)
  split at hd
  · rename_i j
    by_cases hj : rgOk j = true
    · rw [if_pos hj] at hd
      cases r1 with
      | cons r t =>
        cases t
        cases r
        obtain ⟨h1, h2⟩ := rgOk_iff hj
        exact ⟨j, rfl, h1, h2, hd _ α1 H1 R1 S1 yields_rg⟩
    · rw [if_neg hj] at hd
      exact False.elim hd
  · exact False.elim hd
theorem si_rg2 {tg : Expr} {fr : FA} {bb : Bool} (hm : X.mg "range" = none) (ha : SA X W Γ [a, b] fr) (hg : Gl X "range" := by rfl) (hs : starEach [a, b] X.env = [(false, eval a X.env), (false, eval b X.env)] := by rfl) (hs2 : starEach [b] X.env = [(false, eval b X.env)] := by rfl) : SI X W Γ bb tg (.Call (.Name "range" p) [a, b] [] pos) (itRg2 fr) := by
  intro c sl st α σ H R' Rl h
  refine ⟨_, pi_range2 hg hm pa_wp hs hs2, ?_⟩
  refine ha c sl st α σ H _ Rl ((Vx.R.sat_bind.mp h).imp (fun ds s1 hd vs α1 H1 R1 S1 r1 => ?_) fun _ _ z => z)
  split at hd
  · rename_i i j
    by_cases hj : (rgOk i && rgOk j) = true
    · rw [if_pos hj] at hd
      rw [Bool.and_eq_true] at hj
      cases r1 with
      | cons r t =>
        cases t with
        | cons r2 t =>
          cases t
          cases r
          cases r2
          obtain ⟨h1, h2⟩ := rgOk_iff hj.1
          obtain ⟨h3, h4⟩ := rgOk_iff hj.2
          exact ⟨i, j, rfl, ⟨h1, h2, h3, h4⟩, hd _ α1 H1 R1 S1 yields_rg⟩
    · rw [if_neg hj] at hd
      exact False.elim hd
  · exact False.elim hd
/-- a list or tuple that stays as it is -/
theorem yields_lst {a : Addr} {ds : List D} {vs : List V} (h : (¬ T a ∧ Rd H a (.lst vs)) ∨ KL K a vs) (r : RDs K N α H ds vs) : Yields K N T α H (Itl K a) ds := by
  intro N' T' α' H' sT sN hN
  have hq : SqL K H' a vs := by
    rcases h with ⟨n, h⟩ | h
    · exact sqL_of (sT.rd n h).1
    · exact h.sq
  have r' := r.step sN
  refine ⟨fun i d hd => ?_, fun i hi => ⟨vs, hq, by rw [← r.length]; exact hi⟩⟩
  obtain ⟨v, h1, h2⟩ := r'.get hd
  refine ⟨⟨vs, v, hq, h1⟩, fun x H'' y => ?_⟩
  obtain ⟨rfl, y⟩ := y
  have := y vs hq
  rw [h1] at this
  cases this
  exact ⟨Same.refl _, h2⟩
theorem yields_tup {a : Addr} {ds : List D} {vs : List V} (n : ¬ N a) (h : Rd H a (.tup vs)) (r : RDs K N α H ds vs) : Yields K N T α H (Itt K a) ds := by
  intro N' T' α' H' sT sN hN
  have hq : SqT K H' a vs := sqT_of (sN.rd n h).1
  have r' := r.step sN
  refine ⟨fun i d hd => ?_, fun i hi => ⟨vs, hq, by rw [← r.length]; exact hi⟩⟩
  obtain ⟨v, h1, h2⟩ := r'.get hd
  refine ⟨⟨vs, v, hq, h1⟩, fun x H'' y => ?_⟩
  obtain ⟨rfl, y⟩ := y
  have := y vs hq
  rw [h1] at this
  cases this
  exact ⟨Same.refl _, h2⟩
theorem nt_of {bb : Bool} : ∀ a, (if bb then NB c α else NN c Γ σ α) a → NN c Γ σ α a := by
  intro a h
  cases bb with
  | true => exact .inl h
  | false => exact h
/-- a list or a tuple, the value of a -/
theorem si_seq {tg : Expr} {bb : Bool} (ha : SE X W Γ a fa) : SI X W Γ bb tg a (itSeq fa) := by
  intro c sl st α σ H R' Rl h
  unfold itSeq at h
  have h0 := Vx.R.sat_bind.mp h
  cases ef : fa sl st with
  | no => rw [ef] at h0; exact False.elim h0
  | ex x s1 =>
    rw [ef] at h0
    exact ⟨_, pi_list pe_wp, ha c sl st α σ H _ Rl (by rw [ef]; exact h0)⟩
  | ok d s1 =>
    rw [ef] at h0
    cases d with
    | lst xs =>
      refine ⟨_, pi_list pe_wp, ha c sl st α σ H _ Rl ?_⟩
      rw [ef]
      intro v α1 H1 R1 S1 r1
      have rb := RB.of (T := if bb then NB c α1 else NN c Γ σ α1) r1 nt_of
      obtain ⟨q, vs, rfl, hq, r⟩ := id rb
      obtain ⟨_, vs', e, hs, _⟩ := rb.lst
      exact ⟨q, rfl, ⟨vs, by rcases hq with ⟨_, hq⟩ | hq; exact sqL_of hq; exact hq.sq⟩, h0 _ α1 H1 R1 S1 (yields_lst hq r)⟩
    | tup xs =>
      refine ⟨_, pi_tup pe_wp, ha c sl st α σ H _ Rl ?_⟩
      rw [ef]
      intro v α1 H1 R1 S1 r1
      cases r1 with
      | tup n hr r => exact ⟨_, rfl, ⟨_, sqT_of hr⟩, h0 _ α1 H1 R1 S1 (yields_tup n hr r)⟩
    | _ => exact False.elim h0
/-- .. in a comprehension, one of the frame's own -/
theorem si_seqB {tg : Expr} (ha : SB X W Γ a fa) : SI X W Γ true tg a (itSeq fa) := by
  intro c sl st α σ H R' Rl h
  unfold itSeq at h
  have h0 := Vx.R.sat_bind.mp h
  cases ef : fa sl st with
  | no => rw [ef] at h0; exact False.elim h0
  | ex x s1 =>
    rw [ef] at h0
    exact ⟨_, pi_list pe_wp, ha c sl st α σ H _ Rl (by rw [ef]; exact h0)⟩
  | ok d s1 =>
    rw [ef] at h0
    cases d with
    | lst xs =>
      refine ⟨_, pi_list pe_wp, ha c sl st α σ H _ Rl ?_⟩
      rw [ef]
      intro v α1 H1 R1 S1 r1
      obtain ⟨q, vs, rfl, hq, r⟩ := r1
      exact ⟨q, rfl, ⟨vs, by rcases hq with ⟨_, hq⟩ | hq; exact sqL_of hq; exact hq.sq⟩, h0 _ α1 H1 R1 S1 (yields_lst hq r)⟩
    | tup xs =>
      refine ⟨_, pi_tup pe_wp, ha c sl st α σ H _ Rl ?_⟩
      rw [ef]
      intro v α1 H1 R1 S1 r1
      obtain ⟨q, vs, rfl, n, hr, r⟩ := RB.tup r1
      exact ⟨_, rfl, ⟨_, sqT_of hr⟩, h0 _ α1 H1 R1 S1 (yields_tup n hr r)⟩
    | _ => exact False.elim h0
theorem si_str {tg : Expr} {bb : Bool} (ha : SE X W Γ a fa) : SI X W Γ bb tg a (itStr fa) := by
  intro c sl st α σ H R' Rl h
  refine ⟨_, pi_str pe_wp, ?_⟩
  refine ha c sl st α σ H _ Rl ((Vx.R.sat_bind.mp h).imp (fun d s1 hd v α1 H1 R1 S1 r1 => ?_) fun _ _ z => z)
  split at hd
  · rename_i z
    cases r1
    refine ⟨z, rfl, hd _ α1 H1 R1 S1 ?_⟩
    intro N' T' α' H' _ _ _
    have hl : z.cps.size = z.cps.toList.length := Array.length_toList.symm
    refine ⟨fun i d hd => ?_, fun i hi => by rw [List.length_map] at hi; show z.cps.size ≤ i; rw [hl]; exact hi⟩
    rw [List.getElem?_map] at hd
    cases q : z.cps.toList[i]? with
    | none => rw [q] at hd; cases hd
    | some k =>
      rw [q] at hd
      cases hd
      have hlt : i < z.cps.size := by rw [hl]; exact (List.getElem?_eq_some_iff.mp q).1
      refine ⟨hlt, fun x H'' y => ?_⟩
      obtain ⟨rfl, k', h1, rfl⟩ := y
      have e : z.cps[i]? = z.cps.toList[i]? := by simp
      rw [e, q] at h1
      cases h1
      exact ⟨Same.refl _, .str _⟩
  · exact False.elim hd

/-! ### the frame behind something that ran elsewhere -/
theorem Rel.carry {st1 : Sto} (R : Rel K c Γ sl st1 α σ H) (S : Ste α H α' H') (hB : ∀ a, c'.B a → c.B a ∨ (H a = none ∧ H' a ≠ none ∧ a ∉ α')) (e0 : c'.H0 = c.H0) (e1 : c'.α0 = c.α0)
    (hs : StoRel K (NN c' Γ σ α') α' H' st') (hα : ∀ a, a ∈ α' → ¬ c.B a) : Rel K c' Γ sl st' α' σ H' := by
  have out : ∀ a o, H a = some o → a ∉ α → a ∉ α' := fun a o h n m => (S.new a m).elim n fun z => by rw [h] at z; cases z
  have S2 : Stp (NN c Γ σ α) α H (NN c' Γ σ α') α' H' := by
    refine ⟨S.pre, fun a o h n => ⟨S.keep a o h fun m => n (.inl (.inr m)), fun z => ?_⟩⟩
    rcases z with (z | z) | z
    · rcases hB a z with z | ⟨z, _⟩
      · exact n (.inl (.inl z))
      · rw [h] at z; cases z
    · exact out a o h (fun m => n (.inl (.inr m))) z
    · exact n (.inr z)
  refine ⟨R.len, fun i d h n => ?_, fun i h => ?_, R.dist, hs, fun a h => ?_, fun a m h => ?_, ?_, fun a m => ?_, fun a o h n => ?_⟩
  · obtain ⟨v, h1, h2⟩ := R.val i d h n
    exact ⟨v, h1, h2.step S2⟩
  · obtain ⟨d, a, o, h1, h2, h3, h4, h5, h6⟩ := R.own i h
    have na : a ∉ α := fun m => h6 (.inr m)
    refine ⟨d, a, o, h1, h2, S.keep a o h3 na, h4.step S2, by rw [e0]; exact h5, fun z => ?_⟩
    rcases z with z | z
    · rcases hB a z with z | ⟨z, _⟩
      · exact h6 (.inl z)
      · rw [h3] at z; cases z
    · exact out a o h3 na z
  · rcases hB a h with h | ⟨_, h, _⟩
    · cases q : H a with
      | none => exact absurd q (R.bt a h)
      | some o =>
        rw [S.keep a o q fun m => R.αB a m h]
        exact fun z => nomatch z
    · exact h
  · rcases hB a h with h | ⟨_, _, h⟩
    · exact hα a m h
    · exact h m
  · obtain ⟨t, e⟩ := R.αn
    obtain ⟨t2, e2⟩ := S.pre
    exact ⟨t ++ t2, by rw [e2, e, e1, List.append_assoc]⟩
  · rw [e0, e1]
    rcases S.new a m with h | h
    · exact R.αf a h
    · exact .inr (R.fresh0 h)
  · rw [e0] at h
    rw [e1] at n
    have h1 := R.fr a o h n
    exact S.keep a o h1 fun m => (R.αf a m).elim n fun z => by rw [h] at z; cases z
/-- a barred object is changed -/
theorem Rel.barred {p : Addr} {o o' : HO} (R : Rel K (c.add p) Γ sl st α σ H) (hp : H p = some o) (h0 : c.H0 p = none) : Rel K (c.add p) Γ sl st α σ (upd H p o') ∧ Stp (NN (c.add p) Γ σ α) α H (NN (c.add p) Γ σ α) α (upd H p o') := by
  have np : NN (c.add p) Γ σ α p := .inl (.inl (.inr rfl))
  have S : Stp (NN (c.add p) Γ σ α) α H (NN (c.add p) Γ σ α) α (upd H p o') := ⟨⟨[], by simp⟩, fun b u h n => ⟨by rw [upd_ne (fun e => n (by rw [e]; exact np))]; exact h, n⟩⟩
  have nα : p ∉ α := fun m => R.αB p m (.inr rfl)
  refine ⟨⟨R.len, fun i d h n => ?_, fun i h => ?_, R.dist, R.sto.step S fun a m => upd_ne fun e => nα (e ▸ m), fun a h => ?_, R.αB, R.αn, R.αf, fun a u h n => ?_⟩, S⟩
  · obtain ⟨v, h1, h2⟩ := R.val i d h n
    exact ⟨v, h1, h2.step S⟩
  · obtain ⟨d, a, u, h1, h2, h3, h4, h5, h6⟩ := R.own i h
    exact ⟨d, a, u, h1, h2, by rw [upd_ne (fun e => h6 (.inl (.inr e)))]; exact h3, h4.step S, h5, h6⟩
  · by_cases e : a = p
    · rw [e, upd_same]
      exact fun z => nomatch z
    · rw [upd_ne e]
      exact R.bt a h
  · rw [upd_ne (fun e => by rw [e] at h; have h : c.H0 p = some u := h; rw [h0] at h; cases h)]
    exact R.fr a u h n

/-! ### comprehensions -/
theorem wipe_get {σ : St} {vs : List Nat} {i : Nat} : (wipe σ vs)[i]? = if i ∈ vs then (σ[i]?).map (fun _ => none) else σ[i]? := by
  induction vs with
  | nil => rfl
  | cons v vs ih =>
    unfold wipe
    by_cases e : v = i
    · subst e
      rw [if_pos List.mem_cons_self]
      by_cases hl : v < (wipe σ vs).length
      · rw [List.getElem?_set_self hl]
        rw [wipe_length] at hl
        rw [List.getElem?_eq_getElem hl]
        rfl
      · rw [List.getElem?_eq_none (by rw [List.length_set]; exact Nat.le_of_not_lt hl)]
        rw [wipe_length] at hl
        rw [List.getElem?_eq_none (Nat.le_of_not_lt hl)]
        rfl
    · rw [getElem?_set_ne' e, ih]
      by_cases m : i ∈ vs
      · rw [if_pos m, if_pos (List.mem_cons_of_mem _ m)]
      · rw [if_neg m, if_neg (fun z => (List.mem_cons.mp z).elim (fun z => e z.symm) m)]
theorem wipe_same {σ σ' : St} {vs : List Nat} (hl : σ'.length = σ.length) (h : ∀ i, i ∉ vs → σ'[i]? = σ[i]?) : wipe σ' vs = wipe σ vs := by
  apply List.ext_getElem?
  intro i
  rw [wipe_get, wipe_get]
  by_cases m : i ∈ vs
  · rw [if_pos m, if_pos m]
    by_cases hi : i < σ.length
    · rw [List.getElem?_eq_getElem hi, List.getElem?_eq_getElem (by rw [hl]; exact hi)]
      rfl
    · rw [List.getElem?_eq_none (Nat.le_of_not_lt hi), List.getElem?_eq_none (by rw [hl]; exact Nat.le_of_not_lt hi)]
  · rw [if_neg m, if_neg m, h i m]
theorem wipeD_eq (l : Sl) : ∀ vs : List Nat, wipeD l vs = vs.foldr (fun v l => l.set v none) l
  | [] => rfl
  | v :: vs => by unfold wipeD; rw [wipeD_eq l vs]; rfl
theorem wipeD_length (l : Sl) : ∀ vs : List Nat, (wipeD l vs).length = l.length
  | [] => rfl
  | v :: vs => by unfold wipeD; rw [List.length_set, wipeD_length l vs]
theorem wipeD_get {l : Sl} {vs : List Nat} {i : Nat} : (wipeD l vs)[i]? = if i ∈ vs then (l[i]?).map (fun _ => none) else l[i]? := by
  induction vs with
  | nil => rfl
  | cons v vs ih =>
    unfold wipeD
    by_cases e : v = i
    · subst e
      rw [if_pos List.mem_cons_self]
      by_cases hl : v < (wipeD l vs).length
      · rw [List.getElem?_set_self hl]
        rw [wipeD_length] at hl
        rw [List.getElem?_eq_getElem hl]
        rfl
      · rw [List.getElem?_eq_none (by rw [List.length_set]; exact Nat.le_of_not_lt hl)]
        rw [wipeD_length] at hl
        rw [List.getElem?_eq_none (Nat.le_of_not_lt hl)]
        rfl
    · rw [getElem?_set_ne' e, ih]
      by_cases m : i ∈ vs
      · rw [if_pos m, if_pos (List.mem_cons_of_mem _ m)]
      · rw [if_neg m, if_neg (fun z => (List.mem_cons.mp z).elim (fun z => e z.symm) m)]
theorem wipeD_same {l l' : Sl} {vs : List Nat} (hl : l'.length = l.length) (h : ∀ i, i ∉ vs → l'[i]? = l[i]?) : wipeD l' vs = wipeD l vs := by
  apply List.ext_getElem?
  intro i
  rw [wipeD_get, wipeD_get]
  by_cases m : i ∈ vs
  · rw [if_pos m, if_pos m]
    by_cases hi : i < l.length
    · rw [List.getElem?_eq_getElem hi, List.getElem?_eq_getElem (by rw [hl]; exact hi)]
      rfl
    · rw [List.getElem?_eq_none (Nat.le_of_not_lt hi), List.getElem?_eq_none (by rw [hl]; exact Nat.le_of_not_lt hi)]
  · rw [if_neg m, if_neg m, h i m]
theorem Rel.wiped {vs : List Nat} (R : Rel K c Γ sl st α σ H) (hΓ : ∀ i ∈ vs, Γ[i]? ≠ some true) : Rel K c Γ (wipeD sl vs) st α (wipe σ vs) H ∧ ∀ a, LocO Γ (wipe σ vs) a ↔ LocO Γ σ a := by
  induction vs with
  | nil => exact ⟨R, fun _ => Iff.rfl⟩
  | cons v vs ih =>
    obtain ⟨h1, h2⟩ := ih fun i m => hΓ i (List.mem_cons_of_mem _ m)
    have hv := hΓ v List.mem_cons_self
    unfold wipe wipeD
    exact ⟨h1.forget hv, fun a => (loc_set hv a).trans (h2 a)⟩
/-- a target that changes its own slots alone -/
def TgOk (is : List Nat) (g : D → Sl → Option Sl) : Prop := ∀ d l l', g d l = some l' → l'.length = l.length ∧ ∀ i, i ∉ is → l'[i]? = l[i]?
theorem tg1_ok (i : Nat) : TgOk [i] (tg1 i) := fun d l l' h => by
  cases h
  exact ⟨List.length_set .., fun j hj => getElem?_set_ne' fun e => hj (by rw [e]; exact List.mem_cons_self)⟩
theorem tg2_ok (i j : Nat) : TgOk [i, j] (tg2 i j) := fun d l l' h => by
  unfold tg2 at h
  split at h
  · cases h
    exact ⟨by rw [List.length_set, List.length_set], fun m hm => by
      rw [getElem?_set_ne' (fun e => hm (by rw [e]; exact List.mem_cons_of_mem _ List.mem_cons_self)), getElem?_set_ne' (fun e => hm (by rw [e]; exact List.mem_cons_self))]⟩
  · cases h
def wpTs (X : Cx) (ifs : List Expr) : TT := fun σ H Q => ∃ t, PTs X ifs t ∧ t σ H Q
def STs (X : Cx) (W : WXc) (Γ : List Bool) (ifs : List Expr) (f : FT) : Prop := ∀ c sl st α σ H Q, Rel X.K c Γ sl st α σ H →
  (f sl st).Sat (fun b st' => ∀ α' H', Rel X.K c Γ sl st' α' σ H' → Ste α H α' H' → Q b H') (PX X.K c Γ sl σ W) → wpTs X ifs σ H Q
theorem sts_nil : STs X W Γ [] mYes := fun c sl st α σ H Q R h => ⟨_, pts_nil, h α H R .refl⟩
theorem sts_one {t : FT} (h : ST X W Γ e t) : STs X W Γ [e] t := fun c sl st α σ H Q R q => ⟨_, pts_one pt_wp, h c sl st α σ H Q R q⟩
/-- in a comprehension nothing is raised -/
def W0 : WXc := fun _ _ _ _ => False
/-- of a block of a comprehension: whatever block it is -/
def gU (X : Cx) (scope : Scope) (tg : Expr) : TG := fun v σ H Q => ∀ (s : Shared) (H0 : Hp) (C : Addr) (cl : List (Str × Addr)) (fp : List Addr), wpG (X.blk s H0 scope (compEnvC scope cl C X.env) fp) tg v σ H Q
def tU (X : Cx) (scope : Scope) (ifs : List Expr) : TT := fun σ H Q => ∀ (s : Shared) (H0 : Hp) (C : Addr) (cl : List (Str × Addr)) (fp : List Addr), wpTs (X.blk s H0 scope (compEnvC scope cl C X.env) fp) ifs σ H Q
def eU (X : Cx) (scope : Scope) (elt : Expr) : TE := fun σ H Q => ∀ (s : Shared) (H0 : Hp) (C : Addr) (cl : List (Str × Addr)) (fp : List Addr), wpE (X.blk s H0 scope (compEnvC scope cl C X.env) fp) elt σ H Q
theorem pg_gU {scope : Scope} {tg : Expr} (s : Shared) (H : Hp) (C : Addr) (cl : List (Str × Addr)) (fp : List Addr) : PG (X.blk s H scope (compEnvC scope cl C X.env) fp) tg (gU X scope tg) := ⟨fun pins s' σ _ v u Q I r hh => pg_wp.run pins s' σ _ v u Q I r (hh s H C cl fp)⟩
theorem pt_tU {scope : Scope} {ifs : List Expr} (s : Shared) (H : Hp) (C : Addr) (cl : List (Str × Addr)) (fp : List Addr) : PTs (X.blk s H scope (compEnvC scope cl C X.env) fp) ifs (tU X scope ifs) := ⟨fun pins s' σ _ Q I hh => by obtain ⟨t, h1, h2⟩ := hh s H C cl fp; exact h1.run pins s' σ _ Q I h2⟩
theorem pe_eU {scope : Scope} {elt : Expr} (s : Shared) (H : Hp) (C : Addr) (cl : List (Str × Addr)) (fp : List Addr) : PE (X.blk s H scope (compEnvC scope cl C X.env) fp) elt (eU X scope elt) := ⟨fun pins s' σ _ Q I hh => pe_wp.run pins s' σ _ Q I (hh s H C cl fp)⟩
theorem comp_core {tg iter elt : Expr} {ifs : List Expr} {scope : Scope} {own : List (Str × Nat)} {is : List Nat} {g : D → Sl → Option Sl} {it : FA} {t : FT} {f : FE}
    (hi : SI X W Γ true tg iter it) (hg : ∀ (s : Shared) (H : Hp) (C : Addr) (cl : List (Str × Addr)) (fp : List Addr), SG (X.blk s H scope (compEnvC scope cl C X.env) fp) tg is g) (hgo : TgOk is g) (his : ∀ i ∈ is, i ∈ own.map (·.2))
    (ht : ∀ (s : Shared) (H : Hp) (C : Addr) (cl : List (Str × Addr)) (fp : List Addr), STs (X.blk s H scope (compEnvC scope cl C X.env) fp) W0 Γ ifs t) (he : ∀ (s : Shared) (H : Hp) (C : Addr) (cl : List (Str × Addr)) (fp : List Addr), SE (X.blk s H scope (compEnvC scope cl C X.env) fp) W0 Γ elt f)
    (hΓ : ∀ i ∈ own.map (·.2), Γ[i]? ≠ some true) {Q : VK} (R : Rel X.K c Γ sl st α σ H) (h : (mComp it g t f (own.map (·.2)) sl st).Sat (PQf X.K c Γ sl α σ H Q) (PX X.K c Γ sl σ W)) :
    tLc (wpI X tg iter) (gU X scope tg)
      (tU X scope ifs)
      (eU X scope elt) (own.map (·.2)) σ H Q := by
  generalize hvs : own.map (·.2) = vs at *
  refine hi c sl st α σ H _ R ((Vx.R.sat_bind.mp h).imp (fun ds s1 hd J α1 H1 R1 S1 hJ => ?_) fun _ _ z => z)
  intro Dl hD
  obtain ⟨R1', SD⟩ := R1.new (o := .lst []) hD
  have dα : ∀ {α' : List Addr} {H' : Hp}, Ste α1 H1 α' H' → Dl ∈ α' → Dl ∈ α1 ∨ H1 Dl = none := fun S m => S.new Dl m
  refine ⟨fun i m H' => m = ds.length - i ∧ ∃ acc accV st' α', H' Dl = some (.lst accV) ∧ Rel X.K (c.add Dl) Γ (wipeD sl vs) st' α' (wipe σ vs) H' ∧ Ste α1 H1 α' H' ∧ RDs X.K (NN (c.add Dl) Γ (wipe σ vs) α') α' H' acc accV ∧
    (compD g t f (wipeD sl vs) (ds.drop i) acc st').Sat (PQf X.K c Γ sl α σ H Q) (PX X.K c Γ sl σ W), ⟨ds.length, by simp, [], [], s1, α1, upd_same, (R1'.wiped hΓ).1, .grow (same_upd hD), .nil, hd⟩, ?_⟩
  rintro i m H2 ⟨rfl, acc, accV, st2, α2, hD2, R2, S2, r2, q2⟩
  have lw := (R1'.wiped hΓ).2
  obtain ⟨y1, y2⟩ := hJ (NN (c.add Dl) Γ (wipe σ vs) α2) (NB (c.add Dl) α2) α2 H2 (by
    refine ⟨S2.pre, fun a o e n => ⟨S2.keep a o e fun z => n (.inr z), fun z => ?_⟩⟩
    rcases z with z | z
    · exact z.elim (fun z => n (.inl z)) (fun z => by rw [z, hD] at e; cases e)
    · exact (S2.new a z).elim (fun z => n (.inr z)) fun z => by rw [e] at z; cases z) (by
    refine ⟨S2.pre, fun a o e n => ⟨S2.keep a o e fun z => n (.inl (.inr z)), fun z => ?_⟩⟩
    rcases z with (z | z) | z
    · exact z.elim (fun z => n (.inl (.inl z))) (fun z => by rw [z, hD] at e; cases e)
    · exact (S2.new a z).elim (fun z => n (.inl (.inr z))) fun z => by rw [e] at z; cases z
    · exact n (.inr ((lw a).mp z))) R2.nn
  by_cases hlt : i < ds.length
  · have hd' : ds[i]? = some ds[i] := List.getElem?_eq_getElem hlt
    obtain ⟨go, yl⟩ := y1 i _ hd'
    rw [List.drop_eq_getElem_cons hlt] at q2
    refine .inr ⟨go, fun H' => ∃ acc accV st' α', H' Dl = some (.lst accV) ∧ Rel X.K (c.add Dl) Γ (wipeD sl vs) st' α' (wipe σ vs) H' ∧ Ste α1 H1 α' H' ∧ RDs X.K (NN (c.add Dl) Γ (wipe σ vs) α') α' H' acc accV ∧
      (compD g t f (wipeD sl vs) (ds.drop (i + 1)) acc st').Sat (PQf X.K c Γ sl α σ H Q) (PX X.K c Γ sl σ W), ?_, ?_⟩
    · rintro H' ⟨acc', accV', st', α', h1, h2, h3, h4, h5⟩
      exact ⟨_, by omega, rfl, acc', accV', st', α', h1, h2, h3, h4, h5⟩
    · intro x H3 hy
      obtain ⟨G, rx⟩ := yl x H3 hy
      have R3 := R2.grow G
      unfold compD at q2
      cases eg : g ds[i] (wipeD sl vs) with
      | none => rw [eg] at q2; exact False.elim q2
      | some l1 =>
        rw [eg] at q2
        obtain ⟨gl, go'⟩ := hgo _ _ _ eg
        intro s9 H9 C9 cl9 fp9
        refine hg s9 H9 C9 cl9 fp9 (c.add Dl) Γ (wipeD sl vs) st2 α2 (wipe σ vs) H3 _ x l1 _ (fun i m => hΓ i (his i m)) R3 rx eg fun σ4 R4 hl4 ln4 at4 => ?_
        have w4 : wipe σ4 vs = wipe σ vs := by
          have e1 : wipe σ4 vs = wipe (wipe σ vs) vs := wipe_same ln4 fun i hi => at4 i fun m => hi (his i m)
          rw [e1]
          exact wipe_same (wipe_length _ _) fun i hi => by rw [wipe_get, if_neg hi]
        have wl : wipeD l1 vs = wipeD sl vs := by
          have e1 : wipeD l1 vs = wipeD (wipeD sl vs) vs := wipeD_same gl fun i hi => go' i fun m => hi (his i m)
          rw [e1]
          exact wipeD_same (wipeD_length _ _) fun i hi => by rw [wipeD_get, if_neg hi]
        refine ⟨w4, ?_⟩
        have back : ∀ {st' : Sto} {α' : List Addr} {H' : Hp}, Rel X.K (c.add Dl) Γ l1 st' α' σ4 H' → Rel X.K (c.add Dl) Γ (wipeD sl vs) st' α' (wipe σ vs) H' := fun R' => by
          have := (R'.wiped hΓ).1
          rw [w4, wl] at this
          exact this
        have S3 : Ste α1 H1 α2 H3 := S2.trans (.grow G)
        have hD3 := G _ _ hD2
        have nnL : ∀ α' a, NN (c.add Dl) Γ (wipe σ vs) α' a ↔ NN (c.add Dl) Γ σ4 α' a := fun α' a => by
          unfold NN
          rw [hl4]
        intro s8 H8 C8 cl8 fp8
        refine ht s8 H8 C8 cl8 fp8 (c.add Dl) l1 st2 α2 σ4 H3 _ R4 (Vx.R.sat_nox (E := fun _ _ => True) ((Vx.R.sat_bind.mp q2).imp (fun k s5 hk α5 H5 R5 S5 => ?_) fun _ _ _ => trivial))
        have dα5 : Dl ∉ α2 := fun m => R3.αB Dl m (.inr rfl)
        have hD5 := S5.keep Dl _ hD3 dα5
        have r5 : RDs X.K (NN (c.add Dl) Γ (wipe σ vs) α5) α5 H5 acc accV := ((r2.step (.grow G)).step S5.nn : RDs X.K (NN (c.add Dl) Γ (wipe σ vs) α5) α5 H5 acc accV)
        cases k with
        | false =>
          rw [if_neg Bool.false_ne_true] at hk ⊢
          exact ⟨acc, accV, s5, α5, hD5, back R5, S3.trans S5, r5, hk⟩
        | true =>
          rw [if_pos rfl] at hk ⊢
          intro s7 H7 C7 cl7 fp7
          refine he s7 H7 C7 cl7 fp7 (c.add Dl) l1 s5 α5 σ4 H5 _ R5 (Vx.R.sat_nox (E := fun _ _ => True) ((Vx.R.sat_bind.mp hk).imp (fun y s6 hy6 vy α6 H6 R6 S6 ry => ?_) fun _ _ _ => trivial))
          have dα6 : Dl ∉ α5 := fun m => R5.αB Dl m (.inr rfl)
          have hD6 := S6.keep Dl _ hD5 dα6
          have r6 := r5.step S6.nn
          by_cases hz : acc.length < 16777216
          · rw [if_pos hz] at hy6
            refine ⟨accV, hD6, by rw [← r6.length, sizeLine_eq]; exact hz, ?_⟩
            obtain ⟨R7, S7⟩ := (back R6).barred (o' := .lst (accV ++ [vy])) hD6 (R1.fresh0 hD)
            refine ⟨acc ++ [y], accV ++ [vy], s6, α6, upd_same, R7, ?_, (r6.append (.cons (ry.step (.less fun a z => (nnL α6 a).mp z)) .nil)).step S7, hy6⟩
            have S16 := S3.trans (S5.trans S6)
            exact ⟨S16.pre, S16.new, fun a o e n => by rw [upd_ne (ne_of_none e hD)]; exact S16.keep a o e n⟩
          · rw [if_neg hz] at hy6
            exact False.elim hy6
  · have hge : ds.length ≤ i := Nat.le_of_not_lt hlt
    rw [List.drop_eq_nil_iff.mpr hge] at q2
    refine .inl ⟨y2 i hge, ?_⟩
    have q2 : PQf X.K c Γ sl α σ H Q (.lst acc) st2 := q2
    have nn2 : ∀ a, NN (c.add Dl) Γ σ α2 a ↔ NN (c.add Dl) Γ (wipe σ vs) α2 a := fun a => by
      unfold NN
      rw [lw]
    have R3 : Rel X.K (c.add Dl) Γ sl st2 α2 σ H2 := R1.carry S2 (fun a z => z.elim .inl fun z => .inr ⟨by rw [z]; exact hD, by rw [z, hD2]; exact (fun z => nomatch z), by rw [z]; exact fun m => R2.αB Dl m (.inr rfl)⟩) rfl rfl
      (R2.sto.step (.less fun a z => (nn2 a).mp z) fun _ _ => rfl) fun a m z => R2.αB a m (.inl z)
    refine q2 Dl (.lst accV) α2 H2 ?_ hD2 R3 (S1.trans S2) (r2.step (.less fun a z => (nn2 a).mp z))
    cases q : H Dl with
    | none => rfl
    | some o =>
      by_cases mα : Dl ∈ α
      · obtain ⟨t, e⟩ := S1.pre
        exact absurd hD (R1.sto.tr (by rw [e]; exact List.mem_append_left _ mα))
      · rw [S1.keep Dl o q mα] at hD
        cases hD
theorem sf_comp {tg iter elt : Expr} {ifs : List Expr} {scope : Scope} {own : List (Str × Nat)} {is vs : List Nat} {g : D → Sl → Option Sl} {it : FA} {t : FT} {f : FE} (hc : X.calm = true) (hN : X.N.Nodup) (hi : SI X W Γ true tg iter it) (ok : BlkOk X.N X.env.scope scope own)
    (hg : ∀ (s : Shared) (H : Hp) (C : Addr) (cl : List (Str × Addr)) (fp : List Addr), SG (X.blk s H scope (compEnvC scope cl C X.env) fp) tg is g) (hgo : TgOk is g) (his : ∀ i ∈ is, i ∈ vs)
    (ht : ∀ (s : Shared) (H : Hp) (C : Addr) (cl : List (Str × Addr)) (fp : List Addr), STs (X.blk s H scope (compEnvC scope cl C X.env) fp) W0 Γ ifs t) (he : ∀ (s : Shared) (H : Hp) (C : Addr) (cl : List (Str × Addr)) (fp : List Addr), SE (X.blk s H scope (compEnvC scope cl C X.env) fp) W0 Γ elt f)
    (hΓ : ∀ i ∈ vs, Γ[i]? ≠ some true) (hs : ∀ x, foldedSetIterable iter X.env x = pure x := by intro _; rfl) (hvs : own.map (·.2) = vs := by rfl) : SF X W Γ (.ListComp elt [⟨tg, iter, ifs, 0⟩] scope pos) (mComp it g t f vs) := by
  subst hvs
  intro c sl st α σ H Q R h
  exact ⟨_, pe_lc hc hN pi_wp ok pg_gU pt_tU pe_eU hs, comp_core hi hg hgo his ht he hΓ R h⟩
/-- name = [..] on one line, the name a local -/
theorem ss_setLc (i : Nat) {y : Str} {py : Pos} {tg iter elt : Expr} {ifs : List Expr} {scope : Scope} {own : List (Str × Nat)} {is vs : List Nat} {g : D → Sl → Option Sl} {it : FA} {t : FT} {f : FE} {spos : Pos} (hc : X.calm = true) (hN : X.N.Nodup) (hy : X.N[i]? = some y) (hyl : X.env.scope.names.lookup y = some .local)
    (hsw : swapsWith (.ListComp elt [⟨tg, iter, ifs, 0⟩] scope pos) (some (.Name y py)) spos.line X.env = pure true) (hi : SI X W Γ true tg iter it) (ok : BlkOk X.N X.env.scope scope own)
    (hg : ∀ (s : Shared) (H : Hp) (C : Addr) (cl : List (Str × Addr)) (fp : List Addr), SG (X.blk s H scope (compEnvC scope cl C X.env) fp) tg is g) (hgo : TgOk is g) (his : ∀ i ∈ is, i ∈ vs)
    (ht : ∀ (s : Shared) (H : Hp) (C : Addr) (cl : List (Str × Addr)) (fp : List Addr), STs (X.blk s H scope (compEnvC scope cl C X.env) fp) W0 Γ ifs t) (he : ∀ (s : Shared) (H : Hp) (C : Addr) (cl : List (Str × Addr)) (fp : List Addr), SE (X.blk s H scope (compEnvC scope cl C X.env) fp) W0 Γ elt f)
    (hΓ : ∀ i ∈ vs, Γ[i]? ≠ some true) (hgl : i < Γ.length := by decide) (hs : ∀ x, foldedSetIterable iter X.env x = pure x := by intro _; rfl) (hvs : own.map (·.2) = vs := by rfl) : SS X W ρ ΓL Γ (.Assign [.Name y py] (.ListComp elt [⟨tg, iter, ifs, 0⟩] scope pos) spos) (sSetF i (mComp it g t f vs)) (Γ.set i true) := by
  subst hvs
  intro c sl st α σ H Dn R h
  refine ⟨_, ps_setLc hc hN hy hyl hsw pi_wp ok pg_gU pt_tU pe_eU hs, ?_⟩
  refine comp_core hi hg hgo his ht he hΓ R ((Vx.R.sat_fl.mp h).imp (fun d s1 hd => ?_) fun x s1 hx => hx Γ σ)
  by_cases hl : i < sl.length
  · rw [if_pos hl] at hd
    exact set_own_core R hgl hl hd
  · rw [if_neg hl] at hd
    exact False.elim hd
end
end Vx

/-! VFn: calls of the text's own defs, a def as a whole, lists changed in place, the law's end. -/
namespace Vx
open PySem PySem.Spec L2
variable [Wd]
section
variable {X : Cx} {W : WXc} {ρ : Bool} {Γ Γ' Γ'' ΓL : List Bool} {e a b : Expr} {es : List Expr} {s : Stmt} {ss : List Stmt} {f fa fb fc : FE} {x : Str} {pos p : Pos} {g1 g2 : FS}
variable {K : PySem.W.Frag} {N T : Addr → Prop} {α α' : List Addr} {H H' : Hp} {c c' : Cz} {sl : Sl} {st st' : Sto} {σ : St}

/-! ### what a def promises -/
def BA (B : Addr → Prop) (α : List Addr) : Addr → Prop := fun a => B a ∨ a ∈ α
/-- behind a call -/
structure Ext0 (K : PySem.W.Frag) (B : Addr → Prop) (α : List Addr) (H : Hp) (α' : List Addr) (H' : Hp) (st' : Sto) : Prop where
  st : Ste α H α' H'
  nb : ∀ a, a ∈ α' → ¬ B a
  sto : StoRel K (BA B α') α' H' st'
def FR (K : PySem.W.Frag) (ρ : Bool) (B : Addr → Prop) (α : List Addr) (H : Hp) (Q : VK) (d : D) (st' : Sto) : Prop :=
  (∀ v α' H', Ext0 K B α H α' H' st' → RD K (BA B α') α' H' d v → (ρ = true → ∀ ds ks, d ≠ .lst ds ∧ d ≠ .dic ks) → Q v H') ∧
  (ρ = true → ∀ p o α' H', H p = none → H' p = some o → Ext0 K (fun a => B a ∨ a = p) α H α' H' st' → ROb K (BA (fun a => B a ∨ a = p) α') α' H' p d o → Q (.ref p) H')
/-- a def that does what m says, and raises nothing -/
def FSpec (K : PySem.W.Frag) (ρ : Bool) (m : List D → Sto → R D) : Sp := fun vs H Q _ => ∃ (B : Addr → Prop) (α : List Addr) (ds : List D) (st : Sto),
  RDs K (BA B α) α H ds vs ∧ StoRel K (BA B α) α H st ∧ (∀ a, B a → H a ≠ none) ∧ (∀ a, a ∈ α → ¬ B a) ∧ (m ds st).Sat (FR K ρ B α H Q) fun _ _ => False
theorem ba_nn {a : Addr} : BA (fun a => c.B a ∨ LocO Γ σ a) α a ↔ NN c Γ σ α a := by
  unfold BA NN NB
  constructor
  · rintro ((h | h) | h)
    · exact .inl (.inl h)
    · exact .inr h
    · exact .inl (.inr h)
  · rintro ((h | h) | h)
    · exact .inl (.inl h)
    · exact .inr h
    · exact .inl (.inr h)
/-- the caller's side -/
theorem call_spec {m : List D → Sto → R D} {ds : List D} {vs : List V} {Q : VK} {E : XK} (R : Rel K c Γ sl st α σ H) (r : RDs K (NN c Γ σ α) α H ds vs)
    (h : (m ds st).nox.Sat (fun d st' => (∀ v α' H', Rel K c Γ sl st' α' σ H' → Ste α H α' H' → RD K (NN c Γ σ α') α' H' d v → (ρ = true → ∀ ds ks, d ≠ .lst ds ∧ d ≠ .dic ks) → Q v H') ∧
      (ρ = true → ∀ p o α' H', H p = none → H' p = some o → Rel K (c.add p) Γ sl st' α' σ H' → Ste α H α' H' → ROb K (NN (c.add p) Γ σ α') α' H' p d o → Q (.ref p) H')) (fun _ _ => False)) : FSpec K ρ m vs H Q E := by
  have L : Stp (NN c Γ σ α) α H (BA (fun a => c.B a ∨ LocO Γ σ a) α) α H := .less fun a z => ba_nn.mp z
  have hB : ∀ a, c.B a ∨ LocO Γ σ a → NN c Γ σ α a := fun a z => z.elim (fun z => .inl (.inl z)) .inr
  refine ⟨fun a => c.B a ∨ LocO Γ σ a, α, ds, st, r.step L, R.sto.step L fun _ _ => rfl, fun a z => R.tr (hB a z), fun a m z => ?_, ?_⟩
  · rcases z with z | ⟨i, z1, z2⟩
    · exact R.αB a m z
    · obtain ⟨d, a', o, h1, h2, h3, h4, h5, h6⟩ := R.own i z1
      rw [z2] at h2
      cases h2
      exact h6 (.inr m)
  · cases em : m ds st with
    | ex x s1 => rw [em] at h; exact False.elim h
    | no => rw [em] at h; exact False.elim h
    | ok d s1 =>
      rw [em] at h
      obtain ⟨h1, h2⟩ := h
      refine ⟨fun v α' H' X0 rv hn => ?_, fun hρ p o α' H' hp ho X0 ro => ?_⟩
      · have Lb : ∀ {a}, NN c Γ σ α' a → BA (fun a => c.B a ∨ LocO Γ σ a) α' a := fun z => ba_nn.mpr z
        exact h1 v α' H' (R.carry X0.st (fun a z => .inl z) rfl rfl (X0.sto.step (.less fun a z => Lb z) fun _ _ => rfl) fun a m z => X0.nb a m (.inl z)) X0.st (rv.step (.less fun a z => Lb z)) hn
      · have Lb : ∀ a, NN (c.add p) Γ σ α' a → BA (fun a => (c.B a ∨ LocO Γ σ a) ∨ a = p) α' a := fun a z => by
          rcases z with (z | z) | z
          · exact .inl (z.elim (fun z => .inl (.inl z)) .inr)
          · exact .inr z
          · exact .inl (.inl (.inr z))
        refine h2 hρ p o α' H' hp ho (R.carry X0.st (fun a z => z.elim .inl fun z => .inr ⟨by rw [z]; exact hp, by rw [z, ho]; exact (fun z => nomatch z), by rw [z]; exact fun m => X0.nb p m (.inr rfl)⟩) rfl rfl (X0.sto.step (.less Lb) fun _ _ => rfl) fun a m z => X0.nb a m (.inl (.inl z))) X0.st (ro.step (.less Lb))
theorem se_call {k : Nat} {fd : FuncData} {ps : List Str} {q : Addr} {m : List D → Sto → R D} {fr : FA} (G : FnOk X.prog X.w X.K X.mg X.base CX0 k q fd ps (FSpec X.K ρ m)) (hr : Room k X.A) (hm : X.mg x = some (.ref q)) (kp : PySem.W.keepIn X.K (.ref q) = true) (hb : Binds X.K fd ps []) (ha : SA X W Γ (e :: es) fr)
    (hg : Gl X x := by rfl) (hd : (x == ("__debug__" : Str)) = false := by decide) (he : starEach (e :: es) X.env = (false, eval e X.env) :: starEach es X.env := by rfl) (hpl : (backTo pos (starEach es X.env)).any (·.1) = false := by rfl) : SE X W Γ (.Call (.Name x p) (e :: es) [] pos) (mCall m fr) := by
  intro c sl st α σ H Q R h
  refine ⟨_, pe_call G hr hg hm kp hb .nil pass0 pa_wp hd he hpl, ?_⟩
  refine ha c sl st α σ H _ R ((Vx.R.sat_bind.mp h).imp (fun ds s1 hd vs α1 H1 R1 S1 r1 => ?_) fun _ _ z => z)
  rw [List.append_nil]
  refine call_spec R1 r1 ?_
  cases em : m ds s1 with
  | ex x s2 => rw [em] at hd; exact False.elim hd
  | no => rw [em] at hd; exact False.elim hd
  | ok d s2 =>
    rw [em] at hd
    have hd : PQ X.K c Γ sl α σ H Q d s2 := hd
    refine ⟨fun v α' H' R' S' r' _ => hd v α' H' R' (S1.trans S') r', fun _ p o α' H' h0 hp R' S' r' => ?_⟩
    exact hd (.ref p) α' H' R'.drop (S1.trans S') ((r'.step (.less nn_less)).rd hp (R'.add_ne fun z => R1.bt p z h0))
/-- .. a new list that is ours now -/
theorem sf_call {k : Nat} {fd : FuncData} {ps : List Str} {q : Addr} {m : List D → Sto → R D} {fr : FA} (G : FnOk X.prog X.w X.K X.mg X.base CX0 k q fd ps (FSpec X.K true m)) (hr : Room k X.A) (hm : X.mg x = some (.ref q)) (kp : PySem.W.keepIn X.K (.ref q) = true) (hb : Binds X.K fd ps []) (ha : SA X W Γ (e :: es) fr)
    (hg : Gl X x := by rfl) (hd : (x == ("__debug__" : Str)) = false := by decide) (he : starEach (e :: es) X.env = (false, eval e X.env) :: starEach es X.env := by rfl) (hpl : (backTo pos (starEach es X.env)).any (·.1) = false := by rfl) : SF X W Γ (.Call (.Name x p) (e :: es) [] pos) (mCallF m fr) := by
  intro c sl st α σ H Q R h
  refine ⟨_, pe_call G hr hg hm kp hb .nil pass0 pa_wp hd he hpl, ?_⟩
  refine ha c sl st α σ H _ R ((Vx.R.sat_bind.mp h).imp (fun ds s1 hd vs α1 H1 R1 S1 r1 => ?_) fun _ _ z => z)
  rw [List.append_nil]
  refine call_spec R1 r1 ?_
  cases em : m ds s1 with
  | ex x s2 => rw [em] at hd; exact False.elim hd
  | no => rw [em] at hd; exact False.elim hd
  | ok d s2 =>
    rw [em] at hd
    have hd : (if d.isMut = true then .ok d s2 else .no : Vx.R D).Sat (PQf X.K c Γ sl α σ H Q) (PX X.K c Γ sl σ W) := hd
    by_cases hmu : d.isMut = true
    · rw [if_pos hmu] at hd
      refine ⟨fun v α' H' R' S' r' hn => ?_, fun _ p o α' H' h0 hp R' S' r' => ?_⟩
      · cases d <;> first | exact absurd rfl (hn rfl _ []).1 | exact absurd rfl (hn rfl [] _).2 | (cases (show false = true from hmu))
      · refine hd p o α' H' ?_ hp R' (S1.trans S') r'
        cases q : H p with
        | none => rfl
        | some u =>
          by_cases mα : p ∈ α
          · obtain ⟨t, e⟩ := S1.pre
            exact absurd h0 (R1.sto.tr (by rw [e]; exact List.mem_append_left _ mα))
          · rw [S1.keep p u q mα] at h0
            cases h0
    · rw [if_neg hmu] at hd
      exact False.elim hd

/-! ### a def as a whole -/
theorem RDs.startG {ds : List D} {vs : List V} (r : RDs K N α H ds vs) : ∀ (i : Nat) (d : D), (ds.map some ++ List.replicate n none)[i]? = some (some d) → ∃ v, (vs.map some ++ List.replicate m (none : Option V))[i]? = some (some v) ∧ RD K N α H d v := by
  intro i d h
  by_cases hi : i < ds.length
  · rw [List.getElem?_append_left (by rw [List.length_map]; exact hi), List.getElem?_map] at h
    cases q : ds[i]? with
    | none => rw [q] at h; cases h
    | some d' =>
      rw [q] at h
      cases h
      obtain ⟨v, h1, h2⟩ := r.get q
      exact ⟨v, by rw [List.getElem?_append_left (by rw [List.length_map, ← r.length]; exact hi), List.getElem?_map, h1]; rfl, h2⟩
  · rw [List.getElem?_append_right (by rw [List.length_map]; exact Nat.le_of_not_lt hi)] at h
    rw [List.getElem?_replicate] at h
    split at h <;> cases h
theorem body_start {B : Addr → Prop} {ds : List D} {vs : List V} {n : Nat} (r : RDs K (BA B α) α H ds vs) (hs : StoRel K (BA B α) α H st) (hB : ∀ a, B a → H a ≠ none) (hα : ∀ a, a ∈ α → ¬ B a) (hΓ : ∀ i : Nat, Γ[i]? ≠ some true) :
    Rel K ⟨B, H, α⟩ Γ (startD n ds) st α (vs.map some ++ List.replicate (n - vs.length) none) H := by
  have L : ∀ a, NN ⟨B, H, α⟩ Γ (vs.map some ++ List.replicate (n - vs.length) none) α a → BA B α a := fun a z => by
    rcases z with z | ⟨i, z, _⟩
    · exact z
    · exact absurd z (hΓ i)
  have S : Stp (BA B α) α H (NN ⟨B, H, α⟩ Γ (vs.map some ++ List.replicate (n - vs.length) none) α) α H := .less L
  refine ⟨by unfold startD; rw [List.length_append, List.length_append, List.length_map, List.length_map, List.length_replicate, List.length_replicate, r.length], fun i d h _ => ?_, fun i h => absurd h (hΓ i), fun i j a h => absurd h (hΓ i), hs.step S fun _ _ => rfl, hB, hα, ⟨[], by simp⟩, fun a m => .inl m, fun a o h _ => h⟩
  exact (r.step S).startG i d h
theorem exit_ok {B : Addr → Prop} {H0 : Hp} {α0 : List Addr} (R : Rel K ⟨B, H0, α0⟩ Γ sl st α σ H) (h0 : ∀ a, a ∈ α0 → H0 a ≠ none) : Ext0 K B α0 H0 α H st := by
  refine ⟨⟨R.αn, R.αf, R.fr⟩, R.αB, R.sto.step (.less fun a z => .inl z) fun _ _ => rfl⟩
theorem fn_ok {P : Program} {w : World} {mg : Str → Option Value} {base : Heap} {x qual : Str} {stm : Stmt} {q : Addr} {fd : FuncData} {N ps : List Str} {k : Nat} {fb : FS} {ΓL Γ' : List Bool} (F : Fun K x qual stm q fd) (S : FnScope N ps (defScope stm))
    (hb : ∀ (cdv : Value) (A : Around) (outer : List Env) (s : Shared) (H : Hp) (E : XK), Room k (A.deeper (PyProof.Rows.envOfC qual (defScope stm) s.heap.objs.size q cdv)) → SSs (cxOf CX0 P w K mg base N qual (defScope stm) q cdv A outer s H E).nox W0 ρ ΓL (List.replicate N.length false) (defBody stm) fb Γ') :
    FnOk P w K mg base CX0 (k + 1) q fd ps (FSpec K ρ (mDef N.length ps.length fb)) := by
  refine F.ok S (fun vs H Q E h => ?_) (fun cdv A outer s H vs Q E hr h => ?_)
  · obtain ⟨B, α, ds, st, r, _, _, _, h⟩ := h
    rw [← r.length]
    unfold mDef at h
    by_cases e : ds.length = ps.length
    · exact e
    · rw [if_neg e] at h
      exact False.elim h
  · obtain ⟨B, α, ds, st, r, hs, hB, hα, h⟩ := h
    unfold mDef at h
    by_cases e : ds.length = ps.length
    · rw [if_pos e] at h
      have hΓ : ∀ i : Nat, (List.replicate N.length false)[i]? ≠ some true := fun i z => by
        rw [List.getElem?_replicate] at z
        split at z <;> cases z
      have R0 := body_start (n := N.length) r hs hB hα hΓ
      refine ⟨_, pss_wp, hb cdv A outer s H E hr _ _ _ _ _ H _ R0 ?_⟩
      have hα0 : ∀ a, a ∈ α → H a ≠ none := fun a m => hs.tr m
      have low : ∀ {Γ'' : List Bool} {σ'' : St} {α'' : List Addr} {B' : Addr → Prop} a, BA B' α'' a → NN ⟨B', H, α⟩ Γ'' σ'' α'' a := fun a z => .inl z
      have fin : ∀ {d : D} {s1 : Sto}, FR K ρ B α H Q d s1 → PR K ⟨B, H, α⟩ ρ Q d s1 := fun hd =>
        ⟨fun Γ'' sl'' σ'' v α' H' R' r' hn => hd.1 v α' H' (exit_ok R' hα0) (r'.step (.less low)) hn,
          fun hρ Γ'' sl'' σ'' p o α' H' h0 hp R' r' => hd.2 hρ p o α' H' h0 hp (exit_ok (B := fun a => B a ∨ a = p) R' hα0) (r'.step (.less (low (B' := fun a => B a ∨ a = p))))⟩
      cases eb : fb (startD N.length ds) st with
      | nx l s1 =>
        rw [eb] at h
        intro α' σ' H' R' S'
        exact (fin h).1 _ _ _ _ α' H' R' .non fun _ _ _ => ⟨(fun z => nomatch z), (fun z => nomatch z)⟩
      | rt d s1 => rw [eb] at h; exact fin h
      | bk l s1 => rw [eb] at h; exact False.elim h
      | ct l s1 => rw [eb] at h; exact False.elim h
      | ex x l s1 => rw [eb] at h; exact False.elim h
      | no => rw [eb] at h; exact False.elim h
    · rw [if_neg e] at h
      exact False.elim h
theorem FnOk.toM {P : Program} {w : World} {mg : Str → Option Value} {base : Heap} {q : Addr} {fd : FuncData} {ps : List Str} {k : Nat} {m m' : List D → Sto → R D} (h : FnOk P w K mg base CX0 k q fd ps (FSpec K ρ m)) (e : m = m') : FnOk P w K mg base CX0 k q fd ps (FSpec K ρ m') := e ▸ h

/-! ### the law's end -/
/-- a list of ints is handed in, True comes out -/
def spLaw (K : PySem.W.Frag) : Sp := fun vs H Q _ => ∃ (a : Addr) (ns : List Int), vs = [.ref a] ∧ SqL K H a (ns.map V.int) ∧ ns.length ≤ 63 ∧ Only H ∧ ∀ H', Q (.bl true) H'
theorem rds_ints : ∀ ns : List Int, RDs K N α H (ns.map D.int) (ns.map V.int)
  | [] => .nil
  | n :: ns => .cons (.int n) (rds_ints ns)
theorem law_spec {P : Program} {w : World} {mg : Str → Option Value} {base : Heap} {q : Addr} {fd : FuncData} {ps : List Str} {k : Nat} {m : List D → Sto → R D} (h : FnOk P w K mg base CX0 k q fd ps (FSpec K ρ m)) (hm : ∀ ns : List Int, ns.length ≤ 63 → ∃ st', m [.lst (ns.map .int)] [] = .ok (.bl true) st') : FnOk P w K mg base CX0 k q fd ps (spLaw K) :=
  h.imp fun vs H Q E hq => by
    obtain ⟨a, ns, rfl, hS, hl, hO, q⟩ := hq
    obtain ⟨st', e⟩ := hm ns hl
    refine ⟨fun _ => False, [], [.lst (ns.map .int)], [], ?_, ⟨rfl, List.nodup_nil, fun n ob a h => by simp at h⟩, fun _ z => z.elim, fun a m => by simp at m, ?_⟩
    · refine .cons ?_ .nil
      have nb : ¬ BA (fun _ => False) [] a := fun z => z.elim id (by simp)
      rcases hS with hS | hS
      · exact .lst nb hS (rds_ints ns)
      · exact .lstK (.inr hS) (rds_ints ns)
    · rw [e]
      exact ⟨fun v α' H' _ r _ => by cases r; exact q H', fun _ p o α' H' _ _ _ r => by cases o <;> exact False.elim r⟩
omit [Wd] in
theorem walk {l : PySem.W.OpenLaw} {q : Program} {loose : List Str} {XP : (Str → Option Value) → Heap → Prop} {YP : World → Heap → Prop} {d : DefRec} {K : Params → PySem.W.Frag} {k : Nat} {x : Str} (hn : l.most = some 63) (hdf : d.params.defaults = []) (hr : Room k callerA)
    (hY : ∀ (w : World) (h : Heap), YP w h → (K w.params).In h)
    (F : ∀ (w : World) (mg : Str → Option Value) (fa : Addr) (h : Heap), (K w.params).In h → h.Ns mainGlobals mg → mg d.name = some (.ref fa) →
      ∃ fd : FuncData, (∀ (s : Shared) (u : Value), BindsTo s fd ⟨[u], []⟩ [(x, u)]) ∧ ∀ base : Heap, (K w.params).In base → base.Ns mainGlobals mg → FnOk l.prog w (K w.params) mg base CX0 k fa fd [x] (spLaw (K w.params))) :
    PySem.W.WalkO q loose XP YP l.row.toRowW d [] (fun f vs => PySem.call f vs) :=
  L2.walk_of (n := 63) (k := k) (x := x) (CX := fun _ => CX0) (sp := fun w => spLaw (K w.params)) hn (by decide) hdf hr hY F (fun _ _ a ns hl hO hS => ⟨a, ns, rfl, hS, hl, hO, fun _ => rfl⟩) fun _ _ _ _ _ z => z

/-! ### lists changed in place -/
/-- x.append(e), x one of the frame's own lists -/
theorem ss_app (i : Nat) {p2 apos : Pos} (ha : SE X W Γ a fa) (hΓ : Γ[i]? = some true := by decide) (hN : X.N[i]? = some x := by rfl) (hv : Vis X.env.scope x := by first | exact Or.inl rfl | exact Or.inr (Or.inl rfl) | exact Or.inr (Or.inr rfl))
    (hd : (x == ("__debug__" : Str)) = false := by decide) (hcd : (x == ("__classdict__" : Str)) = false := by decide) (hs : swapsWith (.Call (.Attribute (.Name x p2) "append" apos) [a] [] p) none pos.line X.env = pure false := by rfl)
    (hbase : attributeBase (.Name x p2) "append" X.env (eval (.Name x p2) X.env) = eval (.Name x p2) X.env := by rfl) (hst : starEach [a] X.env = (false, eval a X.env) :: starEach [] X.env := by rfl)
    (pe : ∀ {t : TA}, PA X [a] t → PE X (.Call (.Attribute (.Name x p2) "append" apos) [a] [] p) (tBM X.K "list" rAppend (tVar i) t) := by intro t ht; exact pe_bm PySem.F.plainAttrs_list PySem.F.slot_list_append PySem.F.type_list_append mt_append (pv _) ht) :
    SS X W ρ ΓL Γ (.Expr (.Call (.Attribute (.Name x p2) "append" apos) [a] [] p) pos) (sApp i fa) Γ := by
  intro c sl st α σ H Dn R h
  refine ⟨_, ps_expr (pe (pa_cons pe_wp pa_nil hst)) hs, ?_⟩
  obtain ⟨d, q, o, e0, e1, ho, r, h0, n⟩ := R.own i hΓ
  refine ⟨.ref q, e1, ?_⟩
  unfold sApp at h
  rw [e0] at h
  cases d with
  | lst xs =>
    cases o with
    | lst vs =>
      refine ⟨.inl ⟨rfl, vs, sqL_of (.of ho)⟩, ?_⟩
      refine ha c sl st α σ H _ R ((Vx.R.sat_fl.mp h).imp (fun y s1 hy v α1 H1 R1 S1 r1 => ?_) fun x s1 hx => hx Γ σ)
      by_cases hz : xs.length < 16777216
      · rw [if_pos hz] at hy
        have ho1 := S1.keep q _ ho fun m => n (.inr m)
        have r2 : RDs X.K (NN c Γ σ α) α H xs vs := r
        have r3 := r2.step S1.nn
        refine ⟨q, vs, v, rfl, rfl, ho1, by rw [← r3.length, sizeLine_eq]; exact hz, ?_⟩
        obtain ⟨R2, S2⟩ := R1.change (d' := .lst (xs ++ [y])) (o' := .lst (vs ++ [v])) hΓ e1 (r3.append (.cons r1 .nil))
        exact hy α1 σ _ R2 (S1.nn.trans S2)
      · rw [if_neg hz] at hy
        exact False.elim hy
    | _ => exact False.elim r
  | _ => exact False.elim h
/-- x[k] = e, x one of the frame's own lists -/
theorem ss_put (i : Nat) {p2 : Pos} (ha : SE X W Γ a fa) (hb : SE X W Γ b fb) (hΓ : Γ[i]? = some true := by decide) (hN : X.N[i]? = some x := by rfl) (hv : Vis X.env.scope x := by first | exact Or.inl rfl | exact Or.inr (Or.inl rfl) | exact Or.inr (Or.inr rfl))
    (hd : (x == ("__debug__" : Str)) = false := by decide) (hcd : (x == ("__classdict__" : Str)) = false := by decide) (hs : swapsWithSole [.Subscript (.Name x p2) b p] a pos.line X.env = pure false := by rfl) (hw : swappedStores [.Subscript (.Name x p2) b p] a X.env = pure none := by rfl)
    (h1 : (assignEach [.Subscript (.Name x p2) b p] X.env).map (·.2) = [assign (.Subscript (.Name x p2) b p) X.env] := by rfl)
    (pg : ∀ {t u : TE}, PE X (.Name x p2) t → PE X b u → PG X (.Subscript (.Name x p2) b p) (L2.gSub t u rSetL) := by intro t u ht hu; exact pg_sub ht hu set_list) :
    SS X W ρ ΓL Γ (.Assign [.Subscript (.Name x p2) b p] a pos) (sPut i fa fb) Γ := by
  intro c sl st α σ H Dn R h
  refine ⟨_, ps_asg pe_wp (pg (pe_var hN hv hd hcd) pe_wp) hs hw h1, ?_⟩
  obtain ⟨d, q, o, e0, e1, ho, r, h0, n⟩ := R.own i hΓ
  unfold sPut at h
  rw [e0] at h
  cases d with
  | lst xs =>
    cases o with
    | lst vs =>
      refine ha c sl st α σ H _ R ((Vx.R.sat_fl.mp h).imp (fun y s1 hy v α1 H1 R1 S1 r1 => ?_) fun x s1 hx => hx Γ σ)
      refine ⟨.ref q, e1, ?_⟩
      refine hb c sl s1 α1 σ H1 _ R1 ((Vx.R.sat_fl.mp hy).imp (fun z s2 hz w α2 H2 R2 S2 r2 => ?_) fun x s1 hx => hx Γ σ)
      have S12 := S1.trans S2
      cases z with
      | int m =>
        cases r2
        cases ej : ixI xs.length m with
        | none => simp only [ej] at hz; exact False.elim hz
        | some j =>
          simp only [ej] at hz
          have r3 : RDs X.K (NN c Γ σ α) α H xs vs := r
          have r4 := r3.step S12.nn
          refine ⟨q, vs, m, j, rfl, rfl, S12.keep q _ ho fun m => n (.inr m), by rw [← r4.length]; exact ej, ?_⟩
          obtain ⟨R3, S3⟩ := R2.change (d' := .lst (xs.set j y)) (o' := .lst (vs.set j v)) hΓ e1 (r4.set j (r1.step S2.nn))
          exact hz α2 σ _ R3 (S12.nn.trans S3)
      | _ => exact False.elim hz
    | _ => exact False.elim r
  | _ => exact False.elim h
end
end Vx

/-! VMore: isinstance, op=, defs by name, the text's parts. -/
namespace Vx
open PySem PySem.Spec L2
variable [Wd]
section
variable {X : Cx} {W : WXc} {ρ : Bool} {Γ Γ' Γ'' ΓL : List Bool} {e a b : Expr} {es : List Expr} {s : Stmt} {ss : List Stmt} {f fa fb fc : FE} {x : Str} {pos p : Pos} {g1 g2 : FS}
variable {K : PySem.W.Frag} {N T : Addr → Prop} {α α' : List Addr} {H H' : Hp} {c c' : Cz} {sl : Sl} {st st' : Sto} {σ : St}
/-! ### isinstance -/
def tyN : D → String
  | .non => "NoneType" | .bl _ => "bool" | .int _ => "int" | .str _ => "str" | .tup _ => "tuple" | .lst _ => "list" | .dic _ => "dict" | .dit _ => "dict" | .obj _ => ""
theorem ty_of {d : D} {v : V} (h : RB K N T α H d v) (hn : ∀ n, d ≠ .obj n) (hnd : ∀ k, d ≠ .dic k ∧ d ≠ .dit k) : TyX K H v (.type (tyN d)) := by
  cases d with
  | non => cases (show RD K N α H _ v from h); exact .base .non
  | bl b => cases (show RD K N α H _ v from h); exact .base (.bl _)
  | int b => cases (show RD K N α H _ v from h); exact .base (.int _)
  | str b => cases (show RD K N α H _ v from h); exact .base (.str _)
  | tup ds =>
    obtain ⟨a, vs, rfl, _, hs, _⟩ := h.tup
    rcases hs with hs | ⟨o, hs⟩
    · exact .base (.tup hs)
    · exact .fTuple hs
  | lst ds =>
    obtain ⟨a, vs, rfl, hs, _⟩ := h.lst
    rcases hs with (hs | ⟨o, hs⟩) | ⟨o, its, n, hk, hc, _⟩
    · exact .base (.lst hs)
    · exact .base (.frz hs)
    · exact .kList hk hc
  | dic ds => exact absurd rfl (hnd ds).1
  | dit ds => exact absurd rfl (hnd ds).2
  | obj n => exact absurd rfl (hn n)
theorem isi_of {T' : String} (h : ∀ d : D, (∀ n, d ≠ .obj n) → PySem.W.kitOne K (.type (tyN d)) (.type T') = some (d.isT T')) (N T : Addr → Prop) (α : List Addr) (H : Hp) (d : D) (v : V) (r : RB K N T α H d v) (hn : ∀ n, d ≠ .obj n) (hnd : ∀ k, d ≠ .dic k ∧ d ≠ .dit k) : ∃ t, TyX K H v t ∧ PySem.W.kitOne K t (.type T') = some (d.isT T') :=
  ⟨_, ty_of r hn hnd, h d hn⟩
theorem isi_int (N T : Addr → Prop) (α : List Addr) (H : Hp) (d : D) (v : V) (r : RB K N T α H d v) (hn : ∀ n, d ≠ .obj n) (hnd : ∀ k, d ≠ .dic k ∧ d ≠ .dit k) : ∃ t, TyX K H v t ∧ PySem.W.kitOne K t (.type "int") = some (d.isT "int") := isi_of (fun d hn => by cases d <;> first | rfl | exact absurd rfl (hn _)) N T α H d v r hn hnd
theorem isi_bool (N T : Addr → Prop) (α : List Addr) (H : Hp) (d : D) (v : V) (r : RB K N T α H d v) (hn : ∀ n, d ≠ .obj n) (hnd : ∀ k, d ≠ .dic k ∧ d ≠ .dit k) : ∃ t, TyX K H v t ∧ PySem.W.kitOne K t (.type "bool") = some (d.isT "bool") := isi_of (fun d hn => by cases d <;> first | rfl | exact absurd rfl (hn _)) N T α H d v r hn hnd
theorem isi_str (N T : Addr → Prop) (α : List Addr) (H : Hp) (d : D) (v : V) (r : RB K N T α H d v) (hn : ∀ n, d ≠ .obj n) (hnd : ∀ k, d ≠ .dic k ∧ d ≠ .dit k) : ∃ t, TyX K H v t ∧ PySem.W.kitOne K t (.type "str") = some (d.isT "str") := isi_of (fun d hn => by cases d <;> first | rfl | exact absurd rfl (hn _)) N T α H d v r hn hnd
theorem isi_list (N T : Addr → Prop) (α : List Addr) (H : Hp) (d : D) (v : V) (r : RB K N T α H d v) (hn : ∀ n, d ≠ .obj n) (hnd : ∀ k, d ≠ .dic k ∧ d ≠ .dit k) : ∃ t, TyX K H v t ∧ PySem.W.kitOne K t (.type "list") = some (d.isT "list") := isi_of (fun d hn => by cases d <;> first | rfl | exact absurd rfl (hn _)) N T α H d v r hn hnd
theorem isi_tuple (N T : Addr → Prop) (α : List Addr) (H : Hp) (d : D) (v : V) (r : RB K N T α H d v) (hn : ∀ n, d ≠ .obj n) (hnd : ∀ k, d ≠ .dic k ∧ d ≠ .dit k) : ∃ t, TyX K H v t ∧ PySem.W.kitOne K t (.type "tuple") = some (d.isT "tuple") := isi_of (fun d hn => by cases d <;> first | rfl | exact absurd rfl (hn _)) N T α H d v r hn hnd
/-! ### op= -/
theorem ind_add : InD X .Add gAddI := by
  refine ⟨_, ip_add, fun N T α H x y vx vy d Q _ rx ry e q => ?_⟩
  unfold gAddI at e; split at e
  · cases e
    exact ⟨_, _, rb_int rx, rb_int ry, q _ H (Same.refl H) (.int _)⟩
  · cases e
/-! ### what the frame's own lists are called -/
theorem ss_to {Γ1 : List Bool} (Γ2 : List Bool) (h1 : SS X W ρ ΓL Γ s g1 Γ1) (h : Γ1 = Γ2 := by rfl) : SS X W ρ ΓL Γ s g1 Γ2 := h ▸ h1
theorem ss_pre (Γ2 : List Bool) (h1 : SS X W ρ ΓL Γ2 s g1 Γ'') (h : leG Γ2 Γ = true := by decide) : SS X W ρ ΓL Γ s g1 Γ'' := ss_ahead h h1
theorem ss_post (Γ2 Γ1 : List Bool) (h1 : SS X W ρ ΓL Γ s g1 Γ1) (h : leG Γ2 Γ1 = true := by decide) : SS X W ρ ΓL Γ s g1 Γ2 := ss_behind h h1
theorem sss_pre (Γ2 : List Bool) (h1 : SSs X W ρ ΓL Γ2 ss g1 Γ'') (h : leG Γ2 Γ = true := by decide) : SSs X W ρ ΓL Γ ss g1 Γ'' := sss_ahead h h1
theorem sss_post (Γ2 Γ1 : List Bool) (h1 : SSs X W ρ ΓL Γ ss g1 Γ1) (h : leG Γ2 Γ1 = true := by decide) : SSs X W ρ ΓL Γ ss g1 Γ2 := sss_behind h h1
/-- + of two lists as a new list -/
theorem sf_add (ha : SB X W Γ a fa) (hb : SB X W Γ b fb) : SF X W Γ (.BinOp a .Add b pos) (mBin gAddL fa fb) := by
  intro c sl st α σ H Q R h
  refine ⟨_, pe_op op_catS pe_wp pe_wp, ?_⟩
  refine ha c sl st α σ H _ R ((Vx.R.sat_bind.mp h).imp (fun x s1 hx vx α1 H1 R1 S1 d1 => ?_) fun _ _ z => z)
  refine hb c sl s1 α1 σ H1 _ R1 ((Vx.R.sat_bind.mp hx).imp (fun y s2 hy vy α2 H2 R2 S2 d2 => ?_) fun _ _ z => z)
  cases eg : gAddL x y with
  | none => rw [eg] at hy; exact False.elim hy
  | some d =>
    rw [eg] at hy
    unfold gAddL at eg
    split at eg
    · obtain ⟨hc, rfl⟩ := ite_some eg
      obtain ⟨q, vs, rfl, hs, r⟩ := (d1.step S2.nb S2.nn).lst
      obtain ⟨q2, ws, rfl, hs2, r2⟩ := d2.lst
      exact ⟨q, q2, vs, ws, rfl, rfl, hs, hs2, by rw [← r.length, ← r2.length]; exact szOk_le hc, fun p hp => PQf.new hy R2 (S1.trans S2) (fun _ m => R.sto.tr m) hp (r.append r2)⟩
    · cases eg
end
theorem bv_len : bootBuiltins "len" = some (.builtin "len") := by decide +kernel
theorem bv_max : bootBuiltins "max" = some (.builtin "max") := by decide +kernel
theorem bv_min : bootBuiltins "min" = some (.builtin "min") := by decide +kernel
theorem bv_int : bootBuiltins "int" = some (.type "int") := by decide +kernel
theorem bv_list : bootBuiltins "list" = some (.type "list") := by decide +kernel
theorem bv_tuple : bootBuiltins "tuple" = some (.type "tuple") := by decide +kernel
theorem bv_str : bootBuiltins "str" = some (.type "str") := by decide +kernel
theorem bv_bool : bootBuiltins "bool" = some (.type "bool") := by decide +kernel
theorem bv_sorted : bootBuiltins "sorted" = some (.builtin "sorted") := by decide +kernel
theorem bv_abs : bootBuiltins "abs" = some (.builtin "abs") := by decide +kernel
/-! ### a def under its name -/
structure Cal (P : Program) (w : World) (K : PySem.W.Frag) (mg : Str → Option Value) (base : Heap) (k : Nat) (x : Str) (ρ : Bool) (m : List D → Sto → R D) : Prop where
  ex : ∃ (q : Addr) (fd : FuncData) (ps : List Str), FnOk P w K mg base CX0 k q fd ps (FSpec K ρ m) ∧ mg x = some (.ref q) ∧ PySem.W.keepIn K (.ref q) = true ∧ Binds K fd ps []
/-- a def of the text as it stands behind the top -/
structure Dfn (K : PySem.W.Frag) (mg : Str → Option Value) (x : Str) (st : Stmt) (ps : List Str) : Prop where
  ex : ∃ (q : Addr) (fd : FuncData), Fun K x x st q fd ∧ mg x = some (.ref q) ∧ Binds K fd ps []
section
variable {P : Program} {w : World} {K : PySem.W.Frag} {mg : Str → Option Value} {base : Heap} {ρ : Bool}
theorem cal_of {x : Str} {stm : Stmt} {N ps : List Str} {k n p : Nat} {fb : FS} {Γ0 ΓL Γ' : List Bool} (F : Dfn K mg x stm ps) (S : FnScope N ps (defScope stm))
    (hb : ∀ (q : Addr) (cdv : Value) (A : Around) (outer : List Env) (s : Shared) (H : Hp) (E : XK), Room k (A.deeper (PyProof.Rows.envOfC x (defScope stm) s.heap.objs.size q cdv)) → SSs (cxOf CX0 P w K mg base N x (defScope stm) q cdv A outer s H E).nox W0 ρ ΓL Γ0 (defBody stm) fb Γ')
    (hn : N.length = n := by rfl) (hp : ps.length = p := by rfl) (hΓ : List.replicate n false = Γ0 := by rfl) : Cal P w K mg base (k + 1) x ρ (mDef n p fb) := by
  obtain ⟨q, fd, F, hm, hbd⟩ := F.ex
  subst hn hp hΓ
  exact ⟨q, fd, ps, fn_ok F S (hb q), hm, F.kp, hbd⟩
theorem fn_okL {x qual : Str} {stm : Stmt} {q : Addr} {fd : FuncData} {N ps : List Str} {k n p : Nat} {fb : FS} {Γ0 ΓL Γ' : List Bool} (F : Fun K x qual stm q fd) (S : FnScope N ps (defScope stm))
    (hb : ∀ (cdv : Value) (A : Around) (outer : List Env) (s : Shared) (H : Hp) (E : XK), Room k (A.deeper (PyProof.Rows.envOfC qual (defScope stm) s.heap.objs.size q cdv)) → SSs (cxOf CX0 P w K mg base N qual (defScope stm) q cdv A outer s H E).nox W0 ρ ΓL Γ0 (defBody stm) fb Γ')
    (hn : N.length = n := by rfl) (hp : ps.length = p := by rfl) (hΓ : List.replicate n false = Γ0 := by rfl) : FnOk P w K mg base CX0 (k + 1) q fd ps (FSpec K ρ (mDef n p fb)) := by
  subst hn hp hΓ
  exact fn_ok F S hb
theorem cal_zero {x : Str} {stm : Stmt} {ps : List Str} {k : Nat} (F : Dfn K mg x stm ps) : Cal P w K mg base k x ρ (fun _ _ => .no) := by
  obtain ⟨q, fd, F, hm, hbd⟩ := F.ex
  refine ⟨q, fd, ps, ⟨fun vs H Q E h => ?_, fun A outer s H args us vs Q E _ _ _ _ h => ?_⟩, hm, F.kp, hbd⟩
  · obtain ⟨_, _, _, _, _, _, _, _, h⟩ := h
    exact False.elim h
  · obtain ⟨_, _, _, _, _, _, _, _, h⟩ := h
    exact False.elim h
theorem Cal.to {k : Nat} {x : Str} {m m' : List D → Sto → R D} (h : Cal P w K mg base k x ρ m) (e : m = m') : Cal P w K mg base k x ρ m' := e ▸ h
end
section
variable {X : Cx} {W : WXc} {ρ : Bool} {Γ : List Bool} {e : Expr} {es : List Expr} {x : Str} {pos p : Pos}
theorem room65 {k : Nat} {A : Around} (r : Room k A) : A.units + 65 < cLine := by have := r.un; omega
theorem se_c {k j : Nat} {m : List D → Sto → R D} {fr : FA} (C : Cal X.prog X.w X.K X.mg X.base k x ρ m) (hr : Room j X.A) (ha : SA X W Γ (e :: es) fr) (hk : k ≤ j := by first | decide | omega)
    (hg : Gl X x := by rfl) (hd : (x == ("__debug__" : Str)) = false := by decide) (he : starEach (e :: es) X.env = (false, eval e X.env) :: starEach es X.env := by rfl) (hpl : (backTo pos (starEach es X.env)).any (·.1) = false := by rfl) : SE X W Γ (.Call (.Name x p) (e :: es) [] pos) (mCall m fr) := by
  obtain ⟨q, fd, ps, G, hm, kp, hb⟩ := C.ex
  exact se_call G (hr.mono hk) hm kp hb ha hg hd he hpl
theorem sf_c {k j : Nat} {m : List D → Sto → R D} {fr : FA} (C : Cal X.prog X.w X.K X.mg X.base k x true m) (hr : Room j X.A) (ha : SA X W Γ (e :: es) fr) (hk : k ≤ j := by first | decide | omega)
    (hg : Gl X x := by rfl) (hd : (x == ("__debug__" : Str)) = false := by decide) (he : starEach (e :: es) X.env = (false, eval e X.env) :: starEach es X.env := by rfl) (hpl : (backTo pos (starEach es X.env)).any (·.1) = false := by rfl) : SF X W Γ (.Call (.Name x p) (e :: es) [] pos) (mCallF m fr) := by
  obtain ⟨q, fd, ps, G, hm, kp, hb⟩ := C.ex
  exact sf_call G (hr.mono hk) hm kp hb ha hg hd he hpl
end
end Vx

/-! VExt: lists lent to a def, more built-in functions, more methods. -/
namespace Vx
open PySem PySem.Spec L2
variable [Wd]
section
variable {X : Cx} {W : WXc} {ρ : Bool} {Γ Γ' Γ'' ΓL : List Bool} {e a b : Expr} {es : List Expr} {s : Stmt} {ss : List Stmt} {f fa fb fc : FE} {x : Str} {pos p : Pos} {g1 g2 : FS}
variable {K : PySem.W.Frag} {N N' T : Addr → Prop} {α α' : List Addr} {H H' : Hp} {c c' : Cz} {sl : Sl} {st st' : Sto} {σ : St}

/-! ### a list lent to a def -/
mutual
theorem RD.bar (h : ∀ a vs, ¬ N a → Rd H a (.tup vs) → ¬ N' a) : ∀ {d : D} {v : V}, RD K N α H d v → D.noMut d = true → RD K N' α H d v
  | _, _, .non, _ => .non
  | _, _, .bl b, _ => .bl b
  | _, _, .int i, _ => .int i
  | _, _, .str x, _ => .str x
  | _, _, .tup n q r, hd => .tup (h _ _ n q) q (RDs.bar h r hd)
  | _, _, .lst n q r, hd => nomatch hd
  | _, _, .lstK q r, hd => nomatch hd
  | _, _, .dic n q r, hd => nomatch hd
  | _, _, .obj q, _ => .obj q
theorem RDs.bar (h : ∀ a vs, ¬ N a → Rd H a (.tup vs) → ¬ N' a) : ∀ {d : List D} {v : List V}, RDs K N α H d v → D.noMutAll d = true → RDs K N' α H d v
  | _, _, .nil, _ => .nil
  | _, _, .cons r t, hd => by
    unfold D.noMutAll at hd
    rw [Bool.and_eq_true] at hd
    exact .cons (RD.bar h r hd.1) (RDs.bar h t hd.2)
end
theorem RKs.bar (h : ∀ a vs, ¬ N a → Rd H a (.tup vs) → ¬ N' a) : ∀ {d : List (D × D)} {v : List (Key × V)}, RKs K N α H d v → D.noMutAll (d.map (·.2)) = true → RKs K N' α H d v
  | _, _, .nil, _ => .nil
  | _, _, .cons k r t, hd => by
    rw [List.map_cons] at hd
    unfold D.noMutAll at hd
    rw [Bool.and_eq_true] at hd
    exact .cons k (RD.bar h r hd.1) (RKs.bar h t hd.2)
theorem StoRel.bar (h : ∀ a vs, ¬ N a → Rd H a (.tup vs) → ¬ N' a) (r : StoRel K N α H st) (hs : stoNo st = true) : StoRel K N' α H st := by
  refine ⟨r.len, r.nd, fun n ob a e1 e2 => ?_⟩
  have q := r.ob n ob a e1 e2
  have ho : Ob.noMut ob = true := List.all_eq_true.mp hs ob (List.mem_of_getElem? e1)
  cases ob with
  | ins C fs => obtain ⟨dx, fs', h1, h2, h3⟩ := q; exact ⟨dx, fs', h1, h2, h3.bar h ho⟩
  | lst ds => obtain ⟨vs, h1, h2⟩ := q; exact ⟨vs, h1, h2.bar h ho⟩
  | dic ds => obtain ⟨vs, h1, h2⟩ := q; exact ⟨vs, h1, h2.bar h ho⟩
theorem RB.lend {d : D} {v : V} (h : RB K (NN c Γ σ α) (NB c α) α H d v) : RD K (NB c α) α H d v := by
  have S : Stp (NN c Γ σ α) α H (NB c α) α H := .less fun a z => .inl z
  cases d with
  | lst ds =>
    obtain ⟨a, vs, rfl, h, r⟩ := h
    rcases h with ⟨n, h⟩ | h
    · exact .lst n h (r.step S)
    · exact .lstK h (r.step S)
  | dic ds =>
    obtain ⟨a, vs, rfl, n, h, r⟩ := h
    exact .dic n h (RKs.step S r)
  | dit ds =>
    obtain ⟨a, es, rfl, n, h, r⟩ := h
    exact .dit n h (RNs.step S r)
  | non => exact RD.step S h
  | bl b => exact RD.step S h
  | int b => exact RD.step S h
  | str b => exact RD.step S h
  | tup b => exact RD.step S h
  | obj b => exact RD.step S h
theorem RBs.lend : ∀ {d : List D} {v : List V}, RBs K (NN c Γ σ α) (NB c α) α H d v → RDs K (NB c α) α H d v
  | _, _, .nil => .nil
  | _, _, .cons r t => .cons r.lend (RBs.lend t)
/-- an own list is no tuple -/
theorem own_no_tup (R : Rel K c Γ sl st α σ H) (S : Ste α H α' H') {a : Addr} {vs : List V} (h : LocO Γ σ a) (hr : Rd H' a (.tup vs)) : False := by
  obtain ⟨i, h1, h2⟩ := h
  obtain ⟨d, a', o, e0, e1, ho, r, _, n⟩ := R.own i h1
  rw [h2] at e1
  cases e1
  have hk := S.keep a o ho fun m => n (.inr m)
  rcases hr with hr | ⟨u, hr⟩
  · rw [hk] at hr
    cases hr
    cases d <;> exact False.elim r
  · rw [hk] at hr
    cases hr
    cases d <;> exact False.elim r
theorem call_specL {m : List D → Sto → R D} {ds : List D} {vs : List V} {Q : VK} {E : XK} (R : Rel K c Γ sl st α σ H) (r : RDs K (NB c α) α H ds vs)
    (h : (m ds st).nox.Sat (fun d st' => (D.noMut d && stoNo st') = true ∧ ∀ v α' H', Rel K c Γ sl st' α' σ H' → Ste α H α' H' → RD K (NN c Γ σ α') α' H' d v → Q v H') (fun _ _ => False)) : FSpec K ρ m vs H Q E := by
  refine ⟨c.B, α, ds, st, r, R.sto.step (.less fun a z => .inl z) fun _ _ => rfl, fun a z => R.bt a z, fun a m z => R.αB a m z, ?_⟩
  cases em : m ds st with
  | ex x s1 => rw [em] at h; exact False.elim h
  | no => rw [em] at h; exact False.elim h
  | ok d s1 =>
    rw [em] at h
    obtain ⟨h0, h1⟩ := h
    rw [Bool.and_eq_true] at h0
    refine ⟨fun v α' H' X0 rv hn => ?_, fun hρ p o α' H' hp ho X0 ro => ?_⟩
    · have L : ∀ a vs, ¬ BA c.B α' a → Rd H' a (.tup vs) → ¬ NN c Γ σ α' a := fun a vs n hr z => z.elim n fun z => own_no_tup R X0.st z hr
      exact h1 v α' H' (R.carry X0.st (fun a z => .inl z) rfl rfl (X0.sto.bar L h0.2) fun a m z => X0.nb a m z) X0.st (rv.bar L h0.1)
    · cases d <;> cases o <;> first | exact False.elim ro | (cases h0.1)
/-- f(..), own lists among the arguments -/
theorem se_callL {k : Nat} {fd : FuncData} {ps : List Str} {q : Addr} {m : List D → Sto → R D} {fr : FA} (G : FnOk X.prog X.w X.K X.mg X.base CX0 k q fd ps (FSpec X.K ρ m)) (hr : Room k X.A) (hm : X.mg x = some (.ref q)) (kp : PySem.W.keepIn X.K (.ref q) = true) (hb : Binds X.K fd ps []) (ha : SAb X W Γ (e :: es) fr)
    (hg : Gl X x := by rfl) (hd : (x == ("__debug__" : Str)) = false := by decide) (he : starEach (e :: es) X.env = (false, eval e X.env) :: starEach es X.env := by rfl) (hpl : (backTo pos (starEach es X.env)).any (·.1) = false := by rfl) : SE X W Γ (.Call (.Name x p) (e :: es) [] pos) (mCallL m fr) := by
  intro c sl st α σ H Q R h
  refine ⟨_, pe_call G hr hg hm kp hb .nil pass0 pa_wp hd he hpl, ?_⟩
  refine ha c sl st α σ H _ R ((Vx.R.sat_bind.mp h).imp (fun ds s1 hd vs α1 H1 R1 S1 r1 => ?_) fun _ _ z => z)
  rw [List.append_nil]
  refine call_specL R1 r1.lend ?_
  cases em : m ds s1 with
  | ex x s2 => rw [em] at hd; exact False.elim hd
  | no => rw [em] at hd; exact False.elim hd
  | ok d s2 =>
    rw [em] at hd
    have hd : (if (D.noMut d && stoNo s2) = true then .ok d s2 else .no : Vx.R D).Sat (PQ X.K c Γ sl α σ H Q) (PX X.K c Γ sl σ W) := hd
    by_cases hmu : (D.noMut d && stoNo s2) = true
    · rw [if_pos hmu] at hd
      exact ⟨hmu, fun v α' H' R' S' r' => hd v α' H' R' (S1.trans S') r'⟩
    · rw [if_neg hmu] at hd
      exact False.elim hd
theorem se_cL {k j : Nat} {m : List D → Sto → R D} {fr : FA} (C : Cal X.prog X.w X.K X.mg X.base k x ρ m) (hr : Room j X.A) (ha : SAb X W Γ (e :: es) fr) (hk : k ≤ j := by first | decide | omega)
    (hg : Gl X x := by rfl) (hd : (x == ("__debug__" : Str)) = false := by decide) (he : starEach (e :: es) X.env = (false, eval e X.env) :: starEach es X.env := by rfl) (hpl : (backTo pos (starEach es X.env)).any (·.1) = false := by rfl) : SE X W Γ (.Call (.Name x p) (e :: es) [] pos) (mCallL m fr) := by
  obtain ⟨q, fd, ps, G, hm, kp, hb⟩ := C.ex
  exact se_callL G (hr.mono hk) hm kp hb ha hg hd he hpl

/-! ### lists of ints, of texts -/
theorem rds_intsD : ∀ {xs : List D} {ns : List Int} {vs : List V}, intsD xs = some ns → RDs K N α H xs vs → vs = ns.map V.int
  | [], _, _, h, r => by cases h; cases r; rfl
  | .int i :: xs, ns, _, h, .cons r t => by
    unfold intsD at h
    cases q : intsD xs with
    | none => rw [q] at h; cases h
    | some ms =>
      rw [q] at h
      cases h
      cases r
      rw [rds_intsD q t]
      rfl
  | .non :: _, _, _, h, _ => by cases h
  | .bl _ :: _, _, _, h, _ => by cases h
  | .str _ :: _, _, _, h, _ => by cases h
  | .tup _ :: _, _, _, h, _ => by cases h
  | .lst _ :: _, _, _, h, _ => by cases h
  | .dic _ :: _, _, _, h, _ => by cases h
  | .obj _ :: _, _, _, h, _ => by cases h
theorem rds_strsJ : ∀ {xs : List D} {ns : List Str} {vs : List V}, strsJ xs = some ns → RDs K N α H xs vs → vs = ns.map V.str
  | [], _, _, h, r => by cases h; cases r; rfl
  | .str i :: xs, ns, _, h, .cons r t => by
    unfold strsJ at h
    cases q : strsJ xs with
    | none => rw [q] at h; cases h
    | some ms =>
      rw [q] at h
      cases h
      cases r
      rw [rds_strsJ q t]
      rfl
  | .non :: _, _, _, h, _ => by cases h
  | .bl _ :: _, _, _, h, _ => by cases h
  | .int _ :: _, _, _, h, _ => by cases h
  | .tup _ :: _, _, _, h, _ => by cases h
  | .lst _ :: _, _, _, h, _ => by cases h
  | .dic _ :: _, _, _, h, _ => by cases h
  | .obj _ :: _, _, _, h, _ => by cases h
theorem maxI_mem : ∀ (m : Int) (r : List Int), maxI m r ∈ m :: r
  | m, [] => by simp [maxI]
  | m, n :: r => by
    unfold maxI
    have h := maxI_mem (if m < n then n else m) r
    rcases List.mem_cons.mp h with h | h
    · rw [h]
      split <;> simp
    · simp [h]
theorem maxI_le : ∀ (m : Int) (r : List Int), ∀ y ∈ m :: r, y ≤ maxI m r
  | m, [], y, h => by simp at h; subst h; simp [maxI]
  | m, n :: r, y, h => by
    unfold maxI
    have q := maxI_le (if m < n then n else m) r
    have q0 := q _ List.mem_cons_self
    rcases List.mem_cons.mp h with h | h
    · subst h; split at q0 <;> split <;> simp_all <;> omega
    · rcases List.mem_cons.mp h with h | h
      · subst h; split at q0 <;> split <;> simp_all <;> omega
      · exact q y (List.mem_cons_of_mem _ h)
theorem minI_mem : ∀ (m : Int) (r : List Int), minI m r ∈ m :: r
  | m, [] => by simp [minI]
  | m, n :: r => by
    unfold minI
    have h := minI_mem (if n < m then n else m) r
    rcases List.mem_cons.mp h with h | h
    · rw [h]
      split <;> simp
    · simp [h]
theorem minI_le : ∀ (m : Int) (r : List Int), ∀ y ∈ m :: r, minI m r ≤ y
  | m, [], y, h => by simp at h; subst h; simp [minI]
  | m, n :: r, y, h => by
    unfold minI
    have q := minI_le (if n < m then n else m) r
    have q0 := q _ List.mem_cons_self
    rcases List.mem_cons.mp h with h | h
    · subst h; split at q0 <;> split <;> simp_all <;> omega
    · rcases List.mem_cons.mp h with h | h
      · subst h; split at q0 <;> split <;> simp_all <;> omega
      · exact q y (List.mem_cons_of_mem _ h)
theorem maxI_one {m n : Int} {r : List Int} (h1 : m ∈ n :: r) (h2 : ∀ y, y ∈ n :: r → y ≤ m) : m = maxI n r := by
  have a1 := h2 _ (maxI_mem n r)
  have a2 := maxI_le n r _ h1
  omega
theorem minI_one {m n : Int} {r : List Int} (h1 : m ∈ n :: r) (h2 : ∀ y, y ∈ n :: r → m ≤ y) : m = minI n r := by
  have a1 := h2 _ (minI_mem n r)
  have a2 := minI_le n r _ h1
  omega
theorem calld_max1 (hc : X.calm = true) : CallD X (.builtin "max") gMax1 := by
  refine ⟨_, cr_max hc, fun N T α H xs vs d Q hN r e q => ?_⟩
  unfold gMax1 at e
  split at e
  · rename_i ds
    obtain ⟨v, rfl, rx⟩ := r.one
    obtain ⟨a, ws, rfl, hs, r⟩ := rx.lst
    cases hi : intsD ds with
    | none => rw [hi] at e; cases e
    | some ns =>
      rw [hi] at e
      cases ns with
      | nil => cases e
      | cons n t =>
        cases e
        rw [rds_intsD hi r] at hs
        exact ⟨a, n :: t, rfl, hs, by simp, fun m h1 h2 => by rw [maxI_one h1 h2]; exact q _ H (Same.refl H) (.int _)⟩
  · cases e
theorem calld_min1 (hc : X.calm = true) : CallD X (.builtin "min") gMin1 := by
  refine ⟨_, cr_min hc, fun N T α H xs vs d Q hN r e q => ?_⟩
  unfold gMin1 at e
  split at e
  · rename_i ds
    obtain ⟨v, rfl, rx⟩ := r.one
    obtain ⟨a, ws, rfl, hs, r⟩ := rx.lst
    cases hi : intsD ds with
    | none => rw [hi] at e; cases e
    | some ns =>
      rw [hi] at e
      cases ns with
      | nil => cases e
      | cons n t =>
        cases e
        rw [rds_intsD hi r] at hs
        exact ⟨a, n :: t, rfl, hs, by simp, fun m h1 h2 => by rw [minI_one h1 h2]; exact q _ H (Same.refl H) (.int _)⟩
  · cases e
theorem insI_perm (i : Int) : ∀ r, (insI i r).Perm (i :: r)
  | [] => .refl _
  | j :: r => by
    unfold insI
    split
    · exact .refl _
    · exact (List.Perm.cons j (insI_perm i r)).trans (.swap i j r)
theorem sortI_perm : ∀ r, (sortI r).Perm r
  | [] => .refl _
  | i :: r => (insI_perm i _).trans (.cons i (sortI_perm r))
theorem insI_sorted (i : Int) : ∀ r : List Int, r.Pairwise (· ≤ ·) → (insI i r).Pairwise (· ≤ ·)
  | [], _ => by simp [insI]
  | j :: r, h => by
    unfold insI
    obtain ⟨h1, h2⟩ := List.pairwise_cons.mp h
    split
    · rename_i hij
      refine List.pairwise_cons.mpr ⟨fun y hy => ?_, h⟩
      rcases List.mem_cons.mp hy with e | e
      · subst e; exact hij
      · have := h1 y e; omega
    · rename_i hij
      refine List.pairwise_cons.mpr ⟨fun y hy => ?_, insI_sorted i r h2⟩
      rcases List.mem_cons.mp ((insI_perm i r).mem_iff.mp hy) with e | e
      · subst e; omega
      · exact h1 y e
theorem sortI_sorted : ∀ r : List Int, (sortI r).Pairwise (· ≤ ·)
  | [] => List.Pairwise.nil
  | i :: r => insI_sorted i _ (sortI_sorted r)
theorem sorted_one : ∀ {xs ys : List Int}, xs.Perm ys → xs.Pairwise (· ≤ ·) → ys.Pairwise (· ≤ ·) → xs = ys
  | [], ys, h, _, _ => by rw [List.nil_perm.mp h]
  | x :: xs, [], h, _, _ => by simp at h
  | x :: xs, y :: ys, h, hx, hy => by
    obtain ⟨hx1, hx2⟩ := List.pairwise_cons.mp hx
    obtain ⟨hy1, hy2⟩ := List.pairwise_cons.mp hy
    have e : x = y := by
      have a1 : x ∈ y :: ys := h.mem_iff.mp List.mem_cons_self
      have a2 : y ∈ x :: xs := h.mem_iff.mpr List.mem_cons_self
      rcases List.mem_cons.mp a1 with a1 | a1
      · exact a1
      · rcases List.mem_cons.mp a2 with a2 | a2
        · exact a2.symm
        · have := hx1 y a2; have := hy1 x a1; omega
    subst e
    rw [sorted_one (List.Perm.cons_inv h) hx2 hy2]
theorem callf_sorted : CallF X (.builtin "sorted") gSorted := by
  refine ⟨_, cr_sorted, fun N T α H xs vs d Q hN r e q => ?_⟩
  unfold gSorted at e
  split at e
  · rename_i ds
    obtain ⟨v, rfl, rx⟩ := r.one
    obtain ⟨a, ws, rfl, hs, r⟩ := rx.lst
    by_cases hl : ds.length < 64
    · rw [if_pos hl] at e
      cases hi : intsD ds with
      | none => rw [hi] at e; cases e
      | some ns =>
        rw [hi] at e
        cases e
        have hv := rds_intsD hi r
        rw [hv] at hs
        refine ⟨a, ns, rfl, hs, ?_, fun ns' p h1 h2 hp => ?_⟩
        · have := r.length
          rw [hv, List.length_map] at this
          omega
        · rw [sorted_one (h1.trans (sortI_perm ns).symm) h2 (sortI_sorted ns)]
          exact q p _ hp (rds_ints _)
    · rw [if_neg hl] at e; cases e
  · cases e

/-! ### texts -/
def StD (X : Cx) (id : String) (g : Str → D → Option D) : Prop := ∃ r : V → List V → Hp → VK → Prop, MtR X id r ∧
  ∀ (N T : Addr → Prop) (α : List Addr) (H : Hp) (z : Str) (y d : D) (vy : V) (Q : VK), (∀ a, N a → H a ≠ none) → RB X.K N T α H y vy → g z y = some d →
    (∀ v H', Same H H' → RD X.K N α H' d v → Q v H') → r (.str z) [vy] H Q
theorem se_st {id : String} {nm : Str} {g : Str → D → Option D} {apos : Pos} (slot : Slot "str" nm id) (ty : typeOf (.builtin id) = pure (.type "method_descriptor")) (hg : StD X id g) (ha : SE X W Γ a fa) (hb : SB X W Γ b fb)
    (hs : starEach [b] X.env = [(false, eval b X.env)] := by rfl) (hbase : attributeBase a nm X.env (eval a X.env) = eval a X.env := by rfl) (hline : (apos.endLine == pos.line) = true := by rfl) :
    SE X W Γ (.Call (.Attribute a nm apos) [b] [] pos) (mSt g fa fb) := by
  intro c sl st α σ H Q R h
  obtain ⟨r, o, hr⟩ := hg
  refine ⟨_, pe_m1 slot ty o pe_wp pe_wp hs hbase hline, ?_⟩
  refine ha c sl st α σ H _ R ((Vx.R.sat_bind.mp h).imp (fun x s1 hx vx α1 H1 R1 S1 d1 => ?_) fun _ _ z => z)
  cases x with
  | str z =>
    cases d1
    refine ⟨⟨z, rfl⟩, ?_⟩
    refine hb c sl s1 α1 σ H1 _ R1 ((Vx.R.sat_bind.mp hx).imp (fun y s2 hy vy α2 H2 R2 S2 d2 => ?_) fun _ _ z => z)
    cases eg : g z y with
    | none => rw [eg] at hy; exact False.elim hy
    | some d =>
      rw [eg] at hy
      exact hr _ _ _ _ z y d vy Q R2.nn d2 eg fun v H' G r => hy v α2 H' (R2.grow G) (S1.trans (S2.trans (.grow G))) r
  | _ => exact False.elim hx
theorem std_join : StD X "str.join" gJoin := by
  refine ⟨_, mt_join, fun N T α H z y d vy Q hN ry e q => ?_⟩
  unfold gJoin at e
  split at e
  · rename_i ys
    obtain ⟨a, ws, rfl, hs, r⟩ := ry.lst
    cases hi : strsJ ys with
    | none => rw [hi] at e; cases e
    | some zs =>
      rw [hi] at e
      obtain ⟨hc, rfl⟩ := ite_some e
      rw [rds_strsJ hi r] at hs
      exact ⟨z, a, zs, rfl, rfl, .inl hs, of_decide_eq_true hc, q _ H (Same.refl H) (.str _)⟩
  · cases e
theorem std_find : StD X "str.find" gFind := by
  refine ⟨_, mt_find, fun N T α H z y d vy Q hN ry e q => ?_⟩
  unfold gFind at e
  split at e
  · cases e
    rw [rb_str ry]
    exact ⟨z, _, rfl, rfl, q _ H (Same.refl H) (.int _)⟩
  · cases e

/-! ### a list's methods, as statements -/
def MethD (X : Cx) (id : String) (g : List D → List D → Option (D × List D)) : Prop := ∃ r : V → List V → Hp → VK → Prop, MtR X id r ∧
  ∀ (N : Addr → Prop) (α : List Addr) (H : Hp) (q : Addr) (xs ys zs : List D) (d : D) (vs ws : List V) (Q : VK), H q = some (.lst vs) → RDs X.K N α H xs vs → RDs X.K N α H ys ws → g xs ys = some (d, zs) →
    (∀ v us, RD X.K N α H d v → RDs X.K N α H zs us → Q v (upd H q (.lst us))) → r (.ref q) ws H Q
theorem RDs.eraseIdx : ∀ {ds : List D} {vs : List V} (n : Nat), RDs K N α H ds vs → RDs K N α H (ds.eraseIdx n) (vs.eraseIdx n)
  | _, _, _, .nil => .nil
  | _, _, 0, .cons _ t => t
  | _, _, n + 1, .cons r t => .cons r (RDs.eraseIdx n t)
theorem RDs.dropLast {ds : List D} {vs : List V} (h : RDs K N α H ds vs) : RDs K N α H ds.dropLast vs.dropLast := by
  rw [List.dropLast_eq_take, List.dropLast_eq_take, h.length]
  exact h.take _
theorem rgOk_lt {i : Int} (h : rgOk i = true) : -(2 ^ 63) ≤ i ∧ i < 2 ^ 63 := by
  unfold rgOk at h
  rw [Bool.and_eq_true, decide_eq_true_eq, decide_eq_true_eq] at h
  omega
theorem seqIndex_ixI {i : Int} {n k : Nat} (h : ixI n i = some k) : seqIndex? i n = some k := by
  unfold ixI at h
  unfold seqIndex?
  by_cases h0 : 0 ≤ i
  · rw [if_pos h0] at h
    by_cases h1 : i < n
    · rw [if_pos h1] at h
      have h2 : ¬ i < 0 := by omega
      simp only [h2, if_false, h0, h1, decide_true, Bool.and_self, if_true]
      exact h
    · rw [if_neg h1] at h; cases h
  · rw [if_neg h0] at h
    by_cases h1 : -(n : Int) ≤ i
    · rw [if_pos h1] at h
      have h2 : i < 0 := by omega
      have h3 : 0 ≤ i + n := by omega
      have h4 : i + (n : Int) < n := by omega
      simp only [h2, if_true, h3, h4, decide_true, Bool.and_self]
      exact h
    · rw [if_neg h1] at h; cases h
theorem methd_pop0 : MethD X "list.pop" gPop0 := by
  refine ⟨_, mt_pop, fun N α H q xs ys zs d vs ws Q hq r ra e h => ?_⟩
  cases ys with
  | cons _ _ => cases e
  | nil =>
    unfold gPop0 at e
    cases ra
    cases ey : xs[xs.length - 1]? with
    | none => simp only [ey] at e; cases e
    | some y =>
      simp only [ey] at e
      cases e
      obtain ⟨v, e1, r1⟩ := r.get ey
      exact ⟨q, vs, v, rfl, rfl, hq, by rw [← r.length]; exact e1, h v _ r1 r.dropLast⟩
theorem methd_pop1 : MethD X "list.pop" gPop1 := by
  refine ⟨_, mt_popAt, fun N α H q xs ys zs d vs ws Q hq r ra e h => ?_⟩
  unfold gPop1 at e
  split at e
  · rename_i i
    cases ra with
    | cons r0 rt =>
      cases rt
      cases r0
      obtain ⟨hc, e⟩ : rgOk i = true ∧ ((ixI xs.length i).bind fun k => (xs[k]?).map fun y => (y, xs.eraseIdx k)) = some (d, zs) := by
        by_cases hc : rgOk i = true
        · rw [if_pos hc] at e; exact ⟨hc, e⟩
        · rw [if_neg hc] at e; cases e
      cases ek : ixI xs.length i with
      | none => rw [ek] at e; cases e
      | some k =>
        rw [ek] at e
        simp only [Option.bind_some] at e
        cases ey : xs[k]? with
        | none => rw [ey] at e; cases e
        | some y =>
          rw [ey] at e
          cases e
          obtain ⟨v, e1, r1⟩ := r.get ey
          obtain ⟨g1, g2⟩ := rgOk_lt hc
          exact ⟨q, vs, i, k, v, rfl, rfl, hq, g1, g2, by rw [← r.length]; exact seqIndex_ixI ek, e1, h v _ r1 (r.eraseIdx k)⟩
  · cases e
theorem methd_insert : MethD X "list.insert" gInsert := by
  refine ⟨_, mt_insert, fun N α H q xs ys zs d vs ws Q hq r ra e h => ?_⟩
  unfold gInsert at e
  split at e
  · rename_i i y
    cases ra with
    | cons r0 rt =>
      cases rt with
      | cons r1 rt =>
        cases rt
        cases r0
        obtain ⟨hc, e⟩ := ite_some e
        cases e
        rw [Bool.and_eq_true, Bool.and_eq_true, decide_eq_true_eq] at hc
        obtain ⟨g1, g2⟩ := rgOk_lt hc.2.2
        refine ⟨q, vs, i, _, rfl, rfl, hq, ?_, hc.2.1, g2, h .non _ .non (((r.take _).append (.cons r1 .nil)).append (r.drop _))⟩
        have := szOk_le hc.1
        rw [← r.length]
        omega
  · cases e
theorem methd_clear : MethD X "list.clear" gClear := by
  refine ⟨_, mt_clear, fun N α H q xs ys zs d vs ws Q hq r ra e h => ?_⟩
  unfold gClear at e
  split at e
  · cases ra
    cases e
    exact ⟨q, vs, rfl, rfl, hq, h .non _ .non .nil⟩
  · cases e
theorem methd_reverse : MethD X "list.reverse" gReverse := by
  refine ⟨_, mt_reverse, fun N α H q xs ys zs d vs ws Q hq r ra e h => ?_⟩
  unfold gReverse at e
  split at e
  · cases ra
    cases e
    exact ⟨q, vs, rfl, rfl, hq, h .non _ .non r.reverse⟩
  · cases e
/-- x.m(..), x one of the frame's own lists -/
theorem ss_meth (i : Nat) {nm : Str} {id : String} {g : List D → List D → Option (D × List D)} {fr : FA} {p2 apos : Pos} (slot : Slot "list" nm id) (ty : typeOf (.builtin id) = pure (.type "method_descriptor")) (hm : MethD X id g) (ha : SA X W Γ (e :: es) fr) (hΓ : Γ[i]? = some true := by decide) (hN : X.N[i]? = some x := by rfl) (hv : Vis X.env.scope x := by first | exact Or.inl rfl | exact Or.inr (Or.inl rfl) | exact Or.inr (Or.inr rfl))
    (hd : (x == ("__debug__" : Str)) = false := by decide) (hcd : (x == ("__classdict__" : Str)) = false := by decide) (hs : swapsWith (.Call (.Attribute (.Name x p2) nm apos) (e :: es) [] p) none pos.line X.env = pure false := by rfl)
    (hbase : attributeBase (.Name x p2) nm X.env (eval (.Name x p2) X.env) = eval (.Name x p2) X.env := by rfl)
    (hfew : ((backTo p (starEach (e :: es) X.env)).all (fun x => !x.1) && (backToKw p (keywordEach [] X.env)).all (fun x => x.1.isSome)
      && decide ((e :: es).length + ([] : List Keyword).length + (if ([] : List Keyword).isEmpty then 0 else 1) < 30)) = true := by rfl)
    (hline : (apos.endLine == p.line) = true := by rfl) (hst : starEach (e :: es) X.env = (false, eval e X.env) :: starEach es X.env := by rfl) (hplain : (backTo p (starEach es X.env)).any (·.1) = false := by rfl) :
    SS X W ρ ΓL Γ (.Expr (.Call (.Attribute (.Name x p2) nm apos) (e :: es) [] p) pos) (sMeth g i fr) Γ := by
  intro c sl st α σ H Dn R h
  obtain ⟨r, mt, hr⟩ := hm
  refine ⟨_, ps_expr (pe_bm PySem.F.plainAttrs_list slot ty mt (pe_var hN hv hd hcd) pa_wp hbase hfew hline hst hplain) hs, ?_⟩
  obtain ⟨d, q, o, e0, e1, ho, r0, h0, n⟩ := R.own i hΓ
  refine ⟨.ref q, e1, ?_⟩
  unfold sMeth at h
  rw [e0] at h
  cases d with
  | lst xs =>
    cases o with
    | lst vs =>
      refine ⟨.inl ⟨rfl, vs, sqL_of (.of ho)⟩, ?_⟩
      refine ha c sl st α σ H _ R ((Vx.R.sat_fl.mp h).imp (fun ys s1 hy ws α1 H1 R1 S1 r1 => ?_) fun x s1 hx => hx Γ σ)
      cases eg : g xs ys with
      | none => simp only [eg] at hy; exact False.elim hy
      | some w =>
        obtain ⟨y, zs⟩ := w
        simp only [eg] at hy
        have ho1 := S1.keep q _ ho fun m => n (.inr m)
        have r2 : RDs X.K (NN c Γ σ α) α H xs vs := r0
        refine hr _ _ _ q xs ys zs y vs ws _ ho1 (r2.step S1.nn) r1 eg fun v us rv ru => ?_
        obtain ⟨R2, S2⟩ := R1.change (d' := .lst zs) (o' := .lst us) hΓ e1 ru
        exact hy α1 σ _ R2 (S1.nn.trans S2)
    | _ => exact False.elim r0
  | _ => exact False.elim h
theorem ss_meth0 (i : Nat) {nm : Str} {id : String} {g : List D → List D → Option (D × List D)} {p2 apos : Pos} (slot : Slot "list" nm id) (ty : typeOf (.builtin id) = pure (.type "method_descriptor")) (hm : MethD X id g) (hΓ : Γ[i]? = some true := by decide) (hN : X.N[i]? = some x := by rfl) (hv : Vis X.env.scope x := by first | exact Or.inl rfl | exact Or.inr (Or.inl rfl) | exact Or.inr (Or.inr rfl))
    (hd : (x == ("__debug__" : Str)) = false := by decide) (hcd : (x == ("__classdict__" : Str)) = false := by decide) (hs : swapsWith (.Call (.Attribute (.Name x p2) nm apos) [] [] p) none pos.line X.env = pure false := by rfl)
    (hbase : attributeBase (.Name x p2) nm X.env (eval (.Name x p2) X.env) = eval (.Name x p2) X.env := by rfl) (hline : (apos.endLine == p.line) = true := by rfl) :
    SS X W ρ ΓL Γ (.Expr (.Call (.Attribute (.Name x p2) nm apos) [] [] p) pos) (sMeth g i mNil) Γ := by
  intro c sl st α σ H Dn R h
  obtain ⟨r, mt, hr⟩ := hm
  refine ⟨_, ps_expr (pe_bm0 PySem.F.plainAttrs_list slot ty mt (pe_var hN hv hd hcd) hbase hline) hs, ?_⟩
  obtain ⟨d, q, o, e0, e1, ho, r0, h0, n⟩ := R.own i hΓ
  refine ⟨.ref q, e1, ?_⟩
  unfold sMeth at h
  rw [e0] at h
  cases d with
  | lst xs =>
    cases o with
    | lst vs =>
      refine ⟨.inl ⟨rfl, vs, sqL_of (.of ho)⟩, ?_⟩
      simp only [mNil, Vx.R.fl_ok] at h
      cases eg : g xs [] with
      | none => simp only [eg] at h; exact False.elim h
      | some w =>
        obtain ⟨y, zs⟩ := w
        simp only [eg] at h
        have r2 : RDs X.K (NN c Γ σ α) α H xs vs := r0
        refine hr _ _ _ q xs [] zs y vs [] _ ho r2 .nil eg fun v us rv ru => ?_
        obtain ⟨R2, S2⟩ := R.change (d' := .lst zs) (o' := .lst us) hΓ e1 ru
        exact h α σ _ R2 S2
    | _ => exact False.elim r0
  | _ => exact False.elim h
/-- y = x.m(), x one of the frame's own lists -/
theorem ss_methTo0 (j i : Nat) {y : Str} {nm : Str} {id : String} {g : List D → List D → Option (D × List D)} {p2 p3 apos : Pos} (slot : Slot "list" nm id) (ty : typeOf (.builtin id) = pure (.type "method_descriptor")) (hm : MethD X id g) (hnd : X.N.Nodup) (hΓj : Γ[j]? ≠ some true := by decide) (hj : X.N[j]? = some y := by rfl) (hy : Loc X.env.scope y := by first | exact Or.inl rfl | exact Or.inr rfl) (hΓ : Γ[i]? = some true := by decide) (hN : X.N[i]? = some x := by rfl) (hv : Vis X.env.scope x := by first | exact Or.inl rfl | exact Or.inr (Or.inl rfl) | exact Or.inr (Or.inr rfl))
    (hd : (x == ("__debug__" : Str)) = false := by decide) (hcd : (x == ("__classdict__" : Str)) = false := by decide) (hs : swapsWith (.Call (.Attribute (.Name x p2) nm apos) [] [] p) (some (.Name y p3)) pos.line X.env = pure false := by rfl)
    (hf : X.fn y = true ∨ X.env.scope.names.lookup y = some .local := by first | exact .inl rfl | exact .inr rfl)
    (hbase : attributeBase (.Name x p2) nm X.env (eval (.Name x p2) X.env) = eval (.Name x p2) X.env := by rfl) (hline : (apos.endLine == p.line) = true := by rfl) :
    SS X W ρ ΓL Γ (.Assign [.Name y p3] (.Call (.Attribute (.Name x p2) nm apos) [] [] p) pos) (sMethTo g j i mNil) Γ := by
  intro c sl st α σ H Dn R h
  obtain ⟨r, mt, hr⟩ := hm
  refine ⟨_, ps_set hnd hj hy (pe_bm0 PySem.F.plainAttrs_list slot ty mt (pe_var hN hv hd hcd) hbase hline) hs hf, ?_⟩
  obtain ⟨d, q, o, e0, e1, ho, r0, h0, n⟩ := R.own i hΓ
  refine ⟨.ref q, e1, ?_⟩
  unfold sMethTo at h
  rw [e0] at h
  cases d with
  | lst xs =>
    cases o with
    | lst vs =>
      refine ⟨.inl ⟨rfl, vs, sqL_of (.of ho)⟩, ?_⟩
      simp only [mNil, Vx.R.fl_ok] at h
      cases eg : g xs [] with
      | none => simp only [eg] at h; exact False.elim h
      | some w =>
        obtain ⟨y, zs⟩ := w
        simp only [eg] at h
        have r2 : RDs X.K (NN c Γ σ α) α H xs vs := r0
        refine hr _ _ _ q xs [] zs y vs [] _ ho r2 .nil eg fun v us rv ru => ?_
        obtain ⟨R2, S2⟩ := R.change (d' := .lst zs) (o' := .lst us) hΓ e1 ru
        exact h α _ _ (R2.set hΓj (rv.step S2)) (S2.trans (.less fun a z => (nn_set hΓj a).mp z))
    | _ => exact False.elim r0
  | _ => exact False.elim h
/-- y = x.m(..) -/
theorem ss_methTo (j i : Nat) {y : Str} {nm : Str} {id : String} {g : List D → List D → Option (D × List D)} {fr : FA} {p2 p3 apos : Pos} (slot : Slot "list" nm id) (ty : typeOf (.builtin id) = pure (.type "method_descriptor")) (hm : MethD X id g) (ha : SA X W Γ (e :: es) fr) (hnd : X.N.Nodup) (hΓj : Γ[j]? ≠ some true := by decide) (hj : X.N[j]? = some y := by rfl) (hy : Loc X.env.scope y := by first | exact Or.inl rfl | exact Or.inr rfl) (hΓ : Γ[i]? = some true := by decide) (hN : X.N[i]? = some x := by rfl) (hv : Vis X.env.scope x := by first | exact Or.inl rfl | exact Or.inr (Or.inl rfl) | exact Or.inr (Or.inr rfl))
    (hd : (x == ("__debug__" : Str)) = false := by decide) (hcd : (x == ("__classdict__" : Str)) = false := by decide) (hs : swapsWith (.Call (.Attribute (.Name x p2) nm apos) (e :: es) [] p) (some (.Name y p3)) pos.line X.env = pure false := by rfl)
    (hf : X.fn y = true ∨ X.env.scope.names.lookup y = some .local := by first | exact .inl rfl | exact .inr rfl)
    (hbase : attributeBase (.Name x p2) nm X.env (eval (.Name x p2) X.env) = eval (.Name x p2) X.env := by rfl)
    (hfew : ((backTo p (starEach (e :: es) X.env)).all (fun x => !x.1) && (backToKw p (keywordEach [] X.env)).all (fun x => x.1.isSome)
      && decide ((e :: es).length + ([] : List Keyword).length + (if ([] : List Keyword).isEmpty then 0 else 1) < 30)) = true := by rfl)
    (hline : (apos.endLine == p.line) = true := by rfl) (hst : starEach (e :: es) X.env = (false, eval e X.env) :: starEach es X.env := by rfl) (hplain : (backTo p (starEach es X.env)).any (·.1) = false := by rfl) :
    SS X W ρ ΓL Γ (.Assign [.Name y p3] (.Call (.Attribute (.Name x p2) nm apos) (e :: es) [] p) pos) (sMethTo g j i fr) Γ := by
  intro c sl st α σ H Dn R h
  obtain ⟨r, mt, hr⟩ := hm
  refine ⟨_, ps_set hnd hj hy (pe_bm PySem.F.plainAttrs_list slot ty mt (pe_var hN hv hd hcd) pa_wp hbase hfew hline hst hplain) hs hf, ?_⟩
  obtain ⟨d, q, o, e0, e1, ho, r0, h0, n⟩ := R.own i hΓ
  refine ⟨.ref q, e1, ?_⟩
  unfold sMethTo at h
  rw [e0] at h
  cases d with
  | lst xs =>
    cases o with
    | lst vs =>
      refine ⟨.inl ⟨rfl, vs, sqL_of (.of ho)⟩, ?_⟩
      refine ha c sl st α σ H _ R ((Vx.R.sat_fl.mp h).imp (fun ys s1 hy ws α1 H1 R1 S1 r1 => ?_) fun x s1 hx => hx Γ σ)
      cases eg : g xs ys with
      | none => simp only [eg] at hy; exact False.elim hy
      | some w =>
        obtain ⟨y, zs⟩ := w
        simp only [eg] at hy
        have ho1 := S1.keep q _ ho fun m => n (.inr m)
        have r2 : RDs X.K (NN c Γ σ α) α H xs vs := r0
        refine hr _ _ _ q xs ys zs y vs ws _ ho1 (r2.step S1.nn) r1 eg fun v us rv ru => ?_
        obtain ⟨R2, S2⟩ := R1.change (d' := .lst zs) (o' := .lst us) hΓ e1 ru
        exact hy α1 _ _ (R2.set hΓj (rv.step S2)) ((S1.nn.trans S2).trans (.less fun a z => (nn_set hΓj a).mp z))
    | _ => exact False.elim r0
  | _ => exact False.elim h
/-- x.extend(e), e a new list -/
theorem ss_extF (i : Nat) {p2 apos : Pos} (ha : SF X W Γ a fa) (hΓ : Γ[i]? = some true := by decide) (hN : X.N[i]? = some x := by rfl) (hv : Vis X.env.scope x := by first | exact Or.inl rfl | exact Or.inr (Or.inl rfl) | exact Or.inr (Or.inr rfl))
    (hd : (x == ("__debug__" : Str)) = false := by decide) (hcd : (x == ("__classdict__" : Str)) = false := by decide) (hs : swapsWith (.Call (.Attribute (.Name x p2) "extend" apos) [a] [] p) none pos.line X.env = pure false := by rfl)
    (hst : starEach [a] X.env = (false, eval a X.env) :: starEach [] X.env := by rfl)
    (pe : ∀ {t : TA}, PA X [a] t → PE X (.Call (.Attribute (.Name x p2) "extend" apos) [a] [] p) (tBM X.K "list" rExtend (tVar i) t) := by intro t ht; exact pe_bm PySem.F.plainAttrs_list PySem.F.slot_list_extend PySem.F.type_list_extend mt_extend (pv _) ht) :
    SS X W ρ ΓL Γ (.Expr (.Call (.Attribute (.Name x p2) "extend" apos) [a] [] p) pos) (sExt i fa) Γ := by
  intro c sl st α σ H Dn R h
  refine ⟨_, ps_expr (pe (pa_cons pe_wp pa_nil hst)) hs, ?_⟩
  obtain ⟨d, q, o, e0, e1, ho, r, h0, n⟩ := R.own i hΓ
  refine ⟨.ref q, e1, ?_⟩
  unfold sExt at h
  rw [e0] at h
  cases d with
  | lst xs =>
    cases o with
    | lst vs =>
      refine ⟨.inl ⟨rfl, vs, sqL_of (.of ho)⟩, ?_⟩
      refine ha c sl st α σ H _ R ((Vx.R.sat_fl.mp h).imp (fun y s1 hy b o1 α1 H1 hb0 hb R1 S1 r1 => ?_) fun x s1 hx => hx Γ σ)
      cases y with
      | lst ys =>
        cases o1 with
        | lst ws =>
          simp only [] at hy
          by_cases hz : szOk (xs.length + ys.length) = true
          · rw [if_pos hz] at hy
            have ho1 := S1.keep q _ ho fun m => n (.inr m)
            have r2 : RDs X.K (NN c Γ σ α) α H xs vs := r
            have r3 := r2.step S1.nn
            have r4 : RDs X.K (NN (c.add b) Γ σ α1) α1 H1 ys ws := r1
            have r5 : RDs X.K (NN c Γ σ α1) α1 H1 ys ws := r4.step (.less nn_less)
            refine ⟨q, b, vs, ws, rfl, rfl, ho1, hb, by rw [← r3.length, ← r5.length]; exact szOk_le hz, ?_⟩
            obtain ⟨R2, S2⟩ := R1.drop.change (d' := .lst (xs ++ ys)) (o' := .lst (vs ++ ws)) hΓ e1 (r3.append r5)
            exact hy α1 σ _ R2 (S1.nn.trans S2)
          · rw [if_neg hz] at hy
            exact False.elim hy
        | _ => exact False.elim r1
      | _ => exact False.elim hy
    | _ => exact False.elim r
  | _ => exact False.elim h
/-! ### reversed -/
theorem yields_revL {a : Addr} {ds : List D} {vs : List V} (h : (¬ T a ∧ Rd H a (.lst vs)) ∨ KL K a vs) (r : RDs K N α H ds vs) : Yields K N T α H (Itv K a vs.length) ds.reverse := by
  intro N' T' α' H' sT sN hN
  have hq : SqL K H' a vs := by
    rcases h with ⟨n, h⟩ | h
    · exact sqL_of (sT.rd n h).1
    · exact h.sq
  have r' := r.step sN
  have hl := r'.length
  refine ⟨fun i d hd => ?_, fun i hi => by rw [List.length_reverse, hl] at hi; exact hi⟩
  have hi : i < ds.length := by
    have := (List.getElem?_eq_some_iff.mp hd).1
    rw [List.length_reverse] at this
    exact this
  rw [List.getElem?_reverse hi] at hd
  obtain ⟨v, h1, h2⟩ := r'.get hd
  rw [hl] at h1
  refine ⟨⟨by omega, vs, v, hq, h1⟩, fun x H'' y => ?_⟩
  obtain ⟨rfl, y⟩ := y
  have := y vs hq
  rw [h1] at this
  cases this
  exact ⟨Same.refl _, h2⟩
theorem yields_revT {a : Addr} {ds : List D} {vs : List V} (n : ¬ N a) (h : Rd H a (.tup vs)) (r : RDs K N α H ds vs) : Yields K N T α H (RT.ItvT K a vs.length) ds.reverse := by
  intro N' T' α' H' sT sN hN
  have hq : SqT K H' a vs := sqT_of (sN.rd n h).1
  have r' := r.step sN
  have hl := r'.length
  refine ⟨fun i d hd => ?_, fun i hi => by rw [List.length_reverse, hl] at hi; exact hi⟩
  have hi : i < ds.length := by
    have := (List.getElem?_eq_some_iff.mp hd).1
    rw [List.length_reverse] at this
    exact this
  rw [List.getElem?_reverse hi] at hd
  obtain ⟨v, h1, h2⟩ := r'.get hd
  rw [hl] at h1
  refine ⟨⟨by omega, vs, v, hq, h1⟩, fun x H'' y => ?_⟩
  obtain ⟨rfl, y⟩ := y
  have := y vs hq
  rw [h1] at this
  cases this
  exact ⟨Same.refl _, h2⟩
theorem si_rev {tg : Expr} {bb : Bool} (hm : X.mg "reversed" = none) (ha : SE X W Γ a fa) (hg : Gl X "reversed" := by rfl) (hs : starEach [a] X.env = (false, eval a X.env) :: starEach [] X.env := by rfl) : SI X W Γ bb tg (.Call (.Name "reversed" p) [a] [] pos) (itRev fa) := by
  intro c sl st α σ H R' Rl h
  refine ⟨_, RT.pi_revA hg hm pe_wp hs, ?_⟩
  refine ha c sl st α σ H _ Rl ((Vx.R.sat_bind.mp h).imp (fun d s1 hd v α1 H1 R1 S1 r1 => ?_) fun _ _ z => z)
  cases d with
  | lst xs =>
    have rb := RB.of (T := if bb then NB c α1 else NN c Γ σ α1) r1 nt_of
    obtain ⟨q, vs, rfl, hq, r⟩ := id rb
    exact ⟨q, vs, rfl, .inl ⟨by rcases hq with ⟨_, hq⟩ | hq; exact sqL_of hq; exact hq.sq, hd _ α1 H1 R1 S1 (yields_revL hq r)⟩⟩
  | tup xs =>
    cases r1 with
    | tup n hr r => exact ⟨_, _, rfl, .inr ⟨sqT_of hr, hd _ α1 H1 R1 S1 (yields_revT n hr r)⟩⟩
  | _ => exact False.elim hd
theorem si_revB {tg : Expr} (hm : X.mg "reversed" = none) (ha : SB X W Γ a fa) (hg : Gl X "reversed" := by rfl) (hs : starEach [a] X.env = (false, eval a X.env) :: starEach [] X.env := by rfl) : SI X W Γ true tg (.Call (.Name "reversed" p) [a] [] pos) (itRev fa) := by
  intro c sl st α σ H R' Rl h
  refine ⟨_, RT.pi_revA hg hm pe_wp hs, ?_⟩
  refine ha c sl st α σ H _ Rl ((Vx.R.sat_bind.mp h).imp (fun d s1 hd v α1 H1 R1 S1 r1 => ?_) fun _ _ z => z)
  cases d with
  | lst xs =>
    obtain ⟨q, vs, rfl, hq, r⟩ := r1
    exact ⟨q, vs, rfl, .inl ⟨by rcases hq with ⟨_, hq⟩ | hq; exact sqL_of hq; exact hq.sq, hd _ α1 H1 R1 S1 (yields_revL hq r)⟩⟩
  | tup xs =>
    obtain ⟨q, vs, rfl, n, hr, r⟩ := RB.tup r1
    exact ⟨_, _, rfl, .inr ⟨sqT_of hr, hd _ α1 H1 R1 S1 (yields_revT n hr r)⟩⟩
  | _ => exact False.elim hd
theorem se_tupRev {p2 pos2 : Pos} (hm : X.mg "tuple" = none) (hm2 : X.mg "reversed" = none) (ha : SB X W Γ a fa) (hc : X.calm = true := by rfl) (hg : Gl X "tuple" := by rfl) (hg2 : Gl X "reversed" := by rfl) (hs : starEach [a] X.env = (false, eval a X.env) :: starEach [] X.env := by rfl)
    (hs2 : starEach [.Call (.Name "reversed" p2) [a] [] pos2] X.env = (false, eval (.Call (.Name "reversed" p2) [a] [] pos2) X.env) :: starEach [] X.env := by rfl) :
    SE X W Γ (.Call (.Name "tuple" p) [.Call (.Name "reversed" p2) [a] [] pos2] [] pos) (mUn gTupRev fa) := by
  intro c sl st α σ H Q R h
  refine ⟨_, RT.pe_tupRev hc hg hm hg2 hm2 pe_wp hs hs2, ?_⟩
  refine ha c sl st α σ H _ R ((Vx.R.sat_bind.mp h).imp (fun x s1 hx vx α1 H1 R1 S1 r1 => ?_) fun _ _ z => z)
  cases eg : gTupRev x with
  | none => rw [eg] at hx; exact False.elim hx
  | some d =>
    rw [eg] at hx
    unfold gTupRev at eg
    split at eg
    · cases eg
      obtain ⟨q, vs, rfl, hs, r⟩ := r1.lst
      refine ⟨q, vs, rfl, hs, fun q2 hq2 => ?_⟩
      have G : Same H1 (upd H1 q2 (.tup vs.reverse)) := same_upd hq2
      exact hx (.ref q2) α1 _ (R1.grow G) (S1.trans (.grow G)) (.tup (R1.fresh hq2) (.inl upd_same) (r.reverse.step (.grow G)))
    · cases eg
/-! ### targets of many names -/
def SGs (X : Cx) (es : List Expr) (is : List Nat) : Prop := ∀ c Γ sl st α σ H (ds : List D) (vs : List V) (Q : L2.St → Hp → Prop), (∀ i ∈ is, Γ[i]? ≠ some true) → Rel X.K c Γ sl st α σ H → RDs X.K (NN c Γ σ α) α H ds vs → ds.length = is.length →
  (∀ σ', Rel X.K c Γ (setAll sl is ds) st α σ' H → (∀ a, LocO Γ σ' a ↔ LocO Γ σ a) → σ'.length = σ.length → (∀ i, i ∉ is → σ'[i]? = σ[i]?) → Q σ' H) → ∃ t, PGs X es t ∧ t vs σ H Q
theorem sgs_nil : SGs X [] [] := by
  intro c Γ sl st α σ H ds vs Q hΓ R r hl h
  cases r with
  | nil => exact ⟨_, pgs_nil, rfl, h σ R (fun _ => Iff.rfl) rfl fun _ _ => rfl⟩
  | cons _ _ => cases hl
theorem sgs_cons (i : Nat) {is : List Nat} {p1 : Pos} (hN : X.N.Nodup) (hr : SGs X es is) (hi : X.N[i]? = some x := by rfl) (hx : Loc X.env.scope x := by first | exact Or.inl rfl | exact Or.inr rfl)
    (hf : X.fn x = true ∨ X.env.scope.names.lookup x = some .local := by first | exact .inl rfl | exact .inr rfl)
    (hs : (assignEach (.Name x p1 :: es) X.env).map (·.2) = assign (.Name x p1) X.env :: (assignEach es X.env).map (·.2) := by rfl) : SGs X (.Name x p1 :: es) (i :: is) := by
  intro c Γ sl st α σ H ds vs Q hΓ R r hl h
  have hi' := hΓ i List.mem_cons_self
  cases r with
  | nil => cases hl
  | cons r1 rr =>
    rename_i d ds v vs
    have R1 := R.set hi' r1
    have S1 : Stp (NN c Γ σ α) α H (NN c Γ (σ.set i (some v)) α) α H := .less fun a z => (nn_set hi' a).mp z
    obtain ⟨t, pt, ht⟩ := hr c Γ _ st α _ H ds vs Q (fun j hj => hΓ j (List.mem_cons_of_mem _ hj)) R1 (rr.step S1) (Nat.succ.inj hl) fun σ' R' l' len' o' => h σ' R' (fun a => (l' a).trans (loc_set hi' a)) (by rw [len', List.length_set])
      fun m hm => by rw [o' m (fun z => hm (List.mem_cons_of_mem _ z)), getElem?_set_ne' (fun e => hm (by rw [e]; exact List.mem_cons_self))]
    exact ⟨_, pgs_cons (pg_name hN hi hx hf) pt hs, v, vs, rfl, ht⟩
theorem sg_tup {is : List Nat} {k : Nat} (hc : X.calm = true) (hr : SGs X es is) (hn : (assignEach es X.env).length = is.length := by rfl) (hst : (assignEach es X.env).findIdx? (·.1) = none := by rfl) : SG X (.Tuple es k pos) is (tgN is) := by
  intro c Γ sl st α σ H d v sl' Q hΓ R r e h
  unfold tgN at e
  split at e
  · rename_i xs
    by_cases hl : xs.length = is.length
    · rw [if_pos hl] at e
      cases e
      cases r with
      | tup n hr' rr =>
        rename_i a vs
        obtain ⟨t, pt, ht⟩ := hr c Γ sl st α σ H xs vs Q hΓ R rr hl h
        exact ⟨_, pg_tup hc pt hn hst, a, vs, rfl, .inl hr', by rw [← rr.length]; exact hl, ht⟩
    · rw [if_neg hl] at e
      cases e
  · cases e
theorem setAll_ok : ∀ (is : List Nat) (ds : List D) (l : Sl), (setAll l is ds).length = l.length ∧ ∀ i, i ∉ is → (setAll l is ds)[i]? = l[i]?
  | [], _, l => ⟨rfl, fun _ _ => rfl⟩
  | _ :: _, [], l => ⟨rfl, fun _ _ => rfl⟩
  | i :: is, d :: ds, l => by
    obtain ⟨h1, h2⟩ := setAll_ok is ds (l.set i (some d))
    refine ⟨by unfold setAll; rw [h1, List.length_set], fun m hm => ?_⟩
    unfold setAll
    rw [h2 m (fun z => hm (List.mem_cons_of_mem _ z)), getElem?_set_ne' (fun e => hm (by rw [e]; exact List.mem_cons_self))]
theorem tgN_ok (is : List Nat) : TgOk is (tgN is) := fun d l l' h => by
  unfold tgN at h
  split at h
  · rename_i xs
    by_cases hl : xs.length = is.length
    · rw [if_pos hl] at h
      cases h
      exact setAll_ok is xs l
    · rw [if_neg hl] at h; cases h
  · cases h
theorem se_lenSet {p2 q : Pos} (hm : X.mg "len" = none) (hm2 : X.mg "set" = none) (ha : SB X W Γ a fa) (hc : X.calm = true := by rfl) (hg : Gl X "len" := by rfl) (hg2 : Gl X "set" := by rfl)
    (na : starEach [a] X.env = (false, eval a X.env) :: starEach [] X.env := by rfl) : SE X W Γ (.Call (.Name "len" p) [.Call (.Name "set" p2) [a] [] q] [] pos) (mUn gLenSet fa) := by
  intro c sl st α σ H Q R h
  refine ⟨_, RZ.pe_lenSetI hg hm hg2 hm2 pe_wp hc na, ?_⟩
  refine ha c sl st α σ H _ R ((Vx.R.sat_bind.mp h).imp (fun x s1 hx vx α1 H1 R1 S1 r1 => ?_) fun _ _ z => z)
  cases eg : gLenSet x with
  | none => rw [eg] at hx; exact False.elim hx
  | some d =>
    rw [eg] at hx
    unfold gLenSet at eg
    split at eg
    · rename_i xs
      obtain ⟨l, vs, rfl, hs, r⟩ := r1.lst
      cases hi : intsD xs with
      | none => rw [hi] at eg; cases eg
      | some ns =>
        rw [hi] at eg
        obtain ⟨hc2, rfl⟩ := ite_some eg
        rw [Bool.and_eq_true, decide_eq_true_eq, decide_eq_true_eq] at hc2
        rw [rds_intsD hi r] at hs
        exact ⟨l, ns, rfl, hs, hc2.1, hc2.2, hx _ α1 H1 R1 S1 (.int _)⟩
    · cases eg
end
end Vx

/-! VLow: list(reversed(a list)), at the library's level. -/
namespace Vx
open PySem PySem.Spec PyProof.Rows L2
variable [Wd]
section
variable {prog : Program} {w : World} {A : Around} {s : Shared}
theorem list_init_rev {R : PySem.Result → Shared → Prop} {S it l : Addr} {items : Array Value} (hh : A.handled = none) (hit : s.heap.IsRevIter it l ((items.size : Int) - 1)) (hl : s.heap.IsList l items) (hne : l ≠ it) (hn : items.size ≤ sizeLine)
    (hS : s.heap.get? S = some { cls := .type "list", data := .seq #[] }) (hSi : S ≠ it) (hSl : S ≠ l)
    (hR : ∀ (h' : Heap) (tk : Nat) (acc : Array Value) (c : Nat), (∀ b o, b ≠ it → b ≠ S → s.heap.get? b = some o → h'.get? b = some o) → h'.get? S = some { cls := .type "list", dict := none, data := .seq acc c, slots := #[] } → ItemsOf (fun i v => items[items.size - 1 - i]? = some v) acc items.size → R (.ok (.ret .none)) { s with heap := h', toks := tk }) :
    wpAny (model prog w) A.in1 (Builtin.«list.__init__» ⟨[.ref S, .ref it], []⟩)
      (fun fin s' => match fin with | .done f => R (.ok f) s' | .again c' => c'.quiet = true ∧ codeAny (model prog w) A c' R s') (fun e s' => R (.error e) s') s := by
  have W := (Walks.listRev (prog := prog) (w := w) (A := A.in1) hh it l hne items).toS
  have hSf : S ∉ [it, l] := by simp only [List.mem_cons, List.not_mem_nil, or_false, not_or]; exact ⟨hSi, hSl⟩
  show wpAny _ A.in1 (do let old ← Builtin.List.listItems (.ref S); Builtin.List.listUpdate (.ref S) (fun _ => #[]); letGo old.toList.reverse; Builtin.List.listExtendWith (.ref S) (.ref it) .none) _ _ s
  refine wpAny_bind ?_
  unfold Builtin.List.listItems
  refine wpAny_bind (wpAny_seqItems hS rfl (wpAny_pure ?_))
  show wpAny _ A.in1 (updateSeq S (fun _ => #[]) >>= fun _ => letGo (#[] : Array Value).toList.reverse >>= fun _ => Builtin.List.listExtendWith (.ref S) (.ref it) .none) _ _ s
  refine wpAny_bind (wpAny_updateSeq hS rfl ?_)
  have hS₂ := Heap.get?_update_self (Obj.mapSeq (fun _ => (#[] : Array Value))) hS rfl
  refine wpAny_bind (wpAny_letGo ?_)
  have oth : ∀ b o, b ≠ S → s.heap.get? b = some o → (s.heap.update S (Obj.mapSeq (fun _ => (#[] : Array Value)))).get? b = some o := fun b o hb e => (Heap.get?_update_other _ _ (Ne.symm hb)).trans e
  have hit2 : (s.heap.update S (Obj.mapSeq (fun _ => (#[] : Array Value)))).IsRevIter it l ((items.size : Int) - 1) := hit.at fun o e => oth it o (Ne.symm hSi) e
  have hT2 : ({ s with heap := s.heap.update S (Obj.mapSeq (fun _ => (#[] : Array Value))) } : Shared).TypeIs (.ref it) "list_reverseiterator" := Heap.IsRevIter.typeIs (s := { s with heap := s.heap.update S (Obj.mapSeq (fun _ => (#[] : Array Value))) }) hit2
  unfold Builtin.List.listExtendWith
  refine wpAny_bind (wpAny_typeOf hT2 ?_)
  have h1 : Builtin.List.listSameRef (.ref S) (.ref it) = false := by simp [Builtin.List.listSameRef, hSi]
  have h2 : (Value.type "list_reverseiterator" == Value.type "list") = false := by decide
  have h3 : (Value.type "list_reverseiterator" == Value.type "tuple") = false := by decide
  simp only [h1, h2, h3, Bool.or_false, Bool.false_eq_true, if_false]
  refine wpAny_bind (wpAny_pyIter_revIter (s := { s with heap := s.heap.update S (Obj.mapSeq (fun _ => (#[] : Array Value))) }) hit2 ?_)
  refine wpAny_bind (wpAny_holding ?_)
  unfold Builtin.List.listLengthHint
  refine wpAny_bind (wpAny_specialOf hT2 RT.nolen_lri ?_)
  show wpAny _ A.in1 (specialOf (Value.ref it) (Str.ofString "__length_hint__") >>= _) _ _ _
  refine wpAny_bind (wpAny_specialOf hT2 RT.hint_lri ?_)
  generalize hid : ("list_reverseiterator.__length_hint__" : String) = id0
  wp_delta
  rw [show splitId id0 = some ("list_reverseiterator", "__length_hint__") from by subst hid; decide +kernel]
  subst hid
  refine wpAny_bind (wpAny_isInstance (b := true) hT2 (by rw [isSubtype_type]; kernel_rfl) ?_)
  refine wpAny_pure ?_
  rw [if_neg (by decide)]
  have e0 : ((items.size : Nat) : Int) - 1 - ((0 : Nat) : Int) = (items.size : Int) - 1 := by omega
  have hl2 : (s.heap.update S (Obj.mapSeq (fun _ => (#[] : Array Value)))).IsList l items := by
    obtain ⟨o, ho, r⟩ := id hl
    exact ⟨o, oth l o (Ne.symm hSl) ho, r⟩
  refine wpAny_pure ⟨plainId_quiet F.plain_extend_loop _, codeAny_extend_loopS W hn _ hSf _ items.size 0 _ _ _ rfl (Nat.zero_le _) ⟨Nat.zero_le _, by rw [e0]; exact hit2, hl2⟩ hS₂ (ItemsOf.nil _) fun s' acc' c' hm hS' hacc => ?_⟩
  rw [Moved.eq_with hm]
  refine hR s'.heap s'.toks acc' c' (fun b o hb hb2 e => hm.heap b o (fun hmem => ?_) (oth b o hb2 e)) hS' hacc
  rcases List.mem_cons.mp hmem with e' | hmem
  · exact hb2 e'
  · exact hb (List.mem_singleton.mp hmem)
theorem call_list_rev {E : Value → Shared → Prop} {it l : Addr} {items : Array Value} {Q : Value → Shared → Prop} (hh : A.handled = none) (hit : s.heap.IsRevIter it l ((items.size : Int) - 1)) (hl : s.heap.IsList l items) (hne : l ≠ it) (hn : items.size ≤ sizeLine)
    (hQ : ∀ (h' : Heap) (tk : Nat) (acc : Array Value) (c : Nat), (∀ b o, b ≠ it → s.heap.get? b = some o → h'.get? b = some o) → h'.get? s.heap.objs.size = some { cls := .type "list", dict := none, data := .seq acc c, slots := #[] } → ItemsOf (fun i v => items[items.size - 1 - i]? = some v) acc items.size →
      Q (.ref s.heap.objs.size) { s with heap := h', toks := tk }) :
    wpAny (model prog w) A (call (.type "list") [.ref it]) Q E s := by
  obtain ⟨oi, hoi, _⟩ := id hit
  obtain ⟨ol, hol, _⟩ := id hl
  have hSi : s.heap.objs.size ≠ it := Nat.ne_of_gt (Heap.lt_size hoi)
  have hSl : s.heap.objs.size ≠ l := Nat.ne_of_gt (Heap.lt_size hol)
  refine callType_codes (Q₁ := fun obj s₁ => obj = .ref s.heap.objs.size ∧ s₁ = { s with heap := s.heap.push { cls := .type "list", data := .seq #[] } }) F.called_list (F.typeCall_list_1 _) F.entry_list_init
    (code_list_new _ ⟨rfl, rfl⟩) fun obj s₁ h₁ => ?_
  obtain ⟨rfl, rfl⟩ := h₁
  have hS : (s.heap.push { cls := .type "list", data := .seq #[] }).get? s.heap.objs.size = some { cls := .type "list", data := .seq #[] } := Heap.get?_push_size _ rfl
  refine ⟨⟨_, hS, rfl⟩, F.args_list_init_2 _ _, list_init_rev (A := A.in1) (s := { s with heap := s.heap.push { cls := .type "list", data := .seq #[] } }) hh (hit.at fun o e => Heap.get?_push_of_some _ e) (hl.push _) hne hn hS hSi hSl fun h' tk acc c hk hS' hacc => ⟨rfl, ?_⟩⟩
  exact hQ h' tk acc c (fun b o hb e => hk b o hb (fun z => by rw [z] at e; exact Nat.lt_irrefl _ (Heap.lt_size e)) (Heap.get?_push_of_some _ e)) hS' hacc
end
/-- list(reversed(x)), x a list: a new list -/
def tLstRev (K : PySem.W.Frag) (te : TE) : TE := fun σ H Q => te σ H fun v H1 => ∃ (a : Addr) (xs : List V), v = .ref a ∧ SqL K H1 a xs ∧ ∀ q, H1 q = none → Q (.ref q) (upd H1 q (.lst xs.reverse))
theorem pe_listRev {X : Cx} {e : Expr} {te : TE} {p p2 pos pos2 : Pos} (hc : X.calm = true) (hg : Gl X "list") (hm : X.mg "list" = none) (hg2 : Gl X "reversed") (hm2 : X.mg "reversed" = none) (he : PE X e te)
    (hs : starEach [e] X.env = (false, eval e X.env) :: starEach [] X.env := by rfl)
    (hs2 : starEach [.Call (.Name "reversed" p2) [e] [] pos2] X.env = (false, eval (.Call (.Name "reversed" p2) [e] [] pos2) X.env) :: starEach [] X.env := by rfl) :
    PE X (.Call (.Name "list" p) [.Call (.Name "reversed" p2) [e] [] pos2] [] pos) (tLstRev X.K te) := by
  refine ⟨fun pins s σ H Q I h => ?_⟩
  refine Call_ (ld_blt I hg hm boot_list (PyProof.Rows.callWith_type1 (args_cons (Call_ (ld_blt I hg2 hm2 PyProof.Rows.boot_reversed (PyProof.Rows.callWith_type1 (args_cons (thn (he.run pins s σ H _ I h) fun u s1 ⟨v, H1, I1, r1, q1⟩ => args_nil ?_) hs) hs rfl))) hs2) hs2 rfl))
  obtain ⟨a, xs, ev, hq, q⟩ := q1
  subst ev
  obtain rfl : u = Value.ref a := r1
  obtain ⟨its, rv, p', hz⟩ := I1.list hq
  refine call_reversed_list p'.isList (args_nil ?_)
  have hl := p'.isList
  obtain ⟨ol, hol, _⟩ := id hl
  have hne : a ≠ s1.heap.objs.size := Nat.ne_of_lt (Heap.lt_size hol)
  have hn : its.toArray.size ≤ sizeLine := by rw [List.size_toArray, ← rv.length]; exact hz
  refine call_list_rev (s := { s1 with heap := s1.heap.push (revObj a ((its.toArray.size : Int) - 1)) }) (I1.ok.hd hc) ⟨_, Heap.get?_push_size _ rfl, rfl, rfl⟩ (hl.push _) hne hn fun h' tk acc c hk hS hi => ?_
  have hsz : (s1.heap.push (revObj a ((its.toArray.size : Int) - 1))).objs.size = s1.heap.objs.size + 1 := by simp [Heap.push]
  have k1 : ∀ b o, s1.heap.get? b = some o → h'.get? b = some o := fun b o e => hk b o (Nat.ne_of_lt (Heap.lt_size e)) (Heap.get?_push_of_some _ e)
  have hle : s1.heap.objs.size ≤ (s1.heap.push (revObj a ((its.toArray.size : Int) - 1))).objs.size := by rw [hsz]; exact Nat.le_succ _
  refine ⟨.ref _, upd H1 _ (.lst xs.reverse), I1.laid (t' := tk) k1 hle (show ObjOk X.prog X.w _ _ _ (.lst xs.reverse) from ⟨by rw [List.length_reverse]; exact hz, acc.toList, c, RT.vals_rev rv hi, ?_⟩), rfl, q _ (I1.hok.fresh hle)⟩
  rw [Array.toArray_toList]
  exact hS
/-! ### enumerate(tuple) -/
set_option maxHeartbeats 1000000 in
theorem meets_enumerate_newT {v : Value} {o : Obj} {H : Heap → Prop} (B : Begins v o H) :
    Meets (Builtin.«enumerate.__new__» ⟨[.type "enumerate", v], []⟩) (fun _ R s => H s.heap ∧
      R (.ok (.ret (.ref (s.heap.push o).objs.size))) { s with heap := (s.heap.push o).push { cls := .type "enumerate", data := .fields #[.none, .bool false, .ref s.heap.objs.size, rawInt 0, .none, .none] } }) :=
  .of_wp fun prog w A R s h => by
    obtain ⟨hp, g, d, tk, os⟩ := s; obtain ⟨h1, h⟩ := h
    have hsub := sub_enumerate
    have q1 : ∀ {A' : Around} {E : Value → Shared → Prop} {Q : Value → Shared → Prop}, Q (.ref hp.objs.size) ⟨hp.push o, g, d, tk, os⟩ → wpAny (model prog w) A' (pyIter v) Q E ⟨hp, g, d, tk, os⟩ :=
      fun q => B.iter prog w _ _ ⟨hp, g, d, tk, os⟩ _ h1 q
    wp_walk using q1
    refine wpAny_stack_any fun st => wpAny_pure ?_
    split
    · rename_i c _ _ _ _ _
      cases (c == Value.type "enumerate")
      · wp_walk using q1
        exact ⟨_, rfl, h⟩
      · wp_walk using q1
        exact ⟨_, rfl, h⟩
    · wp_walk using q1
      exact ⟨_, rfl, h⟩
theorem call_enumerate_tup {prog : Program} {w : World} {A : Around} {s : Shared} {E : Value → Shared → Prop} {l : Addr} {items : Array Value} {Q : Value → Shared → Prop} (hL : s.heap.IsTuple l items)
    (h : ∀ h', IsEnum h' (s.heap.objs.size + 1) s.heap.objs.size 0 .none → h'.IsTupleIter s.heap.objs.size l 0 → h'.objs.size = s.heap.objs.size + 2 →
      (∀ b o, s.heap.get? b = some o → h'.get? b = some o) → Q (.ref (s.heap.objs.size + 1)) { s with heap := h' }) :
    wpAny (model prog w) A (call (.type "enumerate") [.ref l]) Q E s := by
  refine callType_new F.called_enumerate (by decide) (F.typeCall_enumerate_1 _) (F.newCall_enumerate_1 _) (fun obj => F.args_object_init_2 obj _) F.entry_enumerate_new
    (meets_enumerate_newT (begins_tuple l items)) ⟨hL, ?_⟩
  have hz : (s.heap.push { cls := .type "tuple_iterator", data := .fields #[.ref l, .int 0 0] }).objs.size = s.heap.objs.size + 1 := Heap.size_push ..
  show _ ∧ _
  rw [hz]
  have he : IsEnum ((s.heap.push { cls := .type "tuple_iterator", data := .fields #[.ref l, .int 0 0] }).push
      { cls := .type "enumerate", data := .fields #[.none, .bool false, .ref s.heap.objs.size, rawInt 0, .none, .none] }) (s.heap.objs.size + 1) s.heap.objs.size 0 .none := by
    have := Heap.get?_push_size (s.heap.push { cls := .type "tuple_iterator", data := .fields #[.ref l, .int 0 0] })
      (o := { cls := .type "enumerate", data := .fields #[.none, .bool false, .ref s.heap.objs.size, rawInt 0, .none, .none] }) rfl
    rw [hz] at this; exact this
  refine ⟨⟨_, he, rfl⟩, h _ he ⟨_, Heap.get?_push_of_some _ (Heap.get?_push_size _ rfl), rfl, rfl⟩ (by rw [Heap.size_push, hz]) fun b o x => Heap.get?_push_of_some _ (Heap.get?_push_of_some _ x)⟩
/-- the tuple at a, each item in a new pair -/
def IteT (K : PySem.W.Frag) (a : Addr) : It :=
  ⟨fun i H => ∃ (xs : List V) (x : V), SqT K H a xs ∧ xs[i]? = some x, fun i H v H' => ∃ T x, v = .ref T ∧ H T = none ∧ H' = upd H T (.tup [.int (i : Nat), x]) ∧ ∀ xs, SqT K H a xs → xs[i]? = some x, fun i H => ∃ xs : List V, SqT K H a xs ∧ xs.length ≤ i⟩
theorem turn_enumT {P : Program} {w : World} {K : PySem.W.Frag} {elts : List Expr} {kk : Nat} {tpos : Pos} (a e it : Addr) :
    Turn P w K (.Tuple elts kk tpos) (IteT K a) [e, it] e (fun i h => (∃ old, IsEnum h e it ((i : Nat) : Int) old) ∧ h.IsTupleIter it a i ∧ e ≠ it ∧ a ≠ e ∧ a ≠ it) where
  mem := by simp
  obj := fun i h st b hb => by
    obtain ⟨⟨old, he⟩, ⟨o, ho, hc, hd⟩, _⟩ := st
    have e' : b = e ∨ b = it := by simpa using hb
    rcases e' with z | z
    · rw [z]; exact ⟨_, he, fun v q => nomatch q⟩
    · rw [z]; exact ⟨o, ho, fun v q => by rw [hd] at q; cases q⟩
  keep := fun i h h' st k => let ⟨⟨old, he⟩, hi, hne⟩ := st; ⟨⟨old, k e (by simp) _ he⟩, hi.at fun o q => k it (by simp) o q, hne⟩
  item := by
    intro X hP hw hK hc i pins s σ H E I hf st hg
    subst hP hw hK
    obtain ⟨⟨old, he⟩, hit, hne, hae, hai⟩ := st
    obtain ⟨xs, x, hq, hx⟩ := hg
    obtain ⟨its, rv, p, hz⟩ := I.tuple hq
    obtain ⟨u, hu, ru⟩ := rv.get hx
    have hel : e < s.heap.objs.size := Heap.lt_size he
    have hil : it < s.heap.objs.size := by obtain ⟨_, q, _⟩ := hit; exact Heap.lt_size q
    have p0 : s.heap.IsTuple a its.toArray := p
    have hin : i < its.toArray.size := by rw [List.size_toArray]; exact (List.getElem?_eq_some_iff.mp hu).1
    refine wpAny_pyNext_enum_itemD (Draws.tuple (A := X.A.in1) (I.ok.hd hc) it a hai its.toArray) he ⟨hit, p0⟩ hin hne (by simp only [List.mem_cons, List.not_mem_nil, or_false, not_or]; exact ⟨hne, Ne.symm hae⟩) fun y h' tk hy ho hst hT hsz hk => ?_
    have ey : y = u := by
      have : its.toArray[i]? = some u := by simpa using hu
      rw [this] at hy
      exact (Option.some.inj hy).symm
    subst ey
    obtain ⟨hit', _⟩ := hst
    refine ⟨_, rfl, wpAny_letOwnedTupleGo_enum (s := { s with heap := h', toks := tk + 1 }) ho fun h'' he' sb => ?_⟩
    have hT2 : h''.get? s.heap.objs.size = some { cls := .type "tuple", data := .seq #[.int i tk, y] } := (sb.2 _ (Nat.ne_of_gt hel)).trans hT
    have new : ObjOk X.prog X.w (upd H s.heap.objs.size (.tup [.int (i : Nat), x])) h'' s.heap.objs.size (.tup [.int (i : Nat), x]) :=
      ⟨by show 2 ≤ sizeLine; decide, [.int i tk, y], .cons ⟨_, rfl⟩ (.cons ru .nil), ⟨_, hT2, rfl, _, rfl⟩⟩
    have I1 : Inv X pins σ (upd H s.heap.objs.size (.tup [.int (i : Nat), x])) { s with heap := h'', toks := tk + 1 } :=
      I.turnedNew (ch := [e, it]) (fun b ob hb q => (sb.2 b (fun z => hb (by simp [z]))).trans (hk b ob (fun z => hb (by simp [z])) (fun z => hb (by simp [z])) q)) hf (Nat.le_refl _) new
    refine ⟨.ref s.heap.objs.size, _, I1, rfl, ⟨_, x, rfl, I.hok.fresh (Nat.le_refl _), rfl, fun ys hy => by rw [I.tuple_inj hy hq]; exact hx⟩, ⟨⟨y, ?_⟩, hit'.at fun o q => (sb.2 it (Ne.symm hne)).trans q, hne, hae, hai⟩, fun b hb => ?_⟩
    · have e1 : ((i + 1 : Nat) : Int) = (i : Int) + 1 := by omega
      rw [e1]; exact he'
    · have hb' : b < s.heap.objs.size := by
        have e' : b = e ∨ b = it := by simpa using hb
        rcases e' with z | z
        · rw [z]; exact hel
        · rw [z]; exact hil
      rw [upd_ne (Nat.ne_of_lt hb')]
      exact (hf b hb).1
  done := by
    intro X hP hw hK hc i pins s σ H E I hf st hg
    subst hP hw hK
    obtain ⟨⟨old, he⟩, hit, hne, hae, hai⟩ := st
    obtain ⟨xs, hq, hx⟩ := hg
    obtain ⟨its, rv, p, hz⟩ := I.tuple hq
    obtain ⟨f0, f1, f2, f3, f4, f5⟩ := hf it (by simp)
    have hl := rv.length
    have p0 : s.heap.IsTuple a its.toArray := p
    have D := Draws.tuple (prog := X.prog) (w := X.w) (A := X.A.in1) (I.ok.hd hc) it a hai its.toArray
    have hT : s.TypeIs (.ref e) "enumerate" := ⟨_, he, rfl⟩
    unfold pyNext
    refine wpAny_bind (wpAny_attempt (wpAny_callSpecial?_slot (name := Str.ofString "__next__") hT F.slot_enumerate_next
      (wpAny_call_entry F.slot_enumerate_next hT F.entry_enumerate_next ?_ (F.args_enumerate_next_1 _))))
    show wpAny _ _ (field (.ref e) 2 >>= _) _ _ _
    refine wpAny_bind (wpAny_field he rfl (x := .ref it) rfl ?_)
    refine wpAny_bind (wpAny_nextOf_tuple_end (A := X.A.in1) (I.ok.hd hc) hit p0 (by simp; omega) fun h' x he' hx' => ?_)
    obtain ⟨o, ho, hc'⟩ := hx'
    refine wpAny_bind (wpAny_isInstance (T := "StopIteration") (b := true) ⟨o, ho, hc'⟩ isSubtype_stop ?_)
    exact wpAny_pure ⟨rfl, I.turned (t' := s.toks) (fun b o hb q => he' b o hb q) f0 f1 f3 f4 f5⟩
  self := fun A i s Q E st h => let ⟨⟨_, he⟩, _⟩ := st; wpAny_pyIter_enum he h
def iEnumA (K : PySem.W.Frag) (te : TE) : TI := fun σ H R => te σ H fun v H1 => ∃ (a : Addr) (xs : List V), v = .ref a ∧ ((SqL K H1 a xs ∧ R (Ite K a) H1) ∨ (SqT K H1 a xs ∧ R (IteT K a) H1))
theorem pi_enumA {X : Cx} {e : Expr} {te : TE} {p pos tpos : Pos} {elts : List Expr} {kk : Nat} (hg : Gl X "enumerate") (hm : X.mg "enumerate" = none) (he : PE X e te) (hs : starEach [e] X.env = (false, eval e X.env) :: starEach [] X.env := by rfl) :
    PI X (.Tuple elts kk tpos) (.Call (.Name "enumerate" p) [e] [] pos) (iEnumA X.K te) := by
  refine ⟨fun pins s σ H R I h => ?_⟩
  refine Call_ (ld_blt I hg hm boot_enumerate (PyProof.Rows.callWith_type1 (args_cons (thn (he.run pins s σ H _ I h) fun u s1 ⟨v, H1, I1, r1, q1⟩ => args_nil ?_) hs) hs rfl))
  obtain ⟨a, xs, ev, q⟩ := q1
  subst ev
  obtain rfl : u = Value.ref a := r1
  have hfp : ∀ b ∈ [s1.heap.objs.size + 1, s1.heap.objs.size], s1.heap.objs.size ≤ b := fun b hb => by
    have e' : b = s1.heap.objs.size + 1 ∨ b = s1.heap.objs.size := by simpa using hb
    rcases e' with z | z
    · rw [z]; exact Nat.le_add_right _ _
    · rw [z]; exact Nat.le_refl _
  rcases q with ⟨hq, q⟩ | ⟨hq, q⟩
  · obtain ⟨its, rv, p', hz⟩ := I1.list hq
    refine call_enumerate_list p'.isList fun h' he hit hsz hk => wpAny_pyIter_enum he ?_
    have I2 : Inv X pins σ H1 { s1 with heap := h' } := I1.kept (t' := s1.toks) hk
    exact ⟨s1.heap.objs.size + 1, [s1.heap.objs.size + 1, s1.heap.objs.size], _, _, H1, rfl, I2, turn_enum a (s1.heap.objs.size + 1) s1.heap.objs.size, ⟨⟨.none, he⟩, hit, Nat.succ_ne_self _⟩, fun b hb => I1.fpOk (hfp b hb) (I1.hok.fresh (hfp b hb)), q⟩
  · obtain ⟨its, rv, p', hz⟩ := I1.tuple hq
    have p0 : s1.heap.IsTuple a its.toArray := p'
    have hal : a < s1.heap.objs.size := by obtain ⟨_, q, _⟩ := p0; exact Heap.lt_size q
    refine call_enumerate_tup p0 fun h' he hit hsz hk => wpAny_pyIter_enum he ?_
    have I2 : Inv X pins σ H1 { s1 with heap := h' } := I1.kept (t' := s1.toks) hk
    exact ⟨s1.heap.objs.size + 1, [s1.heap.objs.size + 1, s1.heap.objs.size], _, _, H1, rfl, I2, turn_enumT a (s1.heap.objs.size + 1) s1.heap.objs.size, ⟨⟨.none, he⟩, hit, Nat.succ_ne_self _, Nat.ne_of_lt (Nat.lt_succ_of_lt hal), Nat.ne_of_lt hal⟩, fun b hb => I1.fpOk (hfp b hb) (I1.hok.fresh (hfp b hb)), q⟩
end Vx

/-! VExt2: list(reversed(..)), enumerate, zip. -/
namespace Vx
open PySem PySem.Spec L2
variable [Wd]
section
variable {X : Cx} {W : WXc} {ρ : Bool} {Γ Γ' Γ'' ΓL : List Bool} {e a b : Expr} {es : List Expr} {s : Stmt} {ss : List Stmt} {f fa fb fc : FE} {x : Str} {pos p : Pos} {g1 g2 : FS}
variable {K : PySem.W.Frag} {N N' T : Addr → Prop} {α α' : List Addr} {H H' : Hp} {c c' : Cz} {sl : Sl} {st st' : Sto} {σ : St}
theorem sf_listRev {p2 pos2 : Pos} (hm : X.mg "list" = none) (hm2 : X.mg "reversed" = none) (ha : SB X W Γ a fa) (hc : X.calm = true := by rfl) (hg : Gl X "list" := by rfl) (hg2 : Gl X "reversed" := by rfl) (hs : starEach [a] X.env = (false, eval a X.env) :: starEach [] X.env := by rfl)
    (hs2 : starEach [.Call (.Name "reversed" p2) [a] [] pos2] X.env = (false, eval (.Call (.Name "reversed" p2) [a] [] pos2) X.env) :: starEach [] X.env := by rfl) :
    SF X W Γ (.Call (.Name "list" p) [.Call (.Name "reversed" p2) [a] [] pos2] [] pos) (mUn gListRev fa) := by
  intro c sl st α σ H Q R h
  refine ⟨_, pe_listRev hc hg hm hg2 hm2 pe_wp hs hs2, ?_⟩
  refine ha c sl st α σ H _ R ((Vx.R.sat_bind.mp h).imp (fun x s1 hx vx α1 H1 R1 S1 r1 => ?_) fun _ _ z => z)
  cases x with
  | lst xs =>
    obtain ⟨q, vs, rfl, hs, r⟩ := r1.lst
    have hx' : PQf X.K c Γ sl α σ H Q (.lst xs.reverse) s1 := hx
    exact ⟨q, vs, rfl, hs, fun q2 hq2 => PQf.new (o := .lst vs.reverse) hx' R1 S1 (fun _ m => R.sto.tr m) hq2 r.reverse⟩
  | _ => exact False.elim hx
/-! ### enumerate -/
theorem enumD_get {xs : List D} {i : Nat} {d : D} (h : (enumD xs)[i]? = some d) : ∃ x, xs[i]? = some x ∧ d = .tup [.int (i : Nat), x] := by
  unfold enumD at h
  rw [List.getElem?_zipWith] at h
  cases h1 : (List.range xs.length)[i]? with
  | none => rw [h1] at h; cases h
  | some j =>
    cases h2 : xs[i]? with
    | none => rw [h1, h2] at h; cases h
    | some x =>
      rw [h1, h2] at h
      have hj : j = i := by
        have := List.getElem?_eq_some_iff.mp h1
        obtain ⟨hl, e⟩ := this
        rw [List.getElem_range] at e
        exact e.symm
      subst hj
      simp at h
      exact ⟨x, rfl, h.symm⟩
theorem enumD_length (xs : List D) : (enumD xs).length = xs.length := by unfold enumD; simp
theorem yields_enumL {a : Addr} {ds : List D} {vs : List V} (h : (¬ T a ∧ Rd H a (.lst vs)) ∨ KL K a vs) (r : RDs K N α H ds vs) : Yields K N T α H (Ite K a) (enumD ds) := by
  intro N' T' α' H' sT sN hN
  have hq : SqL K H' a vs := by
    rcases h with ⟨n, h⟩ | h
    · exact sqL_of (sT.rd n h).1
    · exact h.sq
  have r' := r.step sN
  refine ⟨fun i d hd => ?_, fun i hi => ⟨vs, hq, by rw [← r.length]; rw [enumD_length] at hi; exact hi⟩⟩
  obtain ⟨x, hx, rfl⟩ := enumD_get hd
  obtain ⟨v, h1, h2⟩ := r'.get hx
  refine ⟨⟨vs, v, hq, h1⟩, fun y H'' hy => ?_⟩
  obtain ⟨t, z, rfl, ht, rfl, hz⟩ := hy
  have := hz vs hq
  rw [h1] at this
  cases this
  have G : Same H' (upd H' t (.tup [.int (i : Nat), v])) := same_upd ht
  exact ⟨G, .tup (fun z => hN t z ht) (.of upd_same) (.cons (.int _) (.cons (h2.step (.grow G)) .nil))⟩
theorem yields_enumT {a : Addr} {ds : List D} {vs : List V} (n : ¬ N a) (h : Rd H a (.tup vs)) (r : RDs K N α H ds vs) : Yields K N T α H (IteT K a) (enumD ds) := by
  intro N' T' α' H' sT sN hN
  have hq : SqT K H' a vs := sqT_of (sN.rd n h).1
  have r' := r.step sN
  refine ⟨fun i d hd => ?_, fun i hi => ⟨vs, hq, by rw [← r.length]; rw [enumD_length] at hi; exact hi⟩⟩
  obtain ⟨x, hx, rfl⟩ := enumD_get hd
  obtain ⟨v, h1, h2⟩ := r'.get hx
  refine ⟨⟨vs, v, hq, h1⟩, fun y H'' hy => ?_⟩
  obtain ⟨t, z, rfl, ht, rfl, hz⟩ := hy
  have := hz vs hq
  rw [h1] at this
  cases this
  have G : Same H' (upd H' t (.tup [.int (i : Nat), v])) := same_upd ht
  exact ⟨G, .tup (fun z => hN t z ht) (.of upd_same) (.cons (.int _) (.cons (h2.step (.grow G)) .nil))⟩
theorem si_enum {elts : List Expr} {kk : Nat} {tpos : Pos} {bb : Bool} (hm : X.mg "enumerate" = none) (ha : SE X W Γ a fa) (hg : Gl X "enumerate" := by rfl) (hs : starEach [a] X.env = (false, eval a X.env) :: starEach [] X.env := by rfl) : SI X W Γ bb (.Tuple elts kk tpos) (.Call (.Name "enumerate" p) [a] [] pos) (itEnum fa) := by
  intro c sl st α σ H R' Rl h
  refine ⟨_, pi_enumA hg hm pe_wp hs, ?_⟩
  refine ha c sl st α σ H _ Rl ((Vx.R.sat_bind.mp h).imp (fun d s1 hd v α1 H1 R1 S1 r1 => ?_) fun _ _ z => z)
  cases d with
  | lst xs =>
    have rb := RB.of (T := if bb then NB c α1 else NN c Γ σ α1) r1 nt_of
    obtain ⟨q, vs, rfl, hq, r⟩ := id rb
    exact ⟨q, vs, rfl, .inl ⟨by rcases hq with ⟨_, hq⟩ | hq; exact sqL_of hq; exact hq.sq, hd _ α1 H1 R1 S1 (yields_enumL hq r)⟩⟩
  | tup xs =>
    cases r1 with
    | tup n hr r => exact ⟨_, _, rfl, .inr ⟨sqT_of hr, hd _ α1 H1 R1 S1 (yields_enumT n hr r)⟩⟩
  | _ => exact False.elim hd
/-! ### zip -/
theorem zipD_get {xs ys : List D} {i : Nat} {d : D} (h : (zipD xs ys)[i]? = some d) : ∃ x y, xs[i]? = some x ∧ ys[i]? = some y ∧ d = .tup [x, y] := by
  unfold zipD at h
  rw [List.getElem?_zipWith] at h
  cases h1 : xs[i]? with
  | none => rw [h1] at h; cases h
  | some x =>
    cases h2 : ys[i]? with
    | none => rw [h1, h2] at h; cases h
    | some y =>
      rw [h1, h2] at h
      simp at h
      exact ⟨x, y, rfl, rfl, h.symm⟩
theorem yields_zip {a b : Addr} {ds es : List D} {vs us : List V} (h : (¬ T a ∧ Rd H a (.lst vs)) ∨ KL K a vs) (r : RDs K N α H ds vs) (h' : (¬ T b ∧ Rd H b (.lst us)) ∨ KL K b us) (rb : RDs K N α H es us) : Yields K N T α H (Itz K a b) (zipD ds es) := by
  intro N' T' α' H' sT sN hN
  have hq : SqL K H' a vs := by
    rcases h with ⟨n, h⟩ | h
    · exact sqL_of (sT.rd n h).1
    · exact h.sq
  have hq2 : SqL K H' b us := by
    rcases h' with ⟨n, h⟩ | h
    · exact sqL_of (sT.rd n h).1
    · exact h.sq
  have r' := r.step sN
  have rb' := rb.step sN
  refine ⟨fun i d hd => ?_, fun i hi => ⟨vs, us, hq, hq2, ?_⟩⟩
  · obtain ⟨x, y, hx, hy, rfl⟩ := zipD_get hd
    obtain ⟨v, h1, h2⟩ := r'.get hx
    obtain ⟨u, h3, h4⟩ := rb'.get hy
    refine ⟨⟨vs, us, v, u, hq, hq2, h1, h3⟩, fun z H'' hz => ?_⟩
    obtain ⟨t, z1, z2, rfl, ht, rfl, e1, e2⟩ := hz
    have e1 := e1 vs hq
    have e2 := e2 us hq2
    rw [h1] at e1
    rw [h3] at e2
    cases e1
    cases e2
    have G : Same H' (upd H' t (.tup [v, u])) := same_upd ht
    exact ⟨G, .tup (fun z => hN t z ht) (.of upd_same) (.cons (h2.step (.grow G)) (.cons (h4.step (.grow G)) .nil))⟩
  · unfold zipD at hi
    rw [List.length_zipWith, r.length, rb.length] at hi
    omega
theorem si_zip {elts : List Expr} {kk : Nat} {tpos : Pos} {bb : Bool} (hm : X.mg "zip" = none) (ha : SE X W Γ a fa) (hb : SE X W Γ b fb) (hg : Gl X "zip" := by rfl) (hs : starEach [a, b] X.env = (false, eval a X.env) :: starEach [b] X.env := by rfl) (hs2 : starEach [b] X.env = (false, eval b X.env) :: starEach [] X.env := by rfl) (hpl : (backTo pos (starEach [b] X.env)).any (·.1) = false := by rfl) :
    SI X W Γ bb (.Tuple elts kk tpos) (.Call (.Name "zip" p) [a, b] [] pos) (itZip fa fb) := by
  intro c sl st α σ H R' Rl h
  refine ⟨_, RZ.pi_zipA hg hm (pa_cons pe_wp (pa_cons pe_wp pa_nil hs2) hs) hs hpl, ?_⟩
  refine ha c sl st α σ H _ Rl ((Vx.R.sat_bind.mp h).imp (fun d s1 hd v α1 H1 R1 S1 r1 => ?_) fun _ _ z => z)
  refine hb c sl s1 α1 σ H1 _ R1 ((Vx.R.sat_bind.mp hd).imp (fun d2 s2 hd2 v2 α2 H2 R2 S2 r2 => ?_) fun _ _ z => z)
  cases d with
  | lst xs =>
    cases d2 with
    | lst ys =>
      have rb := RB.of (T := if bb then NB c α2 else NN c Γ σ α2) (r1.step S2.nn) nt_of
      have rb2 := RB.of (T := if bb then NB c α2 else NN c Γ σ α2) r2 nt_of
      obtain ⟨q, vs, rfl, hq, r⟩ := id rb
      obtain ⟨q2, vs2, rfl, hq2, rr⟩ := id rb2
      exact ⟨q, q2, vs, vs2, rfl, .inl ⟨by rcases hq with ⟨_, hq⟩ | hq; exact sqL_of hq; exact hq.sq, by rcases hq2 with ⟨_, hq⟩ | hq; exact sqL_of hq; exact hq.sq, hd2 _ α2 H2 R2 (S1.trans S2) (yields_zip hq r hq2 rr)⟩⟩
    | _ => exact False.elim hd2
  | _ => exact False.elim hd2
/-! ### reversed(range(n)) -/
theorem yields_revRg {n : Nat} : Yields K N T α H (Itc (0 + ((n : Nat) : Int) - 1) (-1) n) (rgD 0 n).reverse := by
  intro N' T' α' H' sT sN hN
  refine ⟨fun i d hd => ?_, fun i hi => by rw [List.length_reverse, rgD_length] at hi; exact hi⟩
  have hi : i < n := by
    have := (List.getElem?_eq_some_iff.mp hd).1
    rw [List.length_reverse, rgD_length] at this
    exact this
  rw [List.getElem?_reverse (by rw [rgD_length]; exact hi)] at hd
  obtain ⟨h1, rfl⟩ := rgD_get hd
  refine ⟨hi, fun x H'' y => ?_⟩
  obtain ⟨rfl, rfl⟩ := y
  refine ⟨Same.refl _, ?_⟩
  rw [rgD_length]
  have e : (0 : Int) + ((n - 1 - i : Nat) : Int) = 0 + ((n : Nat) : Int) - 1 + (i : Nat) * (-1) := by omega
  rw [e]
  exact .int _
theorem si_revRg {tg : Expr} {bb : Bool} {p2 pos2 : Pos} (hm : X.mg "reversed" = none) (hm2 : X.mg "range" = none) (ha : SE X W Γ a fa) (hg : Gl X "reversed" := by rfl) (hg2 : Gl X "range" := by rfl) (hs : starEach [a] X.env = (false, eval a X.env) :: starEach [] X.env := by rfl)
    (hs2 : starEach [.Call (.Name "range" p2) [a] [] pos2] X.env = (false, eval (.Call (.Name "range" p2) [a] [] pos2) X.env) :: starEach [] X.env := by rfl) : SI X W Γ bb tg (.Call (.Name "reversed" p) [.Call (.Name "range" p2) [a] [] pos2] [] pos) (itRevRg fa) := by
  intro c sl st α σ H R' Rl h
  refine ⟨_, pi_revR hg hm (prg_1 hg2 hm2 pe_wp hs) hs2, ?_⟩
  refine ha c sl st α σ H _ Rl ((Vx.R.sat_bind.mp h).imp (fun d s1 hd v α1 H1 R1 S1 r1 => ?_) fun _ _ z => z)
  cases d with
  | int n =>
    have hd : (if rgOk n = true then R.ok (rgD 0 n.toNat).reverse s1 else R.no : Vx.R _).Sat _ _ := hd
    by_cases hn : rgOk n = true
    · rw [if_pos hn] at hd
      obtain ⟨n1, n2⟩ := rgOk_iff hn
      have ev : v = .int n := by cases r1; rfl
      refine ⟨n, ev, by omega, by omega, n1, n2, ?_⟩
      have e : (n - 0).toNat = n.toNat := by rw [Int.sub_zero]
      rw [e]
      exact hd _ α1 H1 R1 S1 yields_revRg
    · rw [if_neg hn] at hd
      exact False.elim hd
  | _ => exact False.elim hd
end
end Vx

/-! VDic: dicts with keys that are ints or texts. -/
namespace Vx
open PySem PySem.Spec L2
variable [Wd]
section
variable {X : Cx} {W : WXc} {ρ : Bool} {Γ Γ' Γ'' ΓL : List Bool} {e a b : Expr} {es : List Expr} {s : Stmt} {ss : List Stmt} {f fa fb fc : FE} {x : Str} {pos p : Pos} {g1 g2 : FS}
variable {K : PySem.W.Frag} {N N' T : Addr → Prop} {α α' : List Addr} {H H' : Hp} {c c' : Cz} {sl : Sl} {st st' : Sto} {σ : St}
theorem lt65 {n : Nat} (h : n + 65 < cLine) : n + 1 < cLine := Nat.lt_of_le_of_lt (by omega) h
/-! ### keys -/
theorem key_of {d : D} {v : V} (h : isKey d = true) (r : RB K N T α H d v) : ∃ k, RKey d k ∧ v = kV k := by
  cases d with
  | int i => exact ⟨.inl i, .int i, by cases (show RD K N α H _ v from r); rfl⟩
  | str i => exact ⟨.inr i, .str i, by cases (show RD K N α H _ v from r); rfl⟩
  | _ => cases h
theorem keyE_iff {d e : D} {k l : Key} (h : RKey d k) (h' : RKey e l) : keyE d e = decide (k = l) := by
  cases h with
  | int i =>
    cases h' with
    | int j => show (i == j) = _; exact Bool.eq_iff_iff.mpr (by simp)
    | str y => rfl
  | str x =>
    cases h' with
    | int j => rfl
    | str y => show (x == y) = _; exact Bool.eq_iff_iff.mpr (by simp)
theorem key_rd {d : D} {k : Key} (h : RKey d k) : RD K N α H d (kV k) := by
  cases h with
  | int i => exact .int i
  | str i => exact .str i
theorem RKs.get {ds : List (D × D)} {vs : List (Key × V)} {d : D} {k : Key} (r : RKs K N α H ds vs) (hk : RKey d k) : (dgetL ds d = none ∧ valV vs k = none) ∨ ∃ e v, dgetL ds d = some e ∧ valV vs k = some v ∧ RD K N α H e v := by
  induction ds generalizing vs with
  | nil => cases r; exact .inl ⟨rfl, rfl⟩
  | cons p ds ih =>
    cases r with
    | cons hk' rd rest =>
      have he := keyE_iff hk' hk
      unfold dgetL valV
      rw [List.find?_cons, List.find?_cons]
      rename_i d' e' k' v' vs'
      by_cases e : k' = k
      · have : keyE d' d = true := by rw [he]; exact decide_eq_true e
        rw [this]
        have e2 : decide (k' = k) = true := decide_eq_true e
        rw [e2]
        exact .inr ⟨_, _, rfl, rfl, rd⟩
      · have : keyE d' d = false := by rw [he]; exact decide_eq_false e
        rw [this]
        have e2 : decide (k' = k) = false := decide_eq_false e
        rw [e2]
        exact ih rest
theorem RKs.any {ds : List (D × D)} {vs : List (Key × V)} {d : D} {k : Key} (r : RKs K N α H ds vs) (hk : RKey d k) : (ds.any fun p => keyE p.1 d) = vs.any fun kv => decide (kv.1 = k) := by
  induction ds generalizing vs with
  | nil => cases r; rfl
  | cons p ds ih =>
    cases r with
    | cons hk' rd rest =>
      rw [List.any_cons, List.any_cons, ih rest, keyE_iff hk' hk]
theorem RKs.put {ds : List (D × D)} {vs : List (Key × V)} {d e : D} {k : Key} {v : V} (r : RKs K N α H ds vs) (hk : RKey d k) (rv : RD K N α H e v) : RKs K N α H (dputL ds d e) (putK vs k v) := by
  have ha := r.any hk
  unfold dputL putK
  by_cases h : (ds.any fun p => keyE p.1 d) = true
  · rw [if_pos h, if_pos (by rw [← ha]; exact h)]
    clear ha h
    induction ds generalizing vs with
    | nil => cases r; exact .nil
    | cons p ds ih =>
      cases r with
      | cons hk' rd rest =>
        have he := keyE_iff hk' hk
        rename_i d' e' k' v' vs'
        rw [List.map_cons, List.map_cons]
        by_cases e2 : k' = k
        · have : keyE d' d = true := by rw [he]; exact decide_eq_true e2
          rw [if_pos this, if_pos e2]
          exact .cons hk' rv (ih rest)
        · have : ¬ keyE d' d = true := by rw [he]; exact fun z => e2 (of_decide_eq_true z)
          rw [if_neg this, if_neg e2]
          exact .cons hk' rd (ih rest)
  · rw [if_neg h, if_neg (by rw [← ha]; exact h)]
    clear ha h
    induction ds generalizing vs with
    | nil => cases r; exact .cons hk rv .nil
    | cons p ds ih =>
      cases r with
      | cons hk' rd rest => exact .cons hk' rd (ih rest)
theorem RKs.length : ∀ {ds : List (D × D)} {vs : List (Key × V)}, RKs K N α H ds vs → ds.length = vs.length
  | _, _, .nil => rfl
  | _, _, .cons _ _ t => by rw [List.length_cons, List.length_cons, RKs.length t]
theorem RKs.get' : ∀ {ds : List (D × D)} {vs : List (Key × V)} {i : Nat} {p : D × D}, RKs K N α H ds vs → ds[i]? = some p → ∃ k v, vs[i]? = some (k, v) ∧ RKey p.1 k ∧ RD K N α H p.2 v
  | _, _, _, _, .nil, e => by simp at e
  | _, _, 0, _, .cons hk r _, e => by simp at e; subst e; exact ⟨_, _, rfl, hk, r⟩
  | _, _, i + 1, _, .cons _ _ t, e => by
    obtain ⟨k, v, h1, h2⟩ := RKs.get' (i := i) t (by simpa using e)
    exact ⟨k, v, by simpa using h1, h2⟩
theorem RB.dic {ds : List (D × D)} {v : V} (h : RB K N T α H (.dic ds) v) : ∃ a vs, v = .ref a ∧ Rd H a (.dK vs) ∧ RKs K N α H ds vs := by
  obtain ⟨a, vs, e, n, h, r⟩ := h
  exact ⟨a, vs, e, h, r⟩

/-! ### in, [] -/
theorem RKs.isSome {ds : List (D × D)} {vs : List (Key × V)} {d : D} {k : Key} (r : RKs K N α H ds vs) (hk : RKey d k) : (dgetL ds d).isSome = (valV vs k).isSome := by
  rcases r.get hk with ⟨e1, e2⟩ | ⟨e, v, e1, e2, _⟩
  · rw [e1, e2]; rfl
  · rw [e1, e2]; rfl
theorem din_core {g : D → D → Option D} {φ : Bool → Bool} (hg : ∀ k kvs, g k (.dic kvs) = if isKey k = true then some (.bl (φ (dgetL kvs k).isSome)) else none) (hn : ∀ k d, (∀ kvs, d ≠ .dic kvs) → g k d = none)
    (ha : SB X W Γ a fa) (hb : SB X W Γ b fb) {c : Cz} {sl : Sl} {st : Sto} {α : List Addr} {σ : St} {H : Hp} {Q : VK} (R : Rel X.K c Γ sl st α σ H) (h : (mBin g fa fb sl st).Sat (PQ X.K c Γ sl α σ H Q) (PX X.K c Γ sl σ W)) :
    wpE X a σ H fun y H1 => wpE X b σ H1 fun x H2 => ∃ a o, x = .ref a ∧ DGet H2 a y o ∧ Q (.bl (φ o.isSome)) H2 := by
  refine ha c sl st α σ H _ R ((Vx.R.sat_bind.mp h).imp (fun x s1 hx vx α1 H1 R1 S1 d1 => ?_) fun _ _ z => z)
  refine hb c sl s1 α1 σ H1 _ R1 ((Vx.R.sat_bind.mp hx).imp (fun y s2 hy vy α2 H2 R2 S2 d2 => ?_) fun _ _ z => z)
  cases eg : g x y with
  | none => rw [eg] at hy; exact False.elim hy
  | some d =>
    have hd : ∃ kvs, y = .dic kvs := Classical.byContradiction fun z => by rw [hn x y fun kvs e => z ⟨kvs, e⟩] at eg; cases eg
    obtain ⟨kvs, rfl⟩ := hd
    rw [hg] at eg
    by_cases hk : isKey x = true
    · rw [if_pos hk] at eg
      cases eg
      rw [hg, if_pos hk] at hy
      obtain ⟨k, rk, rfl⟩ := key_of hk (d1.step S2.nb S2.nn)
      obtain ⟨q, vs, rfl, hq, r⟩ := d2.dic
      refine ⟨q, valV vs k, rfl, .inl ⟨vs, k, hq, rfl, rfl⟩, ?_⟩
      refine hy (.bl (φ (valV vs k).isSome)) α2 H2 R2 (S1.trans S2) ?_
      rw [r.isSome rk]
      exact .bl _
    · rw [if_neg hk] at eg
      cases eg
theorem gDIn_n : ∀ k d, (∀ kvs, d ≠ .dic kvs) → gDIn k d = none := fun k d h => by cases d <;> first | rfl | exact absurd rfl (h _)
theorem gDNotIn_n : ∀ k d, (∀ kvs, d ≠ .dic kvs) → gDNotIn k d = none := fun k d h => by cases d <;> first | rfl | exact absurd rfl (h _)
theorem se_din (hu : X.A.units + 1 < cLine) (ha : SB X W Γ a fa) (hb : SB X W Γ b fb) (hm : behindInMarks .In b = false := by first | exact nobehind _ (by decide) (by decide) | rfl) : SE X W Γ (.Compare a [.In] [b] pos) (mBin gDIn fa fb) :=
  fun c sl st α σ H Q R h => ⟨_, pe_cmp (pc_din hu pe_wp pe_wp) hm, din_core (φ := fun b => b) (fun _ _ => rfl) gDIn_n ha hb R h⟩
theorem se_dnotin (hu : X.A.units + 1 < cLine) (ha : SB X W Γ a fa) (hb : SB X W Γ b fb) (hm : behindInMarks .NotIn b = false := by first | exact nobehind _ (by decide) (by decide) | rfl) : SE X W Γ (.Compare a [.NotIn] [b] pos) (mBin gDNotIn fa fb) :=
  fun c sl st α σ H Q R h => ⟨_, pe_cmp (pc_dnotin hu pe_wp pe_wp) hm, din_core (φ := fun b => !b) (fun _ _ => rfl) gDNotIn_n ha hb R h⟩
theorem gDIn_bl {x y d : D} (h : gDIn x y = some d) : ∃ k, d = .bl k := by
  unfold gDIn at h; split at h
  · split at h <;> cases h; exact ⟨_, rfl⟩
  · cases h
theorem gDNotIn_bl {x y d : D} (h : gDNotIn x y = some d) : ∃ k, d = .bl k := by
  unfold gDNotIn at h; split at h
  · split at h <;> cases h; exact ⟨_, rfl⟩
  · cases h
theorem st_din (hu : X.A.units + 1 < cLine) (ha : SB X W Γ a fa) (hb : SB X W Γ b fb) (hm : behindInMarks .In b = false := by first | exact nobehind _ (by decide) (by decide) | rfl) : ST X W Γ (.Compare a [.In] [b] pos) (mT (mBin gDIn fa fb)) := by
  intro c sl st α σ H Q R h
  refine ⟨_, pt_cmp (pc_din hu pe_wp pe_wp) hm, ?_⟩
  refine din_core (φ := fun b => b) (Q := fun v H => ∃ b, v = V.bl b ∧ Q b H) (fun _ _ => rfl) gDIn_n ha hb R ((Vx.R.sat_bind.mp h).imp (fun d s1 hd v α1 H1 R1 S1 r1 => ?_) fun _ _ z => z)
  cases eg : gBl d with
  | none => rw [eg] at hd; exact False.elim hd
  | some k =>
    rw [eg] at hd
    have ed := gBl_some eg
    subst ed
    exact ⟨k, rd_bl r1, hd α1 H1 R1 S1⟩
theorem st_dnotin (hu : X.A.units + 1 < cLine) (ha : SB X W Γ a fa) (hb : SB X W Γ b fb) (hm : behindInMarks .NotIn b = false := by first | exact nobehind _ (by decide) (by decide) | rfl) : ST X W Γ (.Compare a [.NotIn] [b] pos) (mT (mBin gDNotIn fa fb)) := by
  intro c sl st α σ H Q R h
  refine ⟨_, pt_cmp (pc_dnotin hu pe_wp pe_wp) hm, ?_⟩
  refine din_core (φ := fun b => !b) (Q := fun v H => ∃ b, v = V.bl b ∧ Q b H) (fun _ _ => rfl) gDNotIn_n ha hb R ((Vx.R.sat_bind.mp h).imp (fun d s1 hd v α1 H1 R1 S1 r1 => ?_) fun _ _ z => z)
  cases eg : gBl d with
  | none => rw [eg] at hd; exact False.elim hd
  | some k =>
    rw [eg] at hd
    have ed := gBl_some eg
    subst ed
    exact ⟨k, rd_bl r1, hd α1 H1 R1 S1⟩
/-- d[k] -/
theorem se_dget (hu : X.A.units + 1 < cLine) (ha : SB X W Γ a fa) (hb : SB X W Γ b fb) (hs : NoSl b := by intro _ _; rfl) : SE X W Γ (.Subscript a b pos) (mBin gDGet fa fb) := by
  intro c sl st α σ H Q R h
  refine ⟨_, pe_dget hu pe_wp pe_wp hs, ?_⟩
  refine ha c sl st α σ H _ R ((Vx.R.sat_bind.mp h).imp (fun x s1 hx vx α1 H1 R1 S1 d1 => ?_) fun _ _ z => z)
  refine hb c sl s1 α1 σ H1 _ R1 ((Vx.R.sat_bind.mp hx).imp (fun y s2 hy vy α2 H2 R2 S2 d2 => ?_) fun _ _ z => z)
  cases x with
  | dic kvs =>
    by_cases hk : isKey y = true
    · have hy : (liftO (dgetL kvs y) s2).Sat (PQ X.K c Γ sl α σ H Q) (PX X.K c Γ sl σ W) := by
        have : gDGet (.dic kvs) y = dgetL kvs y := if_pos hk
        rw [← this]; exact hy
      obtain ⟨k, rk, rfl⟩ := key_of hk d2
      obtain ⟨q, vs, rfl, hq, r⟩ := (d1.step S2.nb S2.nn).dic
      rcases r.get rk with ⟨e1, e2⟩ | ⟨e, v, e1, e2, rv⟩
      · rw [e1] at hy; exact False.elim hy
      · rw [e1] at hy
        exact ⟨q, v, rfl, .inl ⟨vs, k, hq, rfl, e2.symm⟩, hy v α2 H2 R2 (S1.trans S2) rv⟩
    · have : gDGet (.dic kvs) y = none := if_neg hk
      rw [this] at hy; exact False.elim hy
  | _ => exact False.elim hy
/-- x[k] = e, x one of the frame's own dicts -/
theorem ss_putD (i : Nat) {p2 : Pos} (hu : X.A.units + 1 < cLine) (ha : SE X W Γ a fa) (hb : SE X W Γ b fb) (hΓ : Γ[i]? = some true := by decide) (hN : X.N[i]? = some x := by rfl) (hv : Vis X.env.scope x := by first | exact Or.inl rfl | exact Or.inr (Or.inl rfl) | exact Or.inr (Or.inr rfl))
    (hd : (x == ("__debug__" : Str)) = false := by decide) (hcd : (x == ("__classdict__" : Str)) = false := by decide) (hs : swapsWithSole [.Subscript (.Name x p2) b p] a pos.line X.env = pure false := by rfl) (hw : swappedStores [.Subscript (.Name x p2) b p] a X.env = pure none := by rfl)
    (h1 : (assignEach [.Subscript (.Name x p2) b p] X.env).map (·.2) = [assign (.Subscript (.Name x p2) b p) X.env] := by rfl)
    (pg : ∀ {t u : TE} {r : TSet}, PE X (.Name x p2) t → PE X b u → PSet X r → PG X (.Subscript (.Name x p2) b p) (L2.gSub t u r) := by intro t u r ht hx hr; exact pg_sub ht hx hr) :
    SS X W ρ ΓL Γ (.Assign [.Subscript (.Name x p2) b p] a pos) (sPutD i fa fb) Γ := by
  intro c sl st α σ H Dn R h
  refine ⟨_, ps_asg pe_wp (pg (pe_var hN hv hd hcd) pe_wp (set_dict hu)) hs hw h1, ?_⟩
  obtain ⟨d, q, o, e0, e1, ho, r, h0, n⟩ := R.own i hΓ
  unfold sPutD at h
  rw [e0] at h
  cases d with
  | dic kvs =>
    cases o with
    | dK vs =>
      refine ha c sl st α σ H _ R ((Vx.R.sat_fl.mp h).imp (fun y s1 hy v α1 H1 R1 S1 r1 => ?_) fun x s1 hx => hx Γ σ)
      refine ⟨.ref q, e1, ?_⟩
      refine hb c sl s1 α1 σ H1 _ R1 ((Vx.R.sat_fl.mp hy).imp (fun z s2 hz w α2 H2 R2 S2 r2 => ?_) fun x s1 hx => hx Γ σ)
      have S12 := S1.trans S2
      by_cases hk : (isKey z && decide (kvs.length < 16777216)) = true
      · rw [if_pos hk] at hz
        rw [Bool.and_eq_true] at hk
        obtain ⟨k, rk, rfl⟩ := key_of (T := fun _ => False) hk.1 (RB.of r2 fun _ z => z.elim)
        have r3 : RKs X.K (NN c Γ σ α) α H kvs vs := r
        have r4 := RKs.step S12.nn r3
        show ∃ a H', V.ref q = .ref a ∧ DPut H2 a (kV k) v H' ∧ Dn.nx σ H'
        refine ⟨q, _, rfl, .inl ⟨vs, k, S12.keep q _ ho fun m => n (.inr m), rfl, by rw [← r4.length, sizeLine_eq]; exact of_decide_eq_true hk.2, rfl⟩, ?_⟩
        obtain ⟨R3, S3⟩ := R2.change (d' := .dic (dputL kvs z y)) (o' := .dK (putK vs k v)) hΓ e1 (r4.put rk (r1.step S2.nn))
        exact hz α2 σ _ R3 (S12.nn.trans S3)
      · rw [if_neg hk] at hz
        exact False.elim hz
    | _ => exact False.elim r
  | _ => exact False.elim h
end
end Vx

/-! VLock: loops over a dict's keys and items, the dict locked the while. -/
namespace Vx
open PySem PySem.Spec L2
variable [Wd]
section
variable {X : Cx} {W : WXc} {ρ : Bool} {Γ Γ' Γ'' ΓL : List Bool} {e a b : Expr} {es : List Expr} {s : Stmt} {ss : List Stmt} {f fa fb fc : FE} {x : Str} {pos p : Pos} {g1 g2 : FS}
variable {K : PySem.W.Frag} {N N' T : Addr → Prop} {α α' : List Addr} {H H' : Hp} {c c' : Cz} {sl : Sl} {st st' : Sto} {σ : St}
/-! ### the same readings, the dict at a locked or not -/
/-- the dict at a stands as vs, locked or not -/
structure LkEq (a : Addr) (vs : List (Key × V)) (H H' : Hp) : Prop where
  old : Rd H a (.dK vs)
  new : Rd H' a (.dK vs)
  oth : ∀ b, b ≠ a → H' b = H b
theorem dK_inj {a : Addr} {vs ws : List (Key × V)} (h : Rd H a (.dK vs)) (h' : Rd H a (.dK ws)) : ws = vs := by
  rcases h with h | ⟨o, h⟩ <;> rcases h' with h' | ⟨o', h'⟩ <;> rw [h] at h' <;> cases h' <;> rfl
theorem LkEq.rd {a : Addr} {vs : List (Key × V)} (L : LkEq a vs H H') {b : Addr} {u : HO} (hu : ∀ ws o, u ≠ .dK ws ∧ u ≠ .frz o (.dK ws)) (h : Rd H b u) : Rd H' b u := by
  have ne : b ≠ a := fun z => by
    subst z
    rcases L.old with q | ⟨o, q⟩ <;> rcases h with h | ⟨o', h⟩ <;> rw [q] at h <;> cases h
    · exact (hu _ default).1 rfl
    · exact (hu _ _).2 rfl
    · exact (hu _ default).1 rfl
  rcases h with h | ⟨o, h⟩
  · exact .inl ((L.oth b ne).trans h)
  · exact .inr ⟨o, (L.oth b ne).trans h⟩
theorem LkEq.rdE {a : Addr} {vs : List (Key × V)} (L : LkEq a vs H H') {w : World} {b : Addr} {es : List NEnt} (h : H b = some (ditO w b es)) : H' b = some (ditO w b es) := by
  have ne : b ≠ a := fun z => by
    subst z
    rcases L.old with q | ⟨o, q⟩ <;> rw [q] at h <;> cases h
  rw [L.oth b ne]; exact h
theorem LkEq.rdK {a : Addr} {vs : List (Key × V)} (L : LkEq a vs H H') {b : Addr} {ws : List (Key × V)} (h : Rd H b (.dK ws)) : Rd H' b (.dK ws) := by
  by_cases e : b = a
  · subst e
    rw [dK_inj L.old h]
    exact L.new
  · rcases h with h | ⟨o, h⟩
    · exact .inl ((L.oth b e).trans h)
    · exact .inr ⟨o, (L.oth b e).trans h⟩
theorem LkEq.rdT {a : Addr} {vs : List (Key × V)} (L : LkEq a vs H H') {b : Addr} {ws : List V} (h : Rd H b (.tup ws)) : Rd H' b (.tup ws) := L.rd (fun _ _ => ⟨(fun z => nomatch z), (fun z => nomatch z)⟩) h
theorem LkEq.rdL {a : Addr} {vs : List (Key × V)} (L : LkEq a vs H H') {b : Addr} {ws : List V} (h : Rd H b (.lst ws)) : Rd H' b (.lst ws) := L.rd (fun _ _ => ⟨(fun z => nomatch z), (fun z => nomatch z)⟩) h
section
variable {aL : Addr} {vL : List (Key × V)}
mutual
theorem RD.lk (L : LkEq aL vL H H') : ∀ {d : D} {v : V}, RD K N α H d v → RD K N α H' d v
  | _, _, .non => .non
  | _, _, .bl b => .bl b
  | _, _, .int i => .int i
  | _, _, .str x => .str x
  | _, _, .tup n h r => .tup n (L.rdT h) (RDs.lk L r)
  | _, _, .lst n h r => .lst n (L.rdL h) (RDs.lk L r)
  | _, _, .lstK h r => .lstK h (RDs.lk L r)
  | _, _, .dic n h r => .dic n (L.rdK h) (RKs.lk L r)
  | _, _, .dit n h r => .dit n (L.rdE h) (RNs.lk L r)
  | _, _, .obj h => .obj h
theorem RDs.lk (L : LkEq aL vL H H') : ∀ {d : List D} {v : List V}, RDs K N α H d v → RDs K N α H' d v
  | _, _, .nil => .nil
  | _, _, .cons r t => .cons (RD.lk L r) (RDs.lk L t)
theorem RKs.lk (L : LkEq aL vL H H') : ∀ {d : List (D × D)} {v : List (Key × V)}, RKs K N α H d v → RKs K N α H' d v
  | _, _, .nil => .nil
  | _, _, .cons k r t => .cons k (RD.lk L r) (RKs.lk L t)
theorem RNs.lk (L : LkEq aL vL H H') : ∀ {d : List (D × D)} {v : List NEnt}, RNs K N α H d v → RNs K N α H' d v
  | _, _, .nil => .nil
  | _, _, .cons k z r e t => .cons k z (RD.lk L r) (RD.lk L e) (RNs.lk L t)
end
end
theorem ROb.lk {a : Addr} {vs : List (Key × V)} {p : Addr} (L : LkEq a vs H H') {d : D} {o : HO} (h : ROb K N α H p d o) : ROb K N α H' p d o := by
  cases d <;> cases o <;> first | exact RDs.lk L h | exact RKs.lk L h | exact ⟨h.choose, h.choose_spec.1, RNs.lk L h.choose_spec.2⟩ | exact False.elim h
/-- the call's constants, with another thing at a -/
def Cz.lk (c : Cz) (a : Addr) (o : HO) : Cz := { c with H0 := upd c.H0 a o }
theorem nn_lk {a : Addr} {o : HO} {b : Addr} : NN (c.lk a o) Γ σ α b ↔ NN c Γ σ α b := Iff.rfl
theorem Rel.lock {a : Addr} {vs : List (Key × V)} {od : Obj} (R : Rel K c Γ sl st α σ H) (n : ¬ NN c Γ σ α a) (h : H a = some (.dK vs)) : Rel K (c.lk a (.frz od (.dK vs))) Γ sl st α σ (upd H a (.frz od (.dK vs))) := by
  have L : LkEq a vs H (upd H a (.frz od (.dK vs))) := ⟨.inl h, .inr ⟨od, upd_same⟩, fun b e => upd_ne e⟩
  have na : a ∉ α := fun m => n (.inl (.inr m))
  have nz : ∀ b, H b ≠ none → (upd H a (.frz od (.dK vs))) b ≠ none := fun b hb => by
    by_cases e : b = a
    · rw [e, upd_same]; exact fun z => nomatch z
    · rw [upd_ne e]; exact hb
  refine ⟨R.len, fun i d h1 h2 => ?_, fun i h1 => ?_, R.dist, ⟨R.sto.len, R.sto.nd, fun m ob b e1 e2 => ?_⟩, fun b hb => nz b (R.bt b hb), R.αB, R.αn, fun b m => ?_, fun b o e m => ?_⟩
  · obtain ⟨v, q1, q2⟩ := R.val i d h1 h2
    exact ⟨v, q1, q2.lk L⟩
  · obtain ⟨d, b, o, q1, q2, q3, q4, q5, q6⟩ := R.own i h1
    have ne : b ≠ a := fun z => n (.inr ⟨i, h1, by rw [← z]; exact q2⟩)
    refine ⟨d, b, o, q1, q2, by rw [upd_ne ne]; exact q3, q4.lk L, ?_, q6⟩
    show upd c.H0 a _ b = none
    rw [upd_ne ne]; exact q5
  · have hb : b ≠ a := fun z => na (z ▸ List.mem_of_getElem? e2)
    have q := R.sto.ob m ob b e1 e2
    cases ob with
    | ins C fs => obtain ⟨dx, fs', h1, h2, h3⟩ := q; exact ⟨dx, fs', by rw [upd_ne hb]; exact h1, h2, h3.lk L⟩
    | lst ds => obtain ⟨vs', h1, h2⟩ := q; exact ⟨vs', by rw [upd_ne hb]; exact h1, h2.lk L⟩
    | dic ds => obtain ⟨vs', h1, h2⟩ := q; exact ⟨vs', by rw [upd_ne hb]; exact h1, h2.lk L⟩
  · rcases R.αf b m with z | z
    · exact .inl z
    · right
      show upd c.H0 a _ b = none
      rw [upd_ne (fun e => na (by rw [← e]; exact m))]; exact z
  · have e : upd c.H0 a (.frz od (.dK vs)) b = some o := e
    by_cases eb : b = a
    · rw [eb, upd_same] at e ⊢; exact e
    · rw [upd_ne eb] at e ⊢
      exact R.fr b o e m
theorem Rel.locked {a : Addr} {vs : List (Key × V)} {od : Obj} (R : Rel K (c.lk a (.frz od (.dK vs))) Γ sl st α σ H) (na : a ∉ c.α0) : H a = some (.frz od (.dK vs)) :=
  R.fr a _ (show upd c.H0 a _ a = some _ from upd_same) na
theorem Rel.unlock {a : Addr} {vs : List (Key × V)} {od : Obj} (R : Rel K (c.lk a (.frz od (.dK vs))) Γ sl st α σ H) (na : a ∉ c.α0) (hc : ∀ o, c.H0 a = some o → o = .dK vs) : Rel K c Γ sl st α σ (upd H a (.dK vs)) := by
  have h := R.locked na
  have L : LkEq a vs H (upd H a (.dK vs)) := ⟨.inr ⟨od, h⟩, .inl upd_same, fun b e => upd_ne e⟩
  have naα : a ∉ α := fun m => by
    rcases R.αf a m with z | z
    · exact na z
    · rw [show (c.lk a (.frz od (.dK vs))).H0 a = some (.frz od (.dK vs)) from upd_same] at z
      cases z
  have nz : ∀ b, H b ≠ none → (upd H a (.dK vs)) b ≠ none := fun b hb => by
    by_cases e : b = a
    · rw [e, upd_same]; exact fun z => nomatch z
    · rw [upd_ne e]; exact hb
  refine ⟨R.len, fun i d h1 h2 => ?_, fun i h1 => ?_, R.dist, ⟨R.sto.len, R.sto.nd, fun m ob b e1 e2 => ?_⟩, fun b hb => nz b (R.bt b hb), R.αB, R.αn, fun b m => ?_, fun b o e m => ?_⟩
  · obtain ⟨v, q1, q2⟩ := R.val i d h1 h2
    exact ⟨v, q1, q2.lk L⟩
  · obtain ⟨d, b, o, q1, q2, q3, q4, q5, q6⟩ := R.own i h1
    have ne : b ≠ a := fun z => by
      rw [z, show (c.lk a (.frz od (.dK vs))).H0 a = some (.frz od (.dK vs)) from upd_same] at q5
      cases q5
    refine ⟨d, b, o, q1, q2, by rw [upd_ne ne]; exact q3, q4.lk L, ?_, q6⟩
    have q5 : upd c.H0 a (.frz od (.dK vs)) b = none := q5
    rw [upd_ne ne] at q5; exact q5
  · have hb : b ≠ a := fun z => naα (z ▸ List.mem_of_getElem? e2)
    have q := R.sto.ob m ob b e1 e2
    cases ob with
    | ins C fs => obtain ⟨dx, fs', h1, h2, h3⟩ := q; exact ⟨dx, fs', by rw [upd_ne hb]; exact h1, h2, h3.lk L⟩
    | lst ds => obtain ⟨vs', h1, h2⟩ := q; exact ⟨vs', by rw [upd_ne hb]; exact h1, h2.lk L⟩
    | dic ds => obtain ⟨vs', h1, h2⟩ := q; exact ⟨vs', by rw [upd_ne hb]; exact h1, h2.lk L⟩
  · rcases R.αf b m with z | z
    · exact .inl z
    · right
      have z : upd c.H0 a (.frz od (.dK vs)) b = none := z
      rw [upd_ne (fun e => naα (by rw [← e]; exact m))] at z; exact z
  · by_cases eb : b = a
    · rw [eb] at e ⊢
      rw [upd_same, hc o e]
    · rw [upd_ne eb]
      refine R.fr b o ?_ m
      show upd c.H0 a _ b = some o
      rw [upd_ne eb]; exact e
/-! ### a loop, from its iterator on -/
theorem for_core {tg : Expr} {body : List Stmt} {is : List Nat} {g : D → Sl → Option Sl} {fb : FS} {J : It} {ds : List D} {Dn : Ends} (hg : SG X tg is g) (hb : SSs X W ρ Γ Γ body fb Γ) (hΓ : ∀ i ∈ is, Γ[i]? ≠ some true)
    (R : Rel X.K c Γ sl st α σ H) (hJ : Yields X.K (NN c Γ σ α) (NN c Γ σ α) α H J ds) (h : FQ X.K W ρ ΓL c Γ α σ H Dn Γ (forD g fb ds sl st)) :
    ∃ W' : Nat → Nat → St → Hp → Prop, (∃ m, W' 0 m σ H) ∧ ∀ i m σ H, W' i m σ H →
      (J.stop i H ∧ Dn.nx σ H) ∨ (J.go i H ∧ ∃ N : St → Hp → Prop, (∀ σ' H', N σ' H' → ∃ m', m' < m ∧ W' (i + 1) m' σ' H') ∧ ∀ x H', J.yld i H x H' → wpG X tg x σ H' fun σ2 H2 => wpB X body { Dn with nx := N, ct := N, bk := Dn.nx } σ2 H2) := by
  refine ⟨fun i m σ' H' => m = ds.length - i ∧ ∃ sl' st' α', Rel X.K c Γ sl' st' α' σ' H' ∧ Stp (NN c Γ σ α) α H (NN c Γ σ' α') α' H' ∧ FQ X.K W ρ ΓL c Γ α' σ' H' Dn Γ (forD g fb (ds.drop i) sl' st'), ⟨ds.length, by simp, sl, st, α, R, .refl, h⟩, ?_⟩
  rintro i m σ2 H2 ⟨rfl, sl2, st2, α2, R2, S2, q2⟩
  obtain ⟨y1, y2⟩ := hJ _ _ α2 H2 S2 S2 R2.nn
  by_cases hlt : i < ds.length
  · have hd' : ds[i]? = some ds[i] := List.getElem?_eq_getElem hlt
    obtain ⟨go, yl⟩ := y1 i _ hd'
    rw [List.drop_eq_getElem_cons hlt] at q2
    refine .inr ⟨go, fun σ' H' => ∃ sl' st' α', Rel X.K c Γ sl' st' α' σ' H' ∧ Stp (NN c Γ σ α) α H (NN c Γ σ' α') α' H' ∧ FQ X.K W ρ ΓL c Γ α' σ' H' Dn Γ (forD g fb (ds.drop (i + 1)) sl' st'), ?_, ?_⟩
    · rintro σ' H' ⟨sl', st', α', h1, h2, h3⟩
      exact ⟨_, by omega, rfl, sl', st', α', h1, h2, h3⟩
    · intro x H3 hy
      obtain ⟨G, rx⟩ := yl x H3 hy
      have R3 := R2.grow G
      unfold forD at q2
      cases eg : g ds[i] sl2 with
      | none => rw [eg] at q2; exact False.elim q2
      | some l1 =>
        rw [eg] at q2
        refine hg c Γ sl2 st2 α2 σ2 H3 _ x l1 _ hΓ R3 rx eg fun σ4 R4 hl _ _ => ?_
        have S4 : Stp (NN c Γ σ2 α2) α2 H2 (NN c Γ σ4 α2) α2 H3 := (Stp.grow G).trans (stp_loc hl)
        refine hb c l1 st2 α2 σ4 H3 _ R4 (loop_body (c0 := c) (FQ.from S4 q2).sat fun l s hq α' σ' H' R' S' => ?_)
        exact ⟨l, s, α', R', S2.trans (S4.trans S'), FQ.from S' hq⟩
  · have hge : ds.length ≤ i := Nat.le_of_not_lt hlt
    rw [List.drop_eq_nil_iff.mpr hge] at q2
    exact .inl ⟨y2 i hge, q2 α2 σ2 H2 R2 .refl⟩
/-! ### what a locked dict yields -/
theorem yields_keys {a : Addr} {o : Obj} {ds : List (D × D)} {vs : List (Key × V)} (n : ¬ N a) (h : H a = some (.frz o (.dK vs))) (r : RKs K N α H ds vs) : Yields K N N α H (Itk a o vs) (ds.map (·.1)) := by
  intro N' T' α' H' sT sN hN
  have hq := (sN.keep a _ h n).1
  have r' := RKs.step sN r
  refine ⟨fun i d hd => ?_, fun i hi => ⟨hq, by rw [← r.length]; simpa using hi⟩⟩
  rw [List.getElem?_map] at hd
  cases q : ds[i]? with
  | none => rw [q] at hd; cases hd
  | some p =>
    rw [q] at hd
    cases hd
    obtain ⟨k, v, h1, h2, h3⟩ := r'.get' q
    refine ⟨⟨hq, (List.getElem?_eq_some_iff.mp h1).1⟩, fun y H'' hy => ?_⟩
    obtain ⟨rfl, k', v', e1, rfl⟩ := hy
    rw [h1] at e1
    cases e1
    exact ⟨Same.refl _, key_rd h2⟩
theorem yields_items {a : Addr} {o : Obj} {ds : List (D × D)} {vs : List (Key × V)} (n : ¬ N a) (h : H a = some (.frz o (.dK vs))) (r : RKs K N α H ds vs) : Yields K N N α H (Iti a o vs) (ds.map fun p => .tup [p.1, p.2]) := by
  intro N' T' α' H' sT sN hN
  have hq := (sN.keep a _ h n).1
  have r' := RKs.step sN r
  refine ⟨fun i d hd => ?_, fun i hi => ⟨hq, by rw [← r.length]; simpa using hi⟩⟩
  rw [List.getElem?_map] at hd
  cases q : ds[i]? with
  | none => rw [q] at hd; cases hd
  | some p =>
    rw [q] at hd
    cases hd
    obtain ⟨k, v, h1, h2, h3⟩ := r'.get' q
    refine ⟨⟨hq, (List.getElem?_eq_some_iff.mp h1).1⟩, fun y H'' hy => ?_⟩
    obtain ⟨t, k', v', e1, rfl, ht, rfl⟩ := hy
    rw [h1] at e1
    cases e1
    have G : Same H' (upd H' t (.tup [kV k, v])) := same_upd ht
    exact ⟨G, .tup (fun z => hN t z ht) (.of upd_same) (.cons (key_rd h2) (.cons (h3.step (.grow G)) .nil))⟩
/-- the loop's ends, under the lock -/
theorem FQ.lock {a : Addr} {vs : List (Key × V)} {od : Obj} {Dn : Ends} {r : Fl} (R : Rel K c Γ sl st α σ H) (n : ¬ NN c Γ σ α a) (h : H a = some (.dK vs)) (q : FQ K W ρ ΓL c Γ α σ H Dn Γ r.nox) :
    FQ K W ρ ΓL (c.lk a (.frz od (.dK vs))) Γ α σ (upd H a (.frz od (.dK vs))) ⟨fun σ' H' => H' a = some (.frz od (.dK vs)) ∧ Dn.nx σ' (upd H' a (.dK vs)), fun v H' => H' a = some (.frz od (.dK vs)) ∧ Dn.rt v (upd H' a (.dK vs)), fun σ' H' => H' a = some (.frz od (.dK vs)) ∧ Dn.bk σ' (upd H' a (.dK vs)), fun σ' H' => H' a = some (.frz od (.dK vs)) ∧ Dn.ct σ' (upd H' a (.dK vs))⟩ Γ r := by
  have na : a ∉ c.α0 := fun m => by
    obtain ⟨t, e⟩ := R.αn
    exact n (.inl (.inr (by rw [e]; exact List.mem_append_left _ m)))
  have hc : ∀ o, c.H0 a = some o → o = .dK vs := fun o e => by
    have := R.fr a o e na
    rw [h] at this
    cases this
    rfl
  have pf : ∀ {k : St → Hp → Prop} {Γ' : List Bool} {l : Sl} {s : Sto}, PF K c Γ α σ H k Γ' l s → PF K (c.lk a (.frz od (.dK vs))) Γ α σ (upd H a (.frz od (.dK vs))) (fun σ' H' => H' a = some (.frz od (.dK vs)) ∧ k σ' (upd H' a (.dK vs))) Γ' l s := by
    intro k Γ' l s hk α' σ' H' R' S'
    have hl := R'.locked na
    refine ⟨hl, hk α' σ' _ (R'.unlock na hc) ⟨S'.pre, fun b o e nb => ?_⟩⟩
    by_cases eb : b = a
    · rw [eb] at e ⊢
      rw [h] at e
      cases e
      rw [upd_same]
      exact ⟨rfl, (S'.keep a _ upd_same n).2⟩
    · obtain ⟨z1, z2⟩ := S'.keep b o (by rw [upd_ne eb]; exact e) nb
      exact ⟨by rw [upd_ne eb]; exact z1, z2⟩
  cases r with
  | nx l s => exact pf q
  | bk l s => exact pf q
  | ct l s => exact pf q
  | rt d s =>
    have q : PR K c ρ Dn.rt d s := q
    refine ⟨fun Γ'' sl'' σ'' v α' H' R' r' hn => ⟨R'.locked na, ?_⟩, fun hρ Γ'' sl'' σ'' p o α' H' h0 hp R' r' => ?_⟩
    · have hl := R'.locked na
      have L : LkEq a vs H' (upd H' a (.dK vs)) := ⟨.inr ⟨od, hl⟩, .inl upd_same, fun b e => upd_ne e⟩
      exact q.1 Γ'' sl'' σ'' v α' _ (R'.unlock na hc) (r'.lk L) hn
    · have hpa : p ≠ a := fun z => by
        rw [z, show (c.lk a (.frz od (.dK vs))).H0 a = some (.frz od (.dK vs)) from upd_same] at h0
        cases h0
      have R'2 : Rel K ((c.add p).lk a (.frz od (.dK vs))) Γ'' sl'' s α' σ'' H' := R'
      have hl := R'2.locked na
      have L : LkEq a vs H' (upd H' a (.dK vs)) := ⟨.inr ⟨od, hl⟩, .inl upd_same, fun b e => upd_ne e⟩
      refine ⟨hl, q.2 hρ Γ'' sl'' σ'' p o α' _ ?_ (by rw [upd_ne hpa]; exact hp) (R'2.unlock na hc) (r'.lk L)⟩
      have h0 : upd c.H0 a (.frz od (.dK vs)) p = none := h0
      rw [upd_ne hpa] at h0; exact h0
  | ex x l s => exact False.elim q
  | no => exact False.elim q
theorem Fl.nox_sat {r : Fl} {n : Sl → Sto → Prop} {t : D → Sto → Prop} {b c : Sl → Sto → Prop} {E : Ex → Sl → Sto → Prop} (h : r.nox.Sat n t b c E) : r.Sat n t b c E := by
  cases r <;> first | exact h | exact False.elim h
/-- for .. in d.keys(), d at slot i -/
theorem ss_forK (i : Nat) {tg : Expr} {body : List Stmt} {is : List Nat} {g : D → Sl → Option Sl} {fb : FS} {p2 apos cpos : Pos} (hp : PassesOwn (model X.prog X.w) X.A X.env X.xe) (hc : X.calm = true) (hg : SG X tg is g) (hb : SSs X W ρ Γ Γ body fb Γ) (hΓi : Γ[i]? ≠ some true := by decide) (hΓ : ∀ i ∈ is, Γ[i]? ≠ some true := by decide)
    (hN : X.N[i]? = some x := by rfl) (hv : Vis X.env.scope x := by first | exact Or.inl rfl | exact Or.inr (Or.inl rfl) | exact Or.inr (Or.inr rfl))
    (hd : (x == ("__debug__" : Str)) = false := by decide) (hcd : (x == ("__classdict__" : Str)) = false := by decide) (hbase : attributeBase (.Name x p2) "keys" X.env (eval (.Name x p2) X.env) = eval (.Name x p2) X.env := by rfl) (hline : (apos.endLine == cpos.line) = true := by rfl)
    (hs : ∀ y, foldedSetIterable (.Call (.Attribute (.Name x p2) "keys" apos) [] [] cpos) X.env y = pure y := by intro _; rfl) : SS X W ρ ΓL Γ (.For tg (.Call (.Attribute (.Name x p2) "keys" apos) [] [] cpos) body [] pos) (sForN (itKeys i) g fb) Γ := by
  intro c sl st α σ H Dn R h
  have pf := ps_for (body := body) hp hc (pi_keysM (tg := tg) (pe_var hN hv hd hcd) hbase hline) pg_wp pss_wp (pos := pos) hs
  unfold sForN sFor itKeys at h
  cases e0 : sl[i]? with
  | none => rw [e0] at h; exact False.elim h
  | some y =>
    cases y with
    | none => rw [e0] at h; exact False.elim h
    | some d =>
      rw [e0] at h
      cases d with
      | dic ds =>
        have h : FQ X.K W ρ ΓL c Γ α σ H Dn Γ (forD g fb (ds.map (·.1)) sl st).nox := h
        obtain ⟨v, e1, r⟩ := R.val i _ e0 hΓi
        cases r with
        | dic n hrd rk =>
          rename_i a vs
          rcases hrd with hrd | ⟨o, hrd⟩
          · refine ⟨_, ps_lock pf, a, .dK vs, hrd, trivial, fun od => ?_⟩
            have hl : (upd H a (.frz od (.dK vs))) a = some (.frz od (.dK vs)) := upd_same
            have L : LkEq a vs H (upd H a (.frz od (.dK vs))) := ⟨.inl hrd, .inr ⟨od, upd_same⟩, fun b e => upd_ne e⟩
            exact ⟨.ref a, e1, a, od, vs, rfl, hl, for_core hg hb hΓ (R.lock n hrd) (yields_keys n hl (RKs.lk L rk)) (FQ.lock R n hrd h)⟩
          · exact ⟨_, pf, .ref a, e1, a, o, vs, rfl, hrd, for_core hg hb hΓ R (yields_keys n hrd rk) (Fl.nox_sat h)⟩
      | _ => exact False.elim h
/-- for a, b in d.items(), d at slot i -/
theorem ss_forI (i : Nat) {elts : List Expr} {kk : Nat} {tpos : Pos} {body : List Stmt} {is : List Nat} {g : D → Sl → Option Sl} {fb : FS} {p2 apos cpos : Pos} (hp : PassesOwn (model X.prog X.w) X.A X.env X.xe) (hc : X.calm = true) (hg : SG X (.Tuple elts kk tpos) is g) (hb : SSs X W ρ Γ Γ body fb Γ) (hΓi : Γ[i]? ≠ some true := by decide) (hΓ : ∀ i ∈ is, Γ[i]? ≠ some true := by decide)
    (hN : X.N[i]? = some x := by rfl) (hv : Vis X.env.scope x := by first | exact Or.inl rfl | exact Or.inr (Or.inl rfl) | exact Or.inr (Or.inr rfl))
    (hd : (x == ("__debug__" : Str)) = false := by decide) (hcd : (x == ("__classdict__" : Str)) = false := by decide) (hbase : attributeBase (.Name x p2) "items" X.env (eval (.Name x p2) X.env) = eval (.Name x p2) X.env := by rfl) (hline : (apos.endLine == cpos.line) = true := by rfl)
    (hs : ∀ y, foldedSetIterable (.Call (.Attribute (.Name x p2) "items" apos) [] [] cpos) X.env y = pure y := by intro _; rfl) : SS X W ρ ΓL Γ (.For (.Tuple elts kk tpos) (.Call (.Attribute (.Name x p2) "items" apos) [] [] cpos) body [] pos) (sForN (itItems i) g fb) Γ := by
  intro c sl st α σ H Dn R h
  have pf := ps_for (body := body) hp hc (pi_items (elts := elts) (kk := kk) (tpos := tpos) (pe_var hN hv hd hcd) hbase hline) pg_wp pss_wp (pos := pos) hs
  unfold sForN sFor itItems at h
  cases e0 : sl[i]? with
  | none => rw [e0] at h; exact False.elim h
  | some y =>
    cases y with
    | none => rw [e0] at h; exact False.elim h
    | some d =>
      rw [e0] at h
      cases d with
      | dic ds =>
        have h : FQ X.K W ρ ΓL c Γ α σ H Dn Γ (forD g fb (ds.map fun p => .tup [p.1, p.2]) sl st).nox := h
        obtain ⟨v, e1, r⟩ := R.val i _ e0 hΓi
        cases r with
        | dic n hrd rk =>
          rename_i a vs
          rcases hrd with hrd | ⟨o, hrd⟩
          · refine ⟨_, ps_lock pf, a, .dK vs, hrd, trivial, fun od => ?_⟩
            have hl : (upd H a (.frz od (.dK vs))) a = some (.frz od (.dK vs)) := upd_same
            have L : LkEq a vs H (upd H a (.frz od (.dK vs))) := ⟨.inl hrd, .inr ⟨od, upd_same⟩, fun b e => upd_ne e⟩
            exact ⟨.ref a, e1, a, od, vs, rfl, hl, for_core hg hb hΓ (R.lock n hrd) (yields_items n hl (RKs.lk L rk)) (FQ.lock R n hrd h)⟩
          · exact ⟨_, pf, .ref a, e1, a, o, vs, rfl, hrd, for_core hg hb hΓ R (yields_items n hrd rk) (Fl.nox_sat h)⟩
      | _ => exact False.elim h
end
end Vx

/-! VBox: lists, dicts, instances that stand in the store. -/
namespace Vx
open PySem PySem.Spec L2
variable [Wd]

/-! ### on values -/
/-- a list, a dict of the store, as it is now -/
def drf (s : Sto) (d : D) : D := match d with
  | .obj n => match s[n]? with
    | some (.lst xs) => .lst xs
    | some (.dic k) => .dic k
    | _ => .obj n
  | d => d
def obOf : D → Option Ob
  | .lst xs => some (.lst xs)
  | .dic k => some (.dic k)
  | _ => none
/-- a new list or dict, into the store -/
def mBox (f : FE) : FE := fun l s => (f l s).bind fun d s => match obOf d with
  | some ob => .ok (.obj s.length) (s ++ [ob])
  | none => .no
def mBinO (g : D → D → Option D) (a b : FE) : FE := fun l s => (a l s).bind fun x s => (b l s).bind fun y s => liftO (g (drf s x) (drf s y)) s
def mUnO (g : D → Option D) (a : FE) : FE := fun l s => (a l s).bind fun x s => liftO (g (drf s x)) s
def mArgsO (g : List D → Option D) (a : FA) : FE := fun l s => (a l s).bind fun xs s => liftO (g (xs.map (drf s))) s
def mCutO (a : FE) (lo hi : FO) : FE := fun l s => (a l s).bind fun x s => (lo l s).bind fun i s => (hi l s).bind fun j s => liftO (gCut (drf s x) i j) s
def mCutLO (a : FE) (lo hi : FO) : FE := fun l s => (a l s).bind fun x s => (lo l s).bind fun i s => (hi l s).bind fun j s => liftO (gCutL (drf s x) i j) s
/-- the list at a place of the store -/
def lstAt (s : Sto) (d : D) : Option (Nat × List D) := match d with
  | .obj n => match s[n]? with
    | some (.lst xs) => some (n, xs)
    | _ => none
  | _ => none
/-- o.m(..), o a list of the store -/
def mMethO (g : List D → List D → Option (D × List D)) (o : FE) (a : FA) : FE := fun l s => (o l s).bind fun x s => match lstAt s x with
  | none => .no
  | some _ => (a l s).bind fun ys s => match lstAt s x with
    | none => .no
    | some (n, xs) => match g xs ys with
      | some (y, zs) => .ok y (s.set n (.lst zs))
      | none => .no
/-- o[k] = e -/
def sPutO (o a k : FE) : FS := fun l s => (a l s).fl l fun y s => (o l s).fl l fun x s => (k l s).fl l fun z s => match lstAt s x with
  | none => .no
  | some (n, xs) => match z with
    | .int i => match ixI xs.length i with
      | some j => .nx l (s.set n (.lst (xs.set j y)))
      | none => .no
    | _ => .no
/-- the instance at a place of the store -/
def insAt (C : Nat) (s : Sto) (d : D) : Option (Nat × List (Str × D)) := match d with
  | .obj n => match s[n]? with
    | some (.ins C' fs) => if C' = C then some (n, fs) else none
    | _ => none
  | _ => none
def putFD (f : Str) (v : D) : List (Str × D) → List (Str × D)
  | [] => [(f, v)]
  | (g, w) :: r => if g = f then (g, v) :: r else (g, w) :: putFD f v r
def mFld (C : Nat) (f : Str) (o : FE) : FE := fun l s => (o l s).bind fun x s => match insAt C s x with
  | some (_, fs) => liftO (fs.lookup f) s
  | none => .no
def sFldD (C : Nat) (f : Str) (o a : FE) : FS := fun l s => (a l s).fl l fun y s => (o l s).fl l fun x s => match insAt C s x with
  | some (n, fs) => if fs.length < 1000 then .nx l (s.set n (.ins C (putFD f y fs))) else .no
  | none => .no
/-- C(..) -/
def mMake (C : Nat) (m : List D → Sto → R D) (a : FA) : FE := fun l s => (a l s).bind fun xs s => (m (.obj s.length :: xs) (s ++ [.ins C []])).nox.bind fun d s' => match d with
  | .non => .ok (.obj s.length) s'
  | _ => .no
/-- o.m(..), o an instance -/
def mMeth (C : Nat) (nm : Str) (m : List D → Sto → R D) (o : FE) (a : FA) : FE := fun l s => (o l s).bind fun x s => match insAt C s x with
  | none => .no
  | some (_, fs) => if (fs.lookup nm).isNone = true then (a l s).bind fun xs s => (m (x :: xs) s).nox else .no

section
variable {X : Cx} {W : WXc} {ρ : Bool} {Γ Γ' ΓL : List Bool} {e a b : Expr} {es : List Expr} {f fa fb fc : FE} {x : Str} {pos p : Pos}
variable {K : PySem.W.Frag} {N N' T : Addr → Prop} {α α' : List Addr} {H H' : Hp} {c c' : Cz} {sl : Sl} {st st' : Sto} {σ : St} {q : Addr}

/-! ### the store in the heap -/
theorem ObRel.step {ob : Ob} (h : ObRel K N α H ob q) (t : Stp N α H N' α' H') (e : H' q = H q) : ObRel K N' α' H' ob q := by
  cases ob with
  | ins C fs => obtain ⟨dx, fs', h1, h2, h3⟩ := h; exact ⟨dx, fs', e.trans h1, h2, h3.step t⟩
  | lst ds => obtain ⟨vs, h1, h2⟩ := h; exact ⟨vs, e.trans h1, h2.step t⟩
  | dic ds => obtain ⟨vs, h1, h2⟩ := h; exact ⟨vs, e.trans h1, h2.step t⟩
theorem nn_push {a : Addr} : NN c Γ σ (α ++ [q]) a ↔ NN (c.add q) Γ σ α a := by
  unfold NN NB
  rw [List.mem_append, List.mem_singleton]
  constructor
  · rintro ((h | h | h) | h)
    · exact .inl (.inl (.inl h))
    · exact .inl (.inr h)
    · exact .inl (.inl (.inr h))
    · exact .inr h
  · rintro (((h | h) | h) | h)
    · exact .inl (.inl h)
    · exact .inl (.inr (.inr h))
    · exact .inl (.inr (.inl h))
    · exact .inr h
theorem stp_push : Stp (NN (c.add q) Γ σ α) α H (NN c Γ σ (α ++ [q])) (α ++ [q]) H := ⟨⟨[q], rfl⟩, fun a o h n => ⟨h, fun z => n (nn_push.mp z)⟩⟩
/-- one object more in the store -/
theorem Rel.push {ob : Ob} (R : Rel K (c.add q) Γ sl st α σ H) (hB : ¬ c.B q) (h0 : c.H0 q = none) (ho : ObRel K (NN (c.add q) Γ σ α) α H ob q) : Rel K c Γ sl (st ++ [ob]) (α ++ [q]) σ H := by
  have S : Stp (NN (c.add q) Γ σ α) α H (NN c Γ σ (α ++ [q])) (α ++ [q]) H := stp_push
  have nq : q ∉ α := fun m => R.αB q m (.inr rfl)
  refine ⟨R.len, fun i d e n => ?_, fun i n => ?_, R.dist, ⟨?_, ?_, fun n ob' a e1 e2 => ?_⟩, fun a b => R.bt a (.inl b), fun a m z => ?_, ?_, fun a m => ?_, R.fr⟩
  · obtain ⟨v, h1, h2⟩ := R.val i d e n
    exact ⟨v, h1, h2.step S⟩
  · obtain ⟨d, a, o, h1, h2, h3, h4, h5, h6⟩ := R.own i n
    refine ⟨d, a, o, h1, h2, h3, h4.step S, h5, fun z => ?_⟩
    rcases z with z | z
    · exact h6 (.inl (.inl z))
    · rcases List.mem_append.mp z with z | z
      · exact h6 (.inr z)
      · exact h6 (.inl (.inr (List.mem_singleton.mp z)))
  · rw [List.length_append, List.length_append, R.sto.len]
    rfl
  · refine List.nodup_append.mpr ⟨R.sto.nd, by simp, fun a ha b hb e => ?_⟩
    rw [List.mem_singleton] at hb
    exact nq (by rw [← hb, ← e]; exact ha)
  · by_cases hn : n < st.length
    · rw [List.getElem?_append_left hn] at e1
      rw [List.getElem?_append_left (by rw [R.sto.len]; exact hn)] at e2
      exact (R.sto.ob n ob' a e1 e2).step S rfl
    · rw [List.getElem?_append_right (Nat.le_of_not_lt hn)] at e1
      rw [List.getElem?_append_right (by rw [R.sto.len]; exact Nat.le_of_not_lt hn), R.sto.len] at e2
      have hz : n - st.length = 0 := by
        have := (List.getElem?_eq_some_iff.mp e1).1
        simp at this
        omega
      rw [hz] at e1 e2
      cases e1
      cases e2
      exact ho.step S rfl
  · rcases List.mem_append.mp m with m | m
    · exact R.αB a m (.inl z)
    · rw [List.mem_singleton.mp m] at z
      exact hB z
  · obtain ⟨t, e⟩ := R.αn
    exact ⟨t ++ [q], by rw [e, List.append_assoc]; rfl⟩
  · rcases List.mem_append.mp m with m | m
    · exact R.αf a m
    · rw [List.mem_singleton.mp m]
      exact .inr h0
theorem ste_push (S : Ste α H α' H') (hn : H q = none) : Ste α H (α' ++ [q]) H' := by
  obtain ⟨t, e⟩ := S.pre
  refine ⟨⟨t ++ [q], by rw [e, List.append_assoc]⟩, fun a m => ?_, S.keep⟩
  rcases List.mem_append.mp m with m | m
  · exact S.new a m
  · rw [List.mem_singleton.mp m]
    exact .inr hn
theorem stp_upd {o' : HO} (hq : q ∈ α) : Stp (NN c Γ σ α) α H (NN c Γ σ α) α (upd H q o') :=
  ⟨⟨[], by simp⟩, fun a o h n => ⟨by rw [upd_ne (show a ≠ q from fun e => n (.inl (.inr (by rw [e]; exact hq))))]; exact h, n⟩⟩
/-- an object of the store changes -/
theorem Rel.changeO {n : Nat} {ob' : Ob} {o' : HO} (R : Rel K c Γ sl st α σ H) (hq : α[n]? = some q) (hr : ObRel K (NN c Γ σ α) α (upd H q o') ob' q) : Rel K c Γ sl (st.set n ob') α σ (upd H q o') ∧ Ste α H α (upd H q o') := by
  have mq : q ∈ α := List.mem_of_getElem? hq
  have S : Stp (NN c Γ σ α) α H (NN c Γ σ α) α (upd H q o') := stp_upd mq
  refine ⟨⟨R.len, fun i d e n => ?_, fun i n => ?_, R.dist, ⟨by rw [List.length_set]; exact R.sto.len, R.sto.nd, fun m ob a e1 e2 => ?_⟩, fun a z => ?_, R.αB, R.αn, R.αf, fun a o h n => ?_⟩, ⟨⟨[], by simp⟩, fun _ h => .inl h, fun a o h n => by rw [upd_ne (show a ≠ q from fun e => n (by rw [e]; exact mq))]; exact h⟩⟩
  · obtain ⟨v, h1, h2⟩ := R.val i d e n
    exact ⟨v, h1, h2.step S⟩
  · obtain ⟨d, a, o, h1, h2, h3, h4, h5, h6⟩ := R.own i n
    exact ⟨d, a, o, h1, h2, by rw [upd_ne (show a ≠ q from fun e => h6 (.inr (by rw [e]; exact mq)))]; exact h3, h4.step S, h5, h6⟩
  · by_cases hm : n = m
    · subst hm
      rw [hq] at e2
      cases e2
      rw [List.getElem?_set] at e1
      rw [if_pos rfl] at e1
      split at e1
      · cases e1; exact hr
      · cases e1
    · rw [getElem?_set_ne' hm] at e1
      have ne : a ≠ q := fun z => by
        subst z
        obtain ⟨l1, g1⟩ := List.getElem?_eq_some_iff.mp hq
        obtain ⟨l2, g2⟩ := List.getElem?_eq_some_iff.mp e2
        have hp := List.pairwise_iff_getElem.mp R.sto.nd
        rcases Nat.lt_trichotomy n m with h | h | h
        · exact hp n m l1 l2 h (g1.trans g2.symm)
        · exact hm h
        · exact hp m n l2 l1 h (g2.trans g1.symm)
      exact (R.sto.ob m ob a e1 e2).step S (upd_ne ne)
  · rw [upd_ne (show a ≠ q from fun e => R.αB q mq (by rw [← e]; exact z))]
    exact R.bt a z
  · rw [upd_ne (show a ≠ q from fun e => by
      subst e
      rcases R.αf a mq with z | z
      · exact n z
      · rw [z] at h; cases h)]
    exact R.fr a o h n
theorem Rel.at_ (R : Rel K c Γ sl st α σ H) {n : Nat} {a : Addr} (h : α[n]? = some a) : ∃ ob, st[n]? = some ob ∧ ObRel K (NN c Γ σ α) α H ob a := by
  have hl : n < st.length := by rw [← R.sto.len]; exact (List.getElem?_eq_some_iff.mp h).1
  exact ⟨st[n], List.getElem?_eq_getElem hl, R.sto.ob n _ a (List.getElem?_eq_getElem hl) h⟩
theorem RB.obj {n : Nat} {v : V} (h : RB K N T α H (.obj n) v) : ∃ a, v = .ref a ∧ α[n]? = some a := by
  cases (show RD K N α H (.obj n) v from h) with
  | obj h' => exact ⟨_, rfl, h'⟩
/-- read late -/
theorem RB.drf {d : D} {v : V} (R : Rel K c Γ sl st α σ H) (r : RB K (NN c Γ σ α) (NB c α) α H d v) : RB K (NN c Γ σ α) (fun _ => False) α H (Vx.drf st d) v := by
  cases d with
  | obj n =>
    obtain ⟨a, rfl, h⟩ := r.obj
    obtain ⟨ob, e, ho⟩ := R.at_ h
    unfold Vx.drf
    simp only [e]
    cases ob with
    | ins C fs => exact (show RD K (NN c Γ σ α) α H (.obj n) (.ref a) from .obj h)
    | lst ds => obtain ⟨vs, h1, h2⟩ := ho; exact ⟨a, vs, rfl, .inl ⟨id, .of h1⟩, h2⟩
    | dic ds => obtain ⟨vs, h1, h2⟩ := ho; exact ⟨a, vs, rfl, id, .of h1, h2⟩
  | lst xs => 
    obtain ⟨a, vs, e, h, r⟩ := r
    exact ⟨a, vs, e, h.imp (fun ⟨_, h⟩ => ⟨id, h⟩) id, r⟩
  | dic xs =>
    obtain ⟨a, vs, e, _, h, r⟩ := r
    exact ⟨a, vs, e, id, h, r⟩
  | dit xs =>
    obtain ⟨a, es, e, _, h, r⟩ := r
    exact ⟨a, es, e, id, h, r⟩
  | non => exact r
  | bl b => exact r
  | int b => exact r
  | str b => exact r
  | tup b => exact r
theorem RBs.drf (R : Rel K c Γ sl st α σ H) : ∀ {ds : List D} {vs : List V}, RBs K (NN c Γ σ α) (NB c α) α H ds vs → RBs K (NN c Γ σ α) (fun _ => False) α H (ds.map (Vx.drf st)) vs
  | _, _, .nil => .nil
  | _, _, .cons r t => .cons (RB.drf R r) (RBs.drf R t)

/-! ### into the store -/
def boxR (d : D) (s : Sto) : Vx.R D := match obOf d with
  | some ob => .ok (.obj s.length) (s ++ [ob])
  | none => .no
theorem PQ.box {Q : VK} {d : D} {s1 : Sto} {E : Ex → Sto → Prop} (R : Rel X.K c Γ sl st α σ H) (hd : (boxR d s1).Sat (PQ X.K c Γ sl α σ H Q) E) : PQf X.K c Γ sl α σ H Q d s1 := by
  intro p o α1 H1 h0 hp R1 S1 r1
  have hB : ¬ c.B p := fun z => R.bt p z h0
  have key : ∀ ob, ObRel X.K (NN (c.add p) Γ σ α1) α1 H1 ob p → PQ X.K c Γ sl α σ H Q (.obj s1.length) (s1 ++ [ob]) → Q (.ref p) H1 := fun ob ho hq =>
    hq (.ref p) (α1 ++ [p]) H1 (R1.push hB (R.fresh0 h0) ho) (ste_push S1 h0) (.obj (by rw [← R1.sto.len, List.getElem?_append_right (Nat.le_refl _), Nat.sub_self]; rfl))
  cases d with
  | lst xs => cases o with
    | lst vs => exact key (.lst xs) ⟨vs, hp, r1⟩ hd
    | _ => exact False.elim r1
  | dic xs => cases o with
    | dK vs => exact key (.dic xs) ⟨vs, hp, r1⟩ hd
    | _ => exact False.elim r1
  | _ => exact False.elim hd
theorem se_box (ha : SF X W Γ a fa) : SE X W Γ a (mBox fa) := by
  intro c sl st α σ H Q R h
  exact ha c sl st α σ H Q R ((Vx.R.sat_bind.mp h).imp (fun d s1 hd => PQ.box R hd) fun _ _ z => z)
/-- name = [.. for ..], into the store -/
theorem ss_setLcB (i : Nat) {y : Str} {py : Pos} {tg iter elt : Expr} {ifs : List Expr} {scope : Scope} {own : List (Str × Nat)} {is vs : List Nat} {g : D → Sl → Option Sl} {it : FA} {t : FT} {f : FE} {spos : Pos} (hc : X.calm = true) (hN : X.N.Nodup) (hy : X.N[i]? = some y) (hyl : X.env.scope.names.lookup y = some .local)
    (hsw : swapsWith (.ListComp elt [⟨tg, iter, ifs, 0⟩] scope pos) (some (.Name y py)) spos.line X.env = pure true) (hi : SI X W Γ true tg iter it) (ok : BlkOk X.N X.env.scope scope own)
    (hg : ∀ (s : Shared) (H : Hp) (C : Addr) (cl : List (Str × Addr)) (fp : List Addr), SG (X.blk s H scope (compEnvC scope cl C X.env) fp) tg is g) (hgo : TgOk is g) (his : ∀ i ∈ is, i ∈ vs)
    (ht : ∀ (s : Shared) (H : Hp) (C : Addr) (cl : List (Str × Addr)) (fp : List Addr), STs (X.blk s H scope (compEnvC scope cl C X.env) fp) W0 Γ ifs t) (he : ∀ (s : Shared) (H : Hp) (C : Addr) (cl : List (Str × Addr)) (fp : List Addr), SE (X.blk s H scope (compEnvC scope cl C X.env) fp) W0 Γ elt f)
    (hΓ : ∀ i ∈ vs, Γ[i]? ≠ some true) (hΓi : Γ[i]? ≠ some true := by decide) (hs : ∀ x, foldedSetIterable iter X.env x = pure x := by intro _; rfl) (hvs : own.map (·.2) = vs := by rfl) : SS X W ρ ΓL Γ (.Assign [.Name y py] (.ListComp elt [⟨tg, iter, ifs, 0⟩] scope pos) spos) (sSet i (mBox (mComp it g t f vs))) Γ := by
  subst hvs
  intro c sl st α σ H Dn R h
  refine ⟨_, ps_setLc hc hN hy hyl hsw pi_wp ok pg_gU pt_tU pe_eU hs, ?_⟩
  refine comp_core hi hg hgo his ht he hΓ R ((Vx.R.sat_bind.mp (Vx.R.sat_fl.mp h)).imp (fun d s1 hd => ?_) fun x s1 hx => hx Γ σ)
  refine PQ.box R (E := fun _ _ => True) (Vx.R.Sat.imp (r := boxR d s1) hd (fun d s1 hd v α1 H1 R1 S1 r1 => ?_) fun _ _ _ => trivial)
  exact hd α1 _ H1 (R1.set hΓi r1) (S1.nn.trans (.less fun a z => (nn_set hΓi a).mp z))

/-! ### read late -/
theorem bin_coreO {r : R2} {g : D → D → Option D} (hr : ∀ (N T : Addr → Prop) (α : List Addr) (H : Hp) (x y : D) (vx vy : V) (d : D) (Q : VK), (∀ a, N a → H a ≠ none) → RB X.K N T α H x vx → RB X.K N T α H y vy → g x y = some d → (∀ v H', Same H H' → RD X.K N α H' d v → Q v H') → r vx vy H Q)
    (ha : SB X W Γ a fa) (hb : SB X W Γ b fb) {Q : VK} (R : Rel X.K c Γ sl st α σ H)
    (h : (mBinO g fa fb sl st).Sat (PQ X.K c Γ sl α σ H Q) (PX X.K c Γ sl σ W)) : tOp r (wpE X a) (wpE X b) σ H Q := by
  refine ha c sl st α σ H _ R ((Vx.R.sat_bind.mp h).imp (fun x s1 hx vx α1 H1 R1 S1 d1 => ?_) fun _ _ z => z)
  refine hb c sl s1 α1 σ H1 _ R1 ((Vx.R.sat_bind.mp hx).imp (fun y s2 hy vy α2 H2 R2 S2 d2 => ?_) fun _ _ z => z)
  cases eg : g (drf s2 x) (drf s2 y) with
  | none => rw [eg] at hy; exact False.elim hy
  | some d =>
    rw [eg] at hy
    refine hr _ _ _ _ _ _ vx vy d Q R2.nn (RB.drf R2 (d1.step S2.nb S2.nn)) (RB.drf R2 d2) eg fun v H' G r => ?_
    exact hy v α2 H' (R2.grow G) (S1.trans (S2.trans (.grow G))) r
theorem se_binO {op : Operator} {g : D → D → Option D} (ho : OpD X (binaryOp op) g) (ha : SB X W Γ a fa) (hb : SB X W Γ b fb) : SE X W Γ (.BinOp a op b pos) (mBinO g fa fb) := by
  obtain ⟨r, o, hr⟩ := ho
  exact fun c sl st α σ H Q R h => ⟨_, pe_op o pe_wp pe_wp, bin_coreO hr ha hb R h⟩
theorem se_cmpO {op : CmpOp} {g : D → D → Option D} (ho : OpD X (compareOp op) g) (ha : SB X W Γ a fa) (hb : SB X W Γ b fb) (hm : behindInMarks op b = false := by first | exact nobehind _ (by decide) (by decide) | rfl) : SE X W Γ (.Compare a [op] [b] pos) (mBinO g fa fb) := by
  obtain ⟨r, o, hr⟩ := ho
  exact fun c sl st α σ H Q R h => ⟨_, pe_cmpR o pe_wp pe_wp hm, bin_coreO hr ha hb R h⟩
theorem st_cmpO {op : CmpOp} {g : D → D → Option D} (ho : OpD X (compareOp op) g) (ha : SB X W Γ a fa) (hb : SB X W Γ b fb) (hm : behindInMarks op b = false := by first | exact nobehind _ (by decide) (by decide) | rfl) : ST X W Γ (.Compare a [op] [b] pos) (mT (mBinO g fa fb)) := by
  obtain ⟨r, o, hr⟩ := ho
  intro c sl st α σ H Q R h
  refine ⟨_, pt_cmpR o pe_wp pe_wp hm, ?_⟩
  refine bin_coreO hr ha hb R ((Vx.R.sat_bind.mp h).imp (fun d s1 hd v α1 H1 R1 S1 r1 => ?_) fun _ _ z => z)
  cases eg : gBl d with
  | none => rw [eg] at hd; exact False.elim hd
  | some k =>
    rw [eg] at hd
    have ed := gBl_some eg
    subst ed
    exact ⟨k, rd_bl r1, hd α1 H1 R1 S1⟩
theorem se_ixO {g : D → D → Option D} (ho : IxD X g) (ha : SB X W Γ a fa) (hb : SB X W Γ b fb) (hs : PlainIx b := by intro _ _; rfl) : SE X W Γ (.Subscript a b pos) (mBinO g fa fb) := by
  obtain ⟨r, o, hr⟩ := ho
  exact fun c sl st α σ H Q R h => ⟨_, pe_ix o pe_wp pe_wp hs, bin_coreO hr ha hb R h⟩
theorem se_cutO {lo hi : Option Expr} {p2 : Pos} {fl fh : FO} (ho : CutD X gCut) (ha : SB X W Γ a fa) (hl : SO X W Γ lo fl) (hh : SO X W Γ hi fh) : SE X W Γ (.Subscript a (.Slice lo hi none p2) pos) (mCutO fa fl fh) := by
  obtain ⟨r, o, hr⟩ := ho
  intro c sl st α σ H Q R h
  refine ⟨_, pe_slice o pe_wp po_wp po_wp, ?_⟩
  refine ha c sl st α σ H _ R ((Vx.R.sat_bind.mp h).imp (fun d s1 hd v α1 H1 R1 S1 r1 => ?_) fun _ _ z => z)
  refine hl c sl s1 α1 σ H1 _ R1 ((Vx.R.sat_bind.mp hd).imp (fun i s2 hi α2 H2 R2 S2 => ?_) fun _ _ z => z)
  refine hh c sl s2 α2 σ H2 _ R2 ((Vx.R.sat_bind.mp hi).imp (fun j s3 hj α3 H3 R3 S3 => ?_) fun _ _ z => z)
  cases eg : gCut (drf s3 d) i j with
  | none => rw [eg] at hj; exact False.elim hj
  | some z =>
    rw [eg] at hj
    have S23 := S2.trans S3
    exact hr _ _ _ _ _ i j v z Q R3.nn (RB.drf R3 (r1.step S23.nb S23.nn)) eg fun v H' G r => hj v α3 H' (R3.grow G) (S1.trans (S23.trans (.grow G))) r
theorem sf_cutO {lo hi : Option Expr} {p2 : Pos} {fl fh : FO} (ho : CutF X gCutL) (ha : SB X W Γ a fa) (hl : SO X W Γ lo fl) (hh : SO X W Γ hi fh) : SF X W Γ (.Subscript a (.Slice lo hi none p2) pos) (mCutLO fa fl fh) := by
  obtain ⟨r, o, hr⟩ := ho
  intro c sl st α σ H Q R h
  refine ⟨_, pe_slice o pe_wp po_wp po_wp, ?_⟩
  refine ha c sl st α σ H _ R ((Vx.R.sat_bind.mp h).imp (fun d s1 hd v α1 H1 R1 S1 r1 => ?_) fun _ _ z => z)
  refine hl c sl s1 α1 σ H1 _ R1 ((Vx.R.sat_bind.mp hd).imp (fun i s2 hi α2 H2 R2 S2 => ?_) fun _ _ z => z)
  refine hh c sl s2 α2 σ H2 _ R2 ((Vx.R.sat_bind.mp hi).imp (fun j s3 hj α3 H3 R3 S3 => ?_) fun _ _ z => z)
  cases eg : gCutL (drf s3 d) i j with
  | none => rw [eg] at hj; exact False.elim hj
  | some z =>
    rw [eg] at hj
    have S23 := S2.trans S3
    exact hr _ _ _ _ _ i j v z Q R3.nn (RB.drf R3 (r1.step S23.nb S23.nn)) eg fun p o hp r => PQf.new hj R3 (S1.trans S23) (fun _ m => R.sto.tr m) hp r
theorem call_coreO {r : List V → Hp → VK → Prop} {g : List D → Option D} {fr : FA} (hr : ∀ (N T : Addr → Prop) (α : List Addr) (H : Hp) (xs : List D) (vs : List V) (d : D) (Q : VK), (∀ a, N a → H a ≠ none) → RBs X.K N T α H xs vs → g xs = some d → (∀ v H', Same H H' → RD X.K N α H' d v → Q v H') → r vs H Q)
    (ha : SAb X W Γ es fr) {Q : VK} (R : Rel X.K c Γ sl st α σ H) (h : (mArgsO g fr sl st).Sat (PQ X.K c Γ sl α σ H Q) (PX X.K c Γ sl σ W)) : tCB r (wpA X es) σ H Q := by
  refine ha c sl st α σ H _ R ((Vx.R.sat_bind.mp h).imp (fun ds s1 hd vs α1 H1 R1 S1 r1 => ?_) fun _ _ z => z)
  cases eg : g (ds.map (drf s1)) with
  | none => rw [eg] at hd; exact False.elim hd
  | some d =>
    rw [eg] at hd
    exact hr _ _ _ _ _ vs d Q R1.nn (RBs.drf R1 r1) eg fun v H' G r => hd v α1 H' (R1.grow G) (S1.trans (.grow G)) r
theorem callF_coreO {r : List V → Hp → VK → Prop} {g : List D → Option D} {fr : FA} (hr : ∀ (N T : Addr → Prop) (α : List Addr) (H : Hp) (xs : List D) (vs : List V) (d : D) (Q : VK), (∀ a, N a → H a ≠ none) → RBs X.K N T α H xs vs → g xs = some d → (∀ p o, H p = none → ROb X.K N α H p d o → Q (.ref p) (upd H p o)) → r vs H Q)
    (ha : SAb X W Γ es fr) {Q : VK} (R : Rel X.K c Γ sl st α σ H) (h : (mArgsO g fr sl st).Sat (PQf X.K c Γ sl α σ H Q) (PX X.K c Γ sl σ W)) : tCB r (wpA X es) σ H Q := by
  refine ha c sl st α σ H _ R ((Vx.R.sat_bind.mp h).imp (fun ds s1 hd vs α1 H1 R1 S1 r1 => ?_) fun _ _ z => z)
  cases eg : g (ds.map (drf s1)) with
  | none => rw [eg] at hd; exact False.elim hd
  | some d =>
    rw [eg] at hd
    exact hr _ _ _ _ _ vs d Q R1.nn (RBs.drf R1 r1) eg fun p o hp r => PQf.new hd R1 S1 (fun _ m => R.sto.tr m) hp r
theorem se_callBO {id : String} {g : List D → Option D} {fr : FA} (hc : CallD X (.builtin id) g) (hm : X.mg x = none) (hv : bootBuiltins x = some (.builtin id)) (ha : SAb X W Γ (e :: es) fr) (hg : Gl X x := by rfl) (hn : x ≠ "__name__" := by decide) (hdb : (x == ("__debug__" : Str)) = false := by decide)
    (he : starEach (e :: es) X.env = (false, eval e X.env) :: starEach es X.env := by rfl) (hpl : (backTo pos (starEach es X.env)).any (·.1) = false := by rfl) : SE X W Γ (.Call (.Name x p) (e :: es) [] pos) (mArgsO g fr) := by
  obtain ⟨r, o, hr⟩ := hc
  exact fun c sl st α σ H Q R h => ⟨_, pe_callB o hg hm hv pa_wp hn hdb he hpl, call_coreO hr ha R h⟩
theorem se_callTyO {T : String} {g : List D → Option D} {fr : FA} (hc : CallD X (.type T) g) (hm : X.mg x = none) (hv : bootBuiltins x = some (.type T)) (ha : SAb X W Γ (e :: es) fr) (hg : Gl X x := by rfl) (hn : x ≠ "__name__" := by decide) (hdb : (x == ("__debug__" : Str)) = false := by decide)
    (he : starEach (e :: es) X.env = (false, eval e X.env) :: starEach es X.env := by rfl) (hpl : (backTo pos (starEach es X.env)).any (·.1) = false := by rfl) : SE X W Γ (.Call (.Name x p) (e :: es) [] pos) (mArgsO g fr) := by
  obtain ⟨r, o, hr⟩ := hc
  exact fun c sl st α σ H Q R h => ⟨_, pe_callTy o hg hm hv pa_wp hn hdb he hpl, call_coreO hr ha R h⟩
theorem sf_callBO {id : String} {g : List D → Option D} {fr : FA} (hc : CallF X (.builtin id) g) (hm : X.mg x = none) (hv : bootBuiltins x = some (.builtin id)) (ha : SAb X W Γ (e :: es) fr) (hg : Gl X x := by rfl) (hn : x ≠ "__name__" := by decide) (hdb : (x == ("__debug__" : Str)) = false := by decide)
    (he : starEach (e :: es) X.env = (false, eval e X.env) :: starEach es X.env := by rfl) (hpl : (backTo pos (starEach es X.env)).any (·.1) = false := by rfl) : SF X W Γ (.Call (.Name x p) (e :: es) [] pos) (mArgsO g fr) := by
  obtain ⟨r, o, hr⟩ := hc
  exact fun c sl st α σ H Q R h => ⟨_, pe_callB o hg hm hv pa_wp hn hdb he hpl, callF_coreO hr ha R h⟩
theorem sf_callTyO {T : String} {g : List D → Option D} {fr : FA} (hc : CallF X (.type T) g) (hm : X.mg x = none) (hv : bootBuiltins x = some (.type T)) (ha : SAb X W Γ (e :: es) fr) (hg : Gl X x := by rfl) (hn : x ≠ "__name__" := by decide) (hdb : (x == ("__debug__" : Str)) = false := by decide)
    (he : starEach (e :: es) X.env = (false, eval e X.env) :: starEach es X.env := by rfl) (hpl : (backTo pos (starEach es X.env)).any (·.1) = false := by rfl) : SF X W Γ (.Call (.Name x p) (e :: es) [] pos) (mArgsO g fr) := by
  obtain ⟨r, o, hr⟩ := hc
  exact fun c sl st α σ H Q R h => ⟨_, pe_callTy o hg hm hv pa_wp hn hdb he hpl, callF_coreO hr ha R h⟩

/-! ### isinstance, slices -/
theorem se_isiO {T : String} {y : Str} {p p2 : Pos} {a : Expr} (hcl : ∀ (N T' : Addr → Prop) (α : List Addr) (H : Hp) (d : D) (v : V), RB X.K N T' α H d v → (∀ n, d ≠ .obj n) → (∀ k, d ≠ .dic k ∧ d ≠ .dit k) → ∃ t, TyX X.K H v t ∧ PySem.W.kitOne X.K t (.type T) = some (d.isT T))
    (hm : X.mg "isinstance" = none) (hmT : X.mg y = none) (hvT : bootBuiltins y = some (.type T)) (ha : SB X W Γ a fa) (hg : Gl X "isinstance" := by rfl) (hgT : Gl X y := by rfl) (hv : bootBuiltins "isinstance" = some (.builtin "isinstance") := by decide +kernel) (hyn : y ≠ "__name__" := by decide) (hyd : (y == ("__debug__" : Str)) = false := by decide)
    (he : starEach [a, .Name y p2] X.env = (false, eval a X.env) :: starEach [.Name y p2] X.env := by rfl) (he2 : starEach [.Name y p2] X.env = (false, eval (.Name y p2) X.env) :: starEach [] X.env := by rfl) (hpl : (backTo pos (starEach [.Name y p2] X.env)).any (·.1) = false := by rfl) :
    SE X W Γ (.Call (.Name "isinstance" p) [a, .Name y p2] [] pos) (mUnO (gIsi T) fa) := by
  intro c sl st α σ H Q R h
  refine ⟨_, pe_callB call_isi hg hm hv (pa_cons (e := a) pe_wp (pa_cons (pe_bltn (v := .ty T) hgT hmT hvT rfl hyn hyd) pa_nil he2) he) (by decide) (by decide) he hpl, ?_⟩
  refine ha c sl st α σ H _ R ((Vx.R.sat_bind.mp h).imp (fun d0 s1 hd v α1 H1 R1 S1 r1 => ?_) fun _ _ z => z)
  have r2 := RB.drf R1 r1
  generalize drf s1 d0 = d at hd r2
  have hno : ∀ n, d ≠ .obj n := fun n q => by subst q; exact False.elim hd
  have hnd : ∀ n, d ≠ .dic n ∧ d ≠ .dit n := fun n => ⟨fun q => by subst q; exact False.elim hd, fun q => by subst q; exact False.elim hd⟩
  obtain ⟨t, ht, hk⟩ := hcl _ _ _ _ d v r2 hno hnd
  refine ⟨v, .ty T, t, .type T, d.isT T, rfl, .ty T, ht, hk, ?_⟩
  have hd' : PQ X.K c Γ sl α σ H Q (.bl (d.isT T)) s1 := by cases d <;> first | exact hd | exact False.elim hd
  exact hd' _ α1 H1 R1 S1 (.bl _)

/-! ### changed in place -/
theorem lstAt_some {s : Sto} {d : D} {n : Nat} {xs : List D} (h : lstAt s d = some (n, xs)) : d = .obj n ∧ s[n]? = some (.lst xs) := by
  unfold lstAt at h
  split at h
  · split at h
    · cases h; exact ⟨rfl, by assumption⟩
    · cases h
  · cases h
theorem insAt_some {C : Nat} {s : Sto} {d : D} {n : Nat} {fs : List (Str × D)} (h : insAt C s d = some (n, fs)) : d = .obj n ∧ s[n]? = some (.ins C fs) := by
  unfold insAt at h
  split at h
  · split at h
    · split at h
      · rename_i e
        subst e
        cases h; exact ⟨rfl, by assumption⟩
      · cases h
    · cases h
  · cases h
theorem Rel.lstAt (R : Rel K c Γ sl st α σ H) {d : D} {v : V} {n : Nat} {xs : List D} (r : RD K (NN c Γ σ α) α H d v) (h : lstAt st d = some (n, xs)) : ∃ a vs, v = .ref a ∧ α[n]? = some a ∧ H a = some (.lst vs) ∧ RDs K (NN c Γ σ α) α H xs vs := by
  obtain ⟨rfl, e⟩ := lstAt_some h
  cases r with
  | obj ha =>
    obtain ⟨ob, e1, ho⟩ := R.at_ ha
    rw [e] at e1
    cases e1
    obtain ⟨vs, h1, h2⟩ := ho
    exact ⟨_, vs, rfl, ha, h1, h2⟩
theorem Rel.insAt (R : Rel K c Γ sl st α σ H) {d : D} {v : V} {C n : Nat} {fs : List (Str × D)} (r : RD K (NN c Γ σ α) α H d v) (h : insAt C st d = some (n, fs)) : ∃ a dx fs', v = .ref a ∧ α[n]? = some a ∧ H a = some (.ins C dx fs') ∧ fs.map (·.1) = fs'.map (·.1) ∧ RDs K (NN c Γ σ α) α H (fs.map (·.2)) (fs'.map (·.2)) := by
  obtain ⟨rfl, e⟩ := insAt_some h
  cases r with
  | obj ha =>
    obtain ⟨ob, e1, ho⟩ := R.at_ ha
    rw [e] at e1
    cases e1
    obtain ⟨dx, fs', h1, h2, h3⟩ := ho
    exact ⟨_, dx, fs', rfl, ha, h1, h2, h3⟩
theorem meth_coreO {id : String} {g : List D → List D → Option (D × List D)} {r : V → List V → Hp → VK → Prop} (hr : ∀ (N : Addr → Prop) (α : List Addr) (H : Hp) (q : Addr) (xs ys zs : List D) (d : D) (vs ws : List V) (Q : VK), H q = some (.lst vs) → RDs X.K N α H xs vs → RDs X.K N α H ys ws → g xs ys = some (d, zs) →
    (∀ v us, RD X.K N α H d v → RDs X.K N α H zs us → Q v (upd H q (.lst us))) → r (.ref q) ws H Q) {fr : FA} {es : List Expr} (ho : SE X W Γ a fa) (ha : SA X W Γ es fr) {Q : VK} (R : Rel X.K c Γ sl st α σ H)
    (h : (mMethO g fa fr sl st).Sat (PQ X.K c Γ sl α σ H Q) (PX X.K c Γ sl σ W)) : tBM X.K "list" r (wpE X a) (wpA X es) σ H Q := by
  refine ho c sl st α σ H _ R ((Vx.R.sat_bind.mp h).imp (fun x s1 hx vx α1 H1 R1 S1 d1 => ?_) fun _ _ z => z)
  cases e1 : Vx.lstAt s1 x with
  | none => simp only [e1] at hx; exact False.elim hx
  | some w =>
    obtain ⟨n, xs⟩ := w
    simp only [e1] at hx
    obtain ⟨q, vs, rfl, hq, hv, _⟩ := R1.lstAt d1 e1
    refine ⟨.inl ⟨rfl, vs, sqL_of (.of hv)⟩, ?_⟩
    refine ha c sl s1 α1 σ H1 _ R1 ((Vx.R.sat_bind.mp hx).imp (fun ys s2 hy ws α2 H2 R2 S2 d2 => ?_) fun _ _ z => z)
    cases e2 : Vx.lstAt s2 x with
    | none => simp only [e2] at hy; exact False.elim hy
    | some w =>
      obtain ⟨m, xs2⟩ := w
      simp only [e2] at hy
      obtain ⟨q2, vs2, eq2, hq2, hv2, rv2⟩ := R2.lstAt (d1.step S2.nn) e2
      cases eq2
      cases eg : g xs2 ys with
      | none => simp only [eg] at hy; exact False.elim hy
      | some w =>
        obtain ⟨y, zs⟩ := w
        simp only [eg] at hy
        refine hr _ _ _ q xs2 ys zs y vs2 ws Q hv2 rv2 d2 eg fun v us rv ru => ?_
        have mq : q ∈ α2 := List.mem_of_getElem? hq2
        have S : Stp (NN c Γ σ α2) α2 H2 (NN c Γ σ α2) α2 (upd H2 q (.lst us)) := stp_upd mq
        obtain ⟨R3, S3⟩ := R2.changeO (ob' := .lst zs) (o' := .lst us) hq2 ⟨us, upd_same, ru.step S⟩
        exact hy v α2 _ R3 (S1.trans (S2.trans S3)) (rv.step S)
theorem se_methO {nm : Str} {id : String} {g : List D → List D → Option (D × List D)} {fr : FA} {apos : Pos} (slot : Slot "list" nm id) (ty : typeOf (.builtin id) = pure (.type "method_descriptor")) (hm : MethD X id g) (ho : SE X W Γ a fa) (ha : SA X W Γ (e :: es) fr)
    (hbase : attributeBase a nm X.env (eval a X.env) = eval a X.env := by rfl)
    (hfew : ((backTo p (starEach (e :: es) X.env)).all (fun x => !x.1) && (backToKw p (keywordEach [] X.env)).all (fun x => x.1.isSome)
      && decide ((e :: es).length + ([] : List Keyword).length + (if ([] : List Keyword).isEmpty then 0 else 1) < 30)) = true := by rfl)
    (hline : (apos.endLine == p.line) = true := by rfl) (hst : starEach (e :: es) X.env = (false, eval e X.env) :: starEach es X.env := by rfl) (hplain : (backTo p (starEach es X.env)).any (·.1) = false := by rfl) :
    SE X W Γ (.Call (.Attribute a nm apos) (e :: es) [] p) (mMethO g fa fr) := by
  obtain ⟨r, mt, hr⟩ := hm
  exact fun c sl st α σ H Q R h => ⟨_, pe_bm PySem.F.plainAttrs_list slot ty mt pe_wp pa_wp hbase hfew hline hst hplain, meth_coreO (id := id) hr ho ha R h⟩
theorem se_methO0 {nm : Str} {id : String} {g : List D → List D → Option (D × List D)} {apos : Pos} (slot : Slot "list" nm id) (ty : typeOf (.builtin id) = pure (.type "method_descriptor")) (hm : MethD X id g) (ho : SE X W Γ a fa)
    (hbase : attributeBase a nm X.env (eval a X.env) = eval a X.env := by rfl) (hline : (apos.endLine == p.line) = true := by rfl) :
    SE X W Γ (.Call (.Attribute a nm apos) [] [] p) (mMethO g fa mNil) := by
  obtain ⟨r, mt, hr⟩ := hm
  refine fun c sl st α σ H Q R h => ⟨_, pe_bm0 PySem.F.plainAttrs_list slot ty mt pe_wp hbase hline, ?_⟩
  refine ho c sl st α σ H _ R ((Vx.R.sat_bind.mp h).imp (fun x s1 hx vx α1 H1 R1 S1 d1 => ?_) fun _ _ z => z)
  cases e1 : Vx.lstAt s1 x with
  | none => simp only [e1] at hx; exact False.elim hx
  | some w =>
    obtain ⟨n, xs⟩ := w
    simp only [e1, mNil, Vx.R.bind_ok] at hx
    obtain ⟨q, vs, rfl, hq, hv, rv⟩ := R1.lstAt d1 e1
    refine ⟨.inl ⟨rfl, vs, sqL_of (.of hv)⟩, ?_⟩
    cases eg : g xs [] with
    | none => simp only [eg] at hx; exact False.elim hx
    | some w =>
      obtain ⟨y, zs⟩ := w
      simp only [eg] at hx
      refine hr _ _ _ q xs [] zs y vs [] Q hv rv .nil eg fun v us rv ru => ?_
      have mq : q ∈ α1 := List.mem_of_getElem? hq
      have S : Stp (NN c Γ σ α1) α1 H1 (NN c Γ σ α1) α1 (upd H1 q (.lst us)) := stp_upd mq
      obtain ⟨R3, S3⟩ := R1.changeO (ob' := .lst zs) (o' := .lst us) hq ⟨us, upd_same, ru.step S⟩
      exact hx v α1 _ R3 (S1.trans S3) (rv.step S)
def gAppend (xs ys : List D) : Option (D × List D) := match ys with
  | [y] => if xs.length < 16777216 then some (.non, xs ++ [y]) else none
  | _ => none
theorem methd_append : MethD X "list.append" gAppend := by
  refine ⟨_, mt_append, fun N α H q xs ys zs d vs ws Q hq r ra e h => ?_⟩
  unfold gAppend at e
  split at e
  · cases ra with
    | cons r0 rt =>
      cases rt
      obtain ⟨hc, e⟩ := ite_some e
      cases e
      exact ⟨q, vs, _, rfl, rfl, hq, by rw [← r.length, sizeLine_eq]; exact hc, h .non _ .non (r.append (.cons r0 .nil))⟩
  · cases e
/-- the first place of k -/
def atI? (k : Int) : List Int → Option Nat
  | [] => none
  | n :: r => if n = k then some 0 else (atI? k r).map (· + 1)
def gRemove (xs ys : List D) : Option (D × List D) := match ys with
  | [.int k] => (intsD xs).bind fun ns => (atI? k ns).map fun j => (.non, xs.eraseIdx j)
  | _ => none
theorem atI?_spec {k : Int} : ∀ {ns : List Int} {j : Nat}, atI? k ns = some j → ns[j]? = some k ∧ ∀ m : Nat, m < j → ns[m]? ≠ some k
  | [], _, h => by cases h
  | n :: r, j, h => by
    unfold atI? at h
    split at h
    · rename_i e
      cases h
      exact ⟨by simp [e], fun m hm => by omega⟩
    · rename_i e
      rw [Option.map_eq_some_iff] at h
      obtain ⟨i, hi, rfl⟩ := h
      obtain ⟨h1, h2⟩ := atI?_spec hi
      refine ⟨by simpa using h1, fun m hm => ?_⟩
      cases m with
      | zero => simpa using e
      | succ m => simpa using h2 m (by omega)
theorem erase_map {α β : Type} (f : α → β) : ∀ (xs : List α) (j : Nat), (xs.map f).eraseIdx j = (xs.eraseIdx j).map f
  | [], _ => rfl
  | _ :: _, 0 => rfl
  | x :: r, j + 1 => by
    show f x :: (r.map f).eraseIdx j = f x :: (r.eraseIdx j).map f
    rw [erase_map f r j]
theorem methd_remove : MethD X "list.remove" gRemove := by
  refine ⟨_, mt_remove, fun N α H q xs ys zs d vs ws Q hq r ra e h => ?_⟩
  unfold gRemove at e
  split at e
  · rename_i k
    cases ra with
    | cons r0 rt =>
      cases rt
      cases r0
      cases ei : intsD xs with
      | none => rw [ei] at e; cases e
      | some ns =>
        rw [ei] at e
        have e : (atI? k ns).map (fun j => (D.non, xs.eraseIdx j)) = some (d, zs) := e
        rw [Option.map_eq_some_iff] at e
        obtain ⟨j, hj, e⟩ := e
        cases e
        obtain ⟨h1, h2⟩ := atI?_spec hj
        have ev : vs = ns.map V.int := rds_intsD ei r
        subst ev
        refine ⟨q, ns, k, j, rfl, rfl, hq, h1, h2, ?_⟩
        have := h .non ((ns.map V.int).eraseIdx j) .non (r.eraseIdx j)
        rw [erase_map] at this
        exact this
  · cases e
/-- o[k] = e -/
theorem ss_putO {i : Expr} (ha : SE X W Γ a fa) (ho : SE X W Γ b fb) (hi : SE X W Γ i fc) (hs : swapsWithSole [.Subscript b i p] a pos.line X.env = pure false := by rfl) (hw : swappedStores [.Subscript b i p] a X.env = pure none := by rfl)
    (h1 : (assignEach [.Subscript b i p] X.env).map (·.2) = [assign (.Subscript b i p) X.env] := by rfl)
    (pg : ∀ {t u : TE}, PE X b t → PE X i u → PG X (.Subscript b i p) (L2.gSub t u rSetL) := by intro t u ht hu; exact pg_sub ht hu set_list) :
    SS X W ρ ΓL Γ (.Assign [.Subscript b i p] a pos) (sPutO fb fa fc) Γ := by
  intro c sl st α σ H Dn R h
  refine ⟨_, ps_asg pe_wp (pg pe_wp pe_wp) hs hw h1, ?_⟩
  refine ha c sl st α σ H _ R ((Vx.R.sat_fl.mp h).imp (fun y s1 hy v α1 H1 R1 S1 r1 => ?_) fun x s1 hx => hx Γ σ)
  refine ho c sl s1 α1 σ H1 _ R1 ((Vx.R.sat_fl.mp hy).imp (fun x s2 hx vx α2 H2 R2 S2 r2 => ?_) fun x s1 hx => hx Γ σ)
  refine hi c sl s2 α2 σ H2 _ R2 ((Vx.R.sat_fl.mp hx).imp (fun z s3 hz w α3 H3 R3 S3 r3 => ?_) fun x s1 hx => hx Γ σ)
  have S23 := S2.trans S3
  cases e3 : Vx.lstAt s3 x with
  | none => simp only [e3] at hz; exact False.elim hz
  | some u =>
    obtain ⟨n, xs⟩ := u
    simp only [e3] at hz
    obtain ⟨q, vs, rfl, hq, hv, rv⟩ := R3.lstAt (r2.step S3.nn) e3
    cases z with
    | int m =>
      cases r3
      cases ej : ixI xs.length m with
      | none => simp only [ej] at hz; exact False.elim hz
      | some j =>
        simp only [ej] at hz
        refine ⟨q, vs, m, j, rfl, rfl, hv, by rw [← rv.length]; exact ej, ?_⟩
        have mq : q ∈ α3 := List.mem_of_getElem? hq
        have S : Stp (NN c Γ σ α3) α3 H3 (NN c Γ σ α3) α3 (upd H3 q (.lst (vs.set j v))) := stp_upd mq
        obtain ⟨R4, S4⟩ := R3.changeO (ob' := .lst (xs.set j y)) (o' := .lst (vs.set j v)) hq ⟨_, upd_same, (rv.set j (r1.step S23.nn)).step S⟩
        exact hz α3 σ _ R4 ((S1.trans (S23.trans S4)).nn)
    | _ => exact False.elim hz

/-! ### instances -/
theorem rds_lookup {f : Str} : ∀ {fs : List (Str × D)} {fs' : List (Str × V)} {d : D}, fs.map (·.1) = fs'.map (·.1) → RDs K N α H (fs.map (·.2)) (fs'.map (·.2)) → fs.lookup f = some d → ∃ v, fs'.lookup f = some v ∧ RD K N α H d v
  | [], _, _, _, _, h => by cases h
  | (g, w) :: r, [], _, e, _, _ => by cases e
  | (g, w) :: r, (g', w') :: r', d, e, q, h => by
    have e1 : g = g' := (List.cons.inj e).1
    subst e1
    cases q with
    | cons q1 q2 =>
      rw [List.lookup_cons] at h ⊢
      cases hb : (f == g) with
      | true => rw [hb] at h; cases h; exact ⟨_, rfl, q1⟩
      | false => rw [hb] at h; exact rds_lookup (List.cons.inj e).2 q2 h
theorem lookup_none {f : Str} : ∀ {fs : List (Str × D)} {fs' : List (Str × V)}, fs.map (·.1) = fs'.map (·.1) → fs.lookup f = none → fs'.lookup f = none
  | [], [], _, _ => rfl
  | [], (_, _) :: _, e, _ => by cases e
  | (g, w) :: r, [], e, _ => by cases e
  | (g, w) :: r, (g', w') :: r', e, h => by
    have e1 : g = g' := (List.cons.inj e).1
    subst e1
    rw [List.lookup_cons] at h ⊢
    cases hb : (f == g) with
    | true => rw [hb] at h; cases h
    | false => rw [hb] at h; exact lookup_none (List.cons.inj e).2 h
theorem rds_putF {f : Str} {d : D} {v : V} (rv : RD K N α H d v) : ∀ {fs : List (Str × D)} {fs' : List (Str × V)}, fs.map (·.1) = fs'.map (·.1) → RDs K N α H (fs.map (·.2)) (fs'.map (·.2)) →
    (putFD f d fs).map (·.1) = (putF f v fs').map (·.1) ∧ RDs K N α H ((putFD f d fs).map (·.2)) ((putF f v fs').map (·.2))
  | [], [], _, _ => ⟨rfl, .cons rv .nil⟩
  | [], (_, _) :: _, e, _ => by cases e
  | (g, w) :: r, [], e, _ => by cases e
  | (g, w) :: r, (g', w') :: r', e, q => by
    have e1 : g = g' := (List.cons.inj e).1
    subst e1
    cases q with
    | cons q1 q2 =>
      unfold putFD putF
      by_cases hb : g = f
      · rw [if_pos hb, if_pos hb]
        exact ⟨congrArg (g :: ·) (List.cons.inj e).2, .cons rv q2⟩
      · rw [if_neg hb, if_neg hb]
        obtain ⟨h1, h2⟩ := rds_putF (f := f) rv (List.cons.inj e).2 q2
        exact ⟨congrArg (g :: ·) h1, .cons q1 h2⟩
/-- o.f -/
theorem se_fld {C : Nat} {f : Str} (cl : Cls X.K C) (na : NoAttr X.K C f) (ho : SE X W Γ a fa) (hbase : attributeBase a f X.env (eval a X.env) = eval a X.env := by rfl) : SE X W Γ (.Attribute a f pos) (mFld C f fa) := by
  intro c sl st α σ H Q R h
  refine ⟨_, pe_fld pe_wp hbase, ?_⟩
  refine ho c sl st α σ H _ R ((Vx.R.sat_bind.mp h).imp (fun x s1 hx vx α1 H1 R1 S1 d1 => ?_) fun _ _ z => z)
  cases e1 : Vx.insAt C s1 x with
  | none => simp only [e1] at hx; exact False.elim hx
  | some w =>
    obtain ⟨n, fs⟩ := w
    simp only [e1] at hx
    obtain ⟨q, dx, fs', rfl, hq, hv, hn, rv⟩ := R1.insAt d1 e1
    cases ef : fs.lookup f with
    | none => rw [ef] at hx; exact False.elim hx
    | some d =>
      rw [ef] at hx
      obtain ⟨v, h1, h2⟩ := rds_lookup hn rv ef
      exact ⟨q, C, dx, fs', v, rfl, hv, cl, na, h1, hx v α1 H1 R1 S1 h2⟩
/-- o.f = e -/
theorem ss_fld {C : Nat} {f : Str} {pos' : Pos} (cl : Cls X.K C) (na : NoAttr X.K C f) (ho : SE X W Γ a fa) (hv : SE X W Γ b fb) (hs : swapsWith b (some (.Attribute a f pos')) pos.line X.env = pure false := by rfl) : SS X W ρ ΓL Γ (.Assign [.Attribute a f pos'] b pos) (sFldD C f fa fb) Γ := by
  intro c sl st α σ H Dn R h
  refine ⟨_, ps_fld pe_wp pe_wp hs, ?_⟩
  refine hv c sl st α σ H _ R ((Vx.R.sat_fl.mp h).imp (fun y s1 hy v α1 H1 R1 S1 r1 => ?_) fun x s1 hx => hx Γ σ)
  refine ho c sl s1 α1 σ H1 _ R1 ((Vx.R.sat_fl.mp hy).imp (fun x s2 hx vx α2 H2 R2 S2 r2 => ?_) fun x s1 hx => hx Γ σ)
  cases e1 : Vx.insAt C s2 x with
  | none => simp only [e1] at hx; exact False.elim hx
  | some w =>
    obtain ⟨n, fs⟩ := w
    simp only [e1] at hx
    obtain ⟨q, dx, fs', rfl, hq, hv, hn, rv⟩ := R2.insAt r2 e1
    by_cases hl : fs.length < 1000
    · rw [if_pos hl] at hx
      have ll : fs'.length < 1000 := by
        have := congrArg List.length hn
        rw [List.length_map, List.length_map] at this
        omega
      refine ⟨q, C, dx, fs', rfl, hv, cl, na, ll, ?_⟩
      have mq : q ∈ α2 := List.mem_of_getElem? hq
      have S : Stp (NN c Γ σ α2) α2 H2 (NN c Γ σ α2) α2 (upd H2 q (.ins C dx (putF f v fs'))) := stp_upd mq
      obtain ⟨g1, g2⟩ := rds_putF (f := f) (r1.step S2.nn) hn rv
      obtain ⟨R4, S4⟩ := R2.changeO (ob' := .ins C (putFD f y fs)) (o' := .ins C dx (putF f v fs')) hq ⟨dx, _, upd_same, g1, g2.step S⟩
      exact hx α2 σ _ R4 ((S1.trans (S2.trans S4)).nn)
    · rw [if_neg hl] at hx
      exact False.elim hx
/-- a method of the class at C -/
structure McalI (P : Program) (w : World) (K : PySem.W.Frag) (mg : Str → Option Value) (base : Heap) (k : Nat) (C : Nat) (x : Str) (ρ : Bool) (m : List D → Sto → R D) : Prop where
  ex : ∃ (q : Addr) (fd : FuncData) (ps : List Str), FnOk P w K mg base CX0 k q fd ps (FSpec K ρ m) ∧ Cls K C ∧ Meth K C x q ∧ Binds K fd ps []
theorem meth_core {C : Nat} {nm : Str} {m : List D → Sto → R D} {fr : FA} {t : TA} {E : XK} (ho : SE X W Γ a fa) (ht : ∀ c sl st α σ H Q, Rel X.K c Γ sl st α σ H → (fr sl st).Sat (fun ds st' => ∀ vs α' H', Rel X.K c Γ sl st' α' σ H' → Ste α H α' H' → RDs X.K (NN c Γ σ α') α' H' ds vs → Q vs H') (PX X.K c Γ sl σ W) → t σ H Q)
    {Q : VK} (R : Rel X.K c Γ sl st α σ H) (h : (Vx.mMeth C nm m fa fr sl st).Sat (PQ X.K c Γ sl α σ H Q) (PX X.K c Γ sl σ W)) : tMeth C nm (FSpec X.K ρ m) [] E (wpE X a) t σ H Q := by
  refine ho c sl st α σ H _ R ((Vx.R.sat_bind.mp h).imp (fun x s1 hx vx α1 H1 R1 S1 d1 => ?_) fun _ _ z => z)
  cases e1 : Vx.insAt C s1 x with
  | none => simp only [e1] at hx; exact False.elim hx
  | some w =>
    obtain ⟨n, fs⟩ := w
    simp only [e1] at hx
    obtain ⟨q, dx, fs', rfl, hq, hv, hn, rv⟩ := R1.insAt d1 e1
    by_cases hl : (fs.lookup nm).isNone = true
    · rw [if_pos hl] at hx
      refine ⟨q, dx, fs', rfl, hv, lookup_none hn (Option.isNone_iff_eq_none.mp hl), ?_⟩
      refine ht c sl s1 α1 σ H1 _ R1 ((Vx.R.sat_bind.mp hx).imp (fun ds s2 hd vs α2 H2 R2 S2 r2 => ?_) fun _ _ z => z)
      rw [List.append_nil]
      refine call_spec R2 (RDs.cons (d1.step S2.nn) r2) ?_
      cases em : m (x :: ds) s2 with
      | ex x s2 => rw [em] at hd; exact False.elim hd
      | no => rw [em] at hd; exact False.elim hd
      | ok d s3 =>
        rw [em] at hd
        have hd : PQ X.K c Γ sl α σ H Q d s3 := hd
        refine ⟨fun v α' H' R' S' r' _ => hd v α' H' R' (S1.trans (S2.trans S')) r', fun _ p o α' H' h0 hp R' S' r' => ?_⟩
        exact hd (.ref p) α' H' R'.drop (S1.trans (S2.trans S')) ((r'.step (.less nn_less)).rd hp (R'.add_ne fun z => R2.bt p z h0))
    · rw [if_neg hl] at hx
      exact False.elim hx
theorem se_m {k j C : Nat} {m : List D → Sto → R D} {fr : FA} {nm : Str} {apos : Pos} {pl : Sem Bool} (M : McalI X.prog X.w X.K X.mg X.base k C nm ρ m) (hr : Room j X.A) (ho : SE X W Γ a fa) (ha : SA X W Γ (e :: es) fr) (hk : k ≤ j := by first | decide | omega)
    (he : starEach (e :: es) X.env = (false, eval e X.env) :: starEach es X.env := by rfl) (hpl : (backTo pos (starEach es X.env)).any (·.1) = false := by rfl)
    (hev : eval (.Call (.Attribute a nm apos) (e :: es) [] pos) X.env = (do
      let ov ← eval a X.env
      standAt apos.atName
      let (f, first) ← holding [ov] (getMethod ov nm pl)
      callWith pos f first (backTo pos (starEach (e :: es) X.env)) (backToKw pos (keywordEach [] X.env))) := by rfl) : SE X W Γ (.Call (.Attribute a nm apos) (e :: es) [] pos) (Vx.mMeth C nm m fa fr) := by
  obtain ⟨q, fd, ps, G, cl, mt, hb⟩ := M.ex
  exact fun c sl st α σ H Q R h => ⟨_, pe_meth pe_wp cl mt G (hr.mono hk) hb .nil pass0 pa_wp he hpl hev, meth_core ho (fun c sl st α σ H Q R h => ha c sl st α σ H Q R h) R h⟩
theorem se_m0 {k j C : Nat} {m : List D → Sto → R D} {nm : Str} {apos : Pos} {pl : Sem Bool} (M : McalI X.prog X.w X.K X.mg X.base k C nm ρ m) (hr : Room j X.A) (ho : SE X W Γ a fa) (hk : k ≤ j := by first | decide | omega)
    (hev : eval (.Call (.Attribute a nm apos) [] [] pos) X.env = (do
      let ov ← eval a X.env
      standAt apos.atName
      let (f, first) ← holding [ov] (getMethod ov nm pl)
      callWith pos f first (backTo pos (starEach [] X.env)) (backToKw pos (keywordEach [] X.env))) := by rfl) : SE X W Γ (.Call (.Attribute a nm apos) [] [] pos) (Vx.mMeth C nm m fa mNil) := by
  obtain ⟨q, fd, ps, G, cl, mt, hb⟩ := M.ex
  refine fun c sl st α σ H Q R h => ⟨_, pe_meth0 pe_wp cl mt G (hr.mono hk) hb .nil pass0 hev, meth_core (fr := mNil) ho (fun c sl st α σ H Q R h => ?_) R h⟩
  exact h [] α H R .refl .nil
/-- the class at C under its name, and its __init__ -/
structure MkI (P : Program) (w : World) (K : PySem.W.Frag) (mg : Str → Option Value) (base : Heap) (k : Nat) (C : Nat) (x : Str) (ρ : Bool) (m : List D → Sto → R D) : Prop where
  ex : ∃ (q : Addr) (fd : FuncData) (ps : List Str), FnOk P w K mg base CX0 k q fd ps (FSpec K ρ m) ∧ mg x = some (.ref C) ∧ Mk K C q ∧ Binds K fd ps []
theorem make_core {C : Addr} {m : List D → Sto → R D} {fr : FA} {t : TA} {E : XK} (ht : ∀ c sl st α σ H Q, Rel X.K c Γ sl st α σ H → (fr sl st).Sat (fun ds st' => ∀ vs α' H', Rel X.K c Γ sl st' α' σ H' → Ste α H α' H' → RDs X.K (NN c Γ σ α') α' H' ds vs → Q vs H') (PX X.K c Γ sl σ W) → t σ H Q)
    {Q : VK} (R : Rel X.K c Γ sl st α σ H) (h : (Vx.mMake C m fr sl st).Sat (PQ X.K c Γ sl α σ H Q) (PX X.K c Γ sl σ W)) : tMake C (FSpec X.K ρ m) [] E t σ H Q := by
  refine ht c sl st α σ H _ R ((Vx.R.sat_bind.mp h).imp (fun ds s1 hd vs α1 H1 R1 S1 r1 => ?_) fun _ _ z => z)
  intro x dx hx hdx hne
  rw [List.append_nil]
  have G1 : Same H1 (upd H1 dx (.own x)) := same_upd hdx
  have R2 := R1.grow G1
  have hx2 : upd H1 dx (.own x) x = none := by rw [upd_ne (show x ≠ dx from fun e => hne e.symm)]; exact hx
  obtain ⟨R3, _⟩ := R2.new (o := .ins C dx []) hx2
  have R4 := R3.push (ob := .ins C []) (fun z => R1.bt x z hx) (R1.fresh0 hx) ⟨dx, [], upd_same, rfl, .nil⟩
  have S4 : Ste α1 H1 (α1 ++ [x]) (upd (upd H1 dx (.own x)) x (.ins C dx [])) := ste_push (.grow (G1.trans (same_upd hx2))) hx
  have rs : RD X.K (NN c Γ σ (α1 ++ [x])) (α1 ++ [x]) (upd (upd H1 dx (.own x)) x (.ins C dx [])) (.obj s1.length) (.ref x) := .obj (by rw [← R1.sto.len, List.getElem?_append_right (Nat.le_refl _), Nat.sub_self]; rfl)
  refine call_spec R4 (RDs.cons rs (r1.step S4.nn)) ?_
  cases em : m (.obj s1.length :: ds) (s1 ++ [.ins C []]) with
  | ex x s2 => rw [em] at hd; exact False.elim hd
  | no => rw [em] at hd; exact False.elim hd
  | ok d s3 =>
    rw [em] at hd
    cases d with
    | non =>
      have hd : PQ X.K c Γ sl α σ H Q (.obj s1.length) s3 := hd
      refine ⟨fun v α' H' R' S' r' _ => ⟨by cases r'; rfl, hd (.ref x) α' H' R' (S1.trans (S4.trans S')) (rs.step S'.nn)⟩, fun _ p o α' H' h0 hp R' S' r' => ?_⟩
      cases o <;> exact False.elim r'
    | _ => exact False.elim hd
theorem se_mk {k j C : Nat} {m : List D → Sto → R D} {fr : FA} (M : MkI X.prog X.w X.K X.mg X.base k C x ρ m) (hr : Room j X.A) (ha : SA X W Γ (e :: es) fr) (hk : k + 1 ≤ j := by first | decide | omega) (hg : Gl X x := by rfl) (hd : (x == ("__debug__" : Str)) = false := by decide)
    (he : starEach (e :: es) X.env = (false, eval e X.env) :: starEach es X.env := by rfl) (hpl : (backTo pos (starEach es X.env)).any (·.1) = false := by rfl) : SE X W Γ (.Call (.Name x p) (e :: es) [] pos) (Vx.mMake C m fr) := by
  obtain ⟨q, fd, ps, G, hm, mk, hb⟩ := M.ex
  exact fun c sl st α σ H Q R h => ⟨_, pe_make mk G (hr.mono hk) hg hm hb .nil pass0 pa_wp hd he hpl, make_core (fun c sl st α σ H Q R h => ha c sl st α σ H Q R h) R h⟩
theorem se_mk0 {k j C : Nat} {m : List D → Sto → R D} (M : MkI X.prog X.w X.K X.mg X.base k C x ρ m) (hr : Room j X.A) (hk : k + 1 ≤ j := by first | decide | omega) (hg : Gl X x := by rfl) (hd : (x == ("__debug__" : Str)) = false := by decide) : SE X W Γ (.Call (.Name x p) [] [] pos) (Vx.mMake C m mNil) := by
  obtain ⟨q, fd, ps, G, hm, mk, hb⟩ := M.ex
  exact fun c sl st α σ H Q R h => ⟨_, pe_make0 mk G (hr.mono hk) hg hm hb .nil pass0 hd, make_core (fr := mNil) (fun c sl st α σ H Q R h => h [] α H R .refl .nil) R h⟩
/-- o.m(..): a new list, ours then -/
def mMethF (C : Nat) (nm : Str) (m : List D → Sto → R D) (o : FE) (a : FA) : FE := fun l s => (Vx.mMeth C nm m o a l s).bind fun d s => if d.isMut = true then .ok d s else .no
theorem meth_coreF {C : Nat} {nm : Str} {m : List D → Sto → R D} {fr : FA} {t : TA} {E : XK} (ho : SE X W Γ a fa) (ht : ∀ c sl st α σ H Q, Rel X.K c Γ sl st α σ H → (fr sl st).Sat (fun ds st' => ∀ vs α' H', Rel X.K c Γ sl st' α' σ H' → Ste α H α' H' → RDs X.K (NN c Γ σ α') α' H' ds vs → Q vs H') (PX X.K c Γ sl σ W) → t σ H Q)
    {Q : VK} (R : Rel X.K c Γ sl st α σ H) (h : (Vx.mMethF C nm m fa fr sl st).Sat (PQf X.K c Γ sl α σ H Q) (PX X.K c Γ sl σ W)) : tMeth C nm (FSpec X.K true m) [] E (wpE X a) t σ H Q := by
  have h := Vx.R.sat_bind.mp h
  refine ho c sl st α σ H _ R ((Vx.R.sat_bind.mp h).imp (fun x s1 hx vx α1 H1 R1 S1 d1 => ?_) fun _ _ z => z)
  cases e1 : Vx.insAt C s1 x with
  | none => simp only [e1] at hx; exact False.elim hx
  | some w =>
    obtain ⟨n, fs⟩ := w
    simp only [e1] at hx
    obtain ⟨q, dx, fs', rfl, hq, hv, hn, rv⟩ := R1.insAt d1 e1
    by_cases hl : (fs.lookup nm).isNone = true
    · rw [if_pos hl] at hx
      refine ⟨q, dx, fs', rfl, hv, lookup_none hn (Option.isNone_iff_eq_none.mp hl), ?_⟩
      refine ht c sl s1 α1 σ H1 _ R1 ((Vx.R.sat_bind.mp hx).imp (fun ds s2 hd vs α2 H2 R2 S2 r2 => ?_) fun _ _ z => z)
      rw [List.append_nil]
      refine call_spec R2 (RDs.cons (d1.step S2.nn) r2) ?_
      cases em : m (x :: ds) s2 with
      | ex x s2 => rw [em] at hd; exact False.elim hd
      | no => rw [em] at hd; exact False.elim hd
      | ok d s3 =>
        rw [em] at hd
        have hd : (if d.isMut = true then .ok d s3 else .no : Vx.R D).Sat (PQf X.K c Γ sl α σ H Q) (PX X.K c Γ sl σ W) := hd
        by_cases hmu : d.isMut = true
        · rw [if_pos hmu] at hd
          have S02 := S1.trans S2
          refine ⟨fun v α' H' R' S' r' hn => ?_, fun _ p o α' H' h0 hp R' S' r' => ?_⟩
          · cases d <;> first | exact absurd rfl (hn rfl _ []).1 | exact absurd rfl (hn rfl [] _).2 | (cases (show false = true from hmu))
          · refine hd p o α' H' ?_ hp R' (S02.trans S') r'
            cases q : H p with
            | none => rfl
            | some u =>
              by_cases mα : p ∈ α
              · obtain ⟨t, e⟩ := S02.pre
                exact absurd h0 (R2.sto.tr (by rw [e]; exact List.mem_append_left _ mα))
              · rw [S02.keep p u q mα] at h0
                cases h0
        · rw [if_neg hmu] at hd
          exact False.elim hd
    · rw [if_neg hl] at hx
      exact False.elim hx
theorem sf_m {k j C : Nat} {m : List D → Sto → R D} {fr : FA} {nm : Str} {apos : Pos} {pl : Sem Bool} (M : McalI X.prog X.w X.K X.mg X.base k C nm true m) (hr : Room j X.A) (ho : SE X W Γ a fa) (ha : SA X W Γ (e :: es) fr) (hk : k ≤ j := by first | decide | omega)
    (he : starEach (e :: es) X.env = (false, eval e X.env) :: starEach es X.env := by rfl) (hpl : (backTo pos (starEach es X.env)).any (·.1) = false := by rfl)
    (hev : eval (.Call (.Attribute a nm apos) (e :: es) [] pos) X.env = (do
      let ov ← eval a X.env
      standAt apos.atName
      let (f, first) ← holding [ov] (getMethod ov nm pl)
      callWith pos f first (backTo pos (starEach (e :: es) X.env)) (backToKw pos (keywordEach [] X.env))) := by rfl) : SF X W Γ (.Call (.Attribute a nm apos) (e :: es) [] pos) (Vx.mMethF C nm m fa fr) := by
  obtain ⟨q, fd, ps, G, cl, mt, hb⟩ := M.ex
  exact fun c sl st α σ H Q R h => ⟨_, pe_meth pe_wp cl mt G (hr.mono hk) hb .nil pass0 pa_wp he hpl hev, meth_coreF ho (fun c sl st α σ H Q R h => ha c sl st α σ H Q R h) R h⟩
theorem sf_m0 {k j C : Nat} {m : List D → Sto → R D} {nm : Str} {apos : Pos} {pl : Sem Bool} (M : McalI X.prog X.w X.K X.mg X.base k C nm true m) (hr : Room j X.A) (ho : SE X W Γ a fa) (hk : k ≤ j := by first | decide | omega)
    (hev : eval (.Call (.Attribute a nm apos) [] [] pos) X.env = (do
      let ov ← eval a X.env
      standAt apos.atName
      let (f, first) ← holding [ov] (getMethod ov nm pl)
      callWith pos f first (backTo pos (starEach [] X.env)) (backToKw pos (keywordEach [] X.env))) := by rfl) : SF X W Γ (.Call (.Attribute a nm apos) [] [] pos) (Vx.mMethF C nm m fa mNil) := by
  obtain ⟨q, fd, ps, G, cl, mt, hb⟩ := M.ex
  refine fun c sl st α σ H Q R h => ⟨_, pe_meth0 pe_wp cl mt G (hr.mono hk) hb .nil pass0 hev, meth_coreF (fr := mNil) ho (fun c sl st α σ H Q R h => ?_) R h⟩
  exact h [] α H R .refl .nil
end
/-- a method of the text, as it stands behind the top -/
structure MDfn (K : PySem.W.Frag) (C : Nat) (x qual : Str) (st : Stmt) (ps : List Str) : Prop where
  ex : ∃ (q : Addr) (fd : FuncData), Fun K x qual st q fd ∧ Cls K C ∧ Meth K C x q ∧ Binds K fd ps []
structure IDfn (K : PySem.W.Frag) (mg : Str → Option Value) (C : Nat) (x qual : Str) (st : Stmt) (ps : List Str) : Prop where
  ex : ∃ (q : Addr) (fd : FuncData), Fun K "__init__" qual st q fd ∧ mg x = some (.ref C) ∧ Mk K C q ∧ Binds K fd ps []
section
variable {P : Program} {w : World} {K : PySem.W.Frag} {mg : Str → Option Value} {base : Heap} {ρ : Bool}
theorem mcal_of {C : Nat} {x qual : Str} {stm : Stmt} {N ps : List Str} {k n p : Nat} {fb : FS} {Γ0 ΓL Γ' : List Bool} (F : MDfn K C x qual stm ps) (S : FnScope N ps (defScope stm))
    (hb : ∀ (q : Addr) (cdv : Value) (A : Around) (outer : List Env) (s : Shared) (H : Hp) (E : XK), Room k (A.deeper (PyProof.Rows.envOfC qual (defScope stm) s.heap.objs.size q cdv)) → SSs (cxOf CX0 P w K mg base N qual (defScope stm) q cdv A outer s H E).nox W0 ρ ΓL Γ0 (defBody stm) fb Γ')
    (hn : N.length = n := by rfl) (hp : ps.length = p := by rfl) (hΓ : List.replicate n false = Γ0 := by rfl) : McalI P w K mg base (k + 1) C x ρ (mDef n p fb) := by
  obtain ⟨q, fd, F, cl, mt, hbd⟩ := F.ex
  subst hn hp hΓ
  exact ⟨q, fd, ps, fn_ok F S (hb q), cl, mt, hbd⟩
theorem mki_of {C : Nat} {x qual : Str} {stm : Stmt} {N ps : List Str} {k n p : Nat} {fb : FS} {Γ0 ΓL Γ' : List Bool} (F : IDfn K mg C x qual stm ps) (S : FnScope N ps (defScope stm))
    (hb : ∀ (q : Addr) (cdv : Value) (A : Around) (outer : List Env) (s : Shared) (H : Hp) (E : XK), Room k (A.deeper (PyProof.Rows.envOfC qual (defScope stm) s.heap.objs.size q cdv)) → SSs (cxOf CX0 P w K mg base N qual (defScope stm) q cdv A outer s H E).nox W0 ρ ΓL Γ0 (defBody stm) fb Γ')
    (hn : N.length = n := by rfl) (hp : ps.length = p := by rfl) (hΓ : List.replicate n false = Γ0 := by rfl) : MkI P w K mg base (k + 1) C x ρ (mDef n p fb) := by
  obtain ⟨q, fd, F, hm, mk, hbd⟩ := F.ex
  subst hn hp hΓ
  exact ⟨q, fd, ps, fn_ok F S (hb q), hm, mk, hbd⟩
end
end Vx

namespace Vx
open PySem PySem.Spec PyProof.Rows L2
variable [Wd]
theorem extend_ll (l b : Addr) (xs ys : Array Value) (n m : Nat) (sl : Array (Option Value)) (c0 : ¬ (!xs.isEmpty && Builtin.List.listTooLong (xs.size + ys.size)) = true) (c1 : xs.size ≤ sizeLine) (c2 : xs.size + ys.size ≤ sizeLine + 1) :
    Meets (Builtin.«list.extend» ⟨[.ref l, .ref b], []⟩) (fun _ R s => s.heap.get? l = some ⟨.type "list", none, .seq xs n, #[]⟩ ∧ s.heap.get? b = some ⟨.type "list", none, .seq ys m, sl⟩ ∧ R (.ok (.ret .none)) { s with heap := s.heap.update l (Obj.mapSeq fun z => z ++ ys), toks := s.toks }) := by
  refine .of_wp fun prog w A R s h => ?_
  obtain ⟨hp, gs, dr, tk, oo⟩ := s
  obtain ⟨h1, h2, h3⟩ := h
  have t1 := AutoSeq1.idx_int
  have t2 := AutoSeq1.sub_tuple_tuple
  have t3 := AutoSeq1.sub_list_list
  have t4 := AutoSeq1.sub_tuple_list
  have t5 := AutoSeq1.sub_list_tuple
  have c3 : (xs ++ ys).size ≤ sizeLine + 1 := by simpa using c2
  wp_walk using (wpAny_updateSeq h1 rfl (hz := c1) (_hz' := c3)), AutoSeq1.wpAny_loadPart' h1, AutoSeq1.wpAny_loadPart' h2
  exact ⟨_, rfl, h3⟩
def rExtS (K : PySem.W.Frag) : V → List V → Hp → VK → Prop := fun x vs H Q => ∃ l b xs zs, x = .ref l ∧ vs = [.ref b] ∧ H l = some (.lst xs) ∧ SqL K H b zs ∧ xs.length + zs.length ≤ sizeLine ∧ Q .non (upd H l (.lst (xs ++ zs)))
theorem mt_extS {X : Cx} : MtR X "list.extend" (rExtS X.K) := by
  intro pins s σ H x vs v us Q I rx rv h
  obtain ⟨l, b, xs, zs, rfl, rfl, hH, hB, hzz, qq⟩ := h
  cases rx
  obtain ⟨u, rfl, ru⟩ := rv.one
  cases ru
  obtain ⟨zl, its, n, r, hl, e⟩ := I.lstM hH
  obtain ⟨its2, r2, ⟨o, n2, e2, o1, o2, o3⟩, z2⟩ := I.list hB
  have hl2 := r2.length
  obtain ⟨cls, dict, data, sl⟩ := o
  simp only at o1 o2 o3
  subst o1 o2 o3
  have hsz : its.toArray.size + its2.toArray.size ≤ sizeLine := by simp; omega
  have hlong : ¬ (!its.toArray.isEmpty && Builtin.List.listTooLong (its.toArray.size + its2.toArray.size)) = true := fun hb => by
    rw [notLongL hsz] at hb
    simp at hb
  exact call_meets F.slot_list_extend ⟨_, e, rfl⟩ F.entry_list_extend (F.args_list_extend_2 _ _)
    (extend_ll l b its.toArray its2.toArray n n2 sl hlong (by rw [List.size_toArray]; omega) (by omega)) ⟨e, e2, ⟨.non, _, I.lset (its' := its ++ its2) hH e (by simp) (r.append r2) (by simp; omega), rfl, qq⟩⟩

def gExtend (xs ys : List D) : Option (D × List D) := match ys with
  | [.lst zs] => if szOk (xs.length + zs.length) = true then some (.non, xs ++ zs) else none
  | _ => none
theorem methd_extend {X : Cx} : MethD X "list.extend" gExtend := by
  refine ⟨_, mt_extS, fun N α H q xs ys zs d vs ws Q hq r ra e h => ?_⟩
  unfold gExtend at e
  split at e
  · rename_i us
    cases ra with
    | cons r0 rt =>
      cases rt
      obtain ⟨hc, e⟩ := ite_some e
      cases e
      cases r0 with
      | lst n hr rv => exact ⟨q, _, vs, _, rfl, rfl, hq, sqL_of hr, by rw [← r.length, ← rv.length]; exact szOk_le hc, h .non _ .non (r.append rv)⟩
      | lstK hk rv => exact ⟨q, _, vs, _, rfl, rfl, hq, hk.sq, by rw [← r.length, ← rv.length]; exact szOk_le hc, h .non _ .non (r.append rv)⟩
  · cases e
end Vx
namespace Vx
open PySem PySem.Spec L2
variable [Wd]
/-- for .. in a list of the store: its items as they are at each turn -/
def forO (g : D → Sl → Option Sl) (b : FS) (x : D) : Nat → Nat → Sl → Sto → Fl
  | 0, _, _, _ => .no
  | n + 1, i, l, s => match lstAt s x with
    | none => .no
    | some p => match p.2[i]? with
      | none => .nx l s
      | some d => match g d l with
        | none => .no
        | some l1 => match b l1 s with
          | .nx l2 s2 => forO g b x n (i + 1) l2 s2
          | .ct l2 s2 => forO g b x n (i + 1) l2 s2
          | .bk l2 s2 => .nx l2 s2
          | f => f
def sForO (o : FE) (g : D → Sl → Option Sl) (b : FS) : FS := fun l s => (o l s).fl l fun x s => forO g b x bigN 0 l s
section
variable {X : Cx} {W : WXc} {ρ : Bool} {Γ ΓL : List Bool} {fa : FE} {pos : Pos}
theorem ss_forO {tg iter : Expr} {body : List Stmt} {is : List Nat} {g : D → Sl → Option Sl} {fb : FS} (hp : PassesOwn (model X.prog X.w) X.A X.env X.xe) (hc : X.calm = true) (hi : SE X W Γ iter fa) (hg : SG X tg is g) (hb : SSs X W ρ Γ Γ body fb Γ) (hΓ : ∀ i ∈ is, Γ[i]? ≠ some true := by decide)
    (hs : ∀ x, foldedSetIterable iter X.env x = pure x := by intro _; rfl) : SS X W ρ ΓL Γ (.For tg iter body [] pos) (sForO fa g fb) Γ := by
  intro c sl st α σ H Dn R h
  refine ⟨_, ps_for hp hc (pi_list pe_wp) pg_wp pss_wp hs, ?_⟩
  refine hi c sl st α σ H _ R ((Vx.R.sat_fl.mp h).imp (fun x s1 hd v α1 H1 R1 S1 r1 => ?_) fun x s1 hx => hx Γ σ)
  cases e0 : Vx.lstAt s1 x with
  | none =>
    unfold bigN forO at hd
    simp only [e0] at hd
    exact False.elim hd
  | some w =>
    obtain ⟨n0, xs0⟩ := w
    obtain ⟨q, vs0, rfl, hq, hv, rv⟩ := R1.lstAt r1 e0
    obtain ⟨rfl, _⟩ := lstAt_some e0
    refine ⟨q, rfl, ⟨vs0, sqL_of (.of hv)⟩, ?_⟩
    refine ⟨fun i m σ' H' => ∃ sl' st' α', Rel X.K c Γ sl' st' α' σ' H' ∧ α'[n0]? = some q ∧ Stp (NN c Γ σ α1) α1 H1 (NN c Γ σ' α') α' H' ∧ FQ X.K W ρ ΓL c Γ α' σ' H' Dn Γ (forO g fb (.obj n0) m i sl' st'), ⟨bigN, sl, s1, α1, R1, hq, .refl, FQ.from S1.nn hd⟩, ?_⟩
    rintro i m σ2 H2 ⟨sl2, st2, α2, R2, hq2, S2, q2⟩
    cases m with
    | zero => exact False.elim q2
    | succ m =>
      unfold forO at q2
      cases e2 : Vx.lstAt st2 (.obj n0) with
      | none => simp only [e2] at q2; exact False.elim q2
      | some w =>
        obtain ⟨n2, xs⟩ := w
        simp only [e2] at q2
        obtain ⟨q', vs, eq2, hq3, hv2, rv2⟩ := R2.lstAt (.obj hq2) e2
        cases eq2
        have hS : SqL X.K H2 q vs := sqL_of (.of hv2)
        cases ei : xs[i]? with
        | none =>
          simp only [ei] at q2
          have hge : xs.length ≤ i := List.getElem?_eq_none_iff.mp ei
          exact .inl ⟨⟨vs, hS, by rw [← rv2.length]; exact hge⟩, q2 α2 σ2 H2 R2 .refl⟩
        | some d =>
          simp only [ei] at q2
          obtain ⟨vv, g1, g2⟩ := rv2.get ei
          refine .inr ⟨⟨vs, vv, hS, g1⟩, fun σ' H' => ∃ sl' st' α', Rel X.K c Γ sl' st' α' σ' H' ∧ α'[n0]? = some q ∧ Stp (NN c Γ σ α1) α1 H1 (NN c Γ σ' α') α' H' ∧ FQ X.K W ρ ΓL c Γ α' σ' H' Dn Γ (forO g fb (.obj n0) m (i + 1) sl' st'), ?_, ?_⟩
          · rintro σ' H' ⟨sl', st', α', h1, h2, h3, h4⟩
            exact ⟨m, Nat.lt_succ_self _, sl', st', α', h1, h2, h3, h4⟩
          · intro x H3 hy
            obtain ⟨rfl, hy⟩ := hy
            have ex := hy vs hS
            rw [g1] at ex
            cases ex
            cases eg : g d sl2 with
            | none => simp only [eg] at q2; exact False.elim q2
            | some l1 =>
              simp only [eg] at q2
              refine hg c Γ sl2 st2 α2 σ2 _ _ _ l1 _ hΓ R2 g2 eg fun σ4 R4 hl _ _ => ?_
              have S4 : Stp (NN c Γ σ2 α2) α2 H3 (NN c Γ σ4 α2) α2 H3 := stp_loc hl
              refine hb c l1 st2 α2 σ4 H3 _ R4 (loop_body (c0 := c) (FQ.from S4 q2).sat fun l s hq α' σ' H' R' S' => ?_)
              exact ⟨l, s, α', R', S'.at_ hq2, S2.trans (S4.trans S'), FQ.from S' hq⟩
end
end Vx

/-! VCompO: comprehensions over lists of the store. -/
namespace Vx
open PySem PySem.Spec L2
variable [Wd]
def compO (g : D → Sl → Option Sl) (t : FT) (e : FE) (l : Sl) (x : D) : Nat → Nat → List D → Sto → R D
  | 0, _, _, _ => .no
  | n + 1, i, acc, s => match lstAt s x with
    | none => .no
    | some p => match p.2[i]? with
      | none => .ok (.lst acc) s
      | some d => match g d l with
        | none => .no
        | some l1 => (t l1 s).nox.bind fun b s => if b = true then (e l1 s).nox.bind fun y s => if acc.length < 16777216 then compO g t e l x n (i + 1) (acc ++ [y]) s else .no else compO g t e l x n (i + 1) acc s
def mCompO (o : FE) (g : D → Sl → Option Sl) (t : FT) (e : FE) (vs : List Nat) : FE := fun l s => (o l s).bind fun x s => compO g t e (wipeD l vs) x bigN 0 [] s
section
variable {X : Cx} {W : WXc} {ρ : Bool} {Γ Γ' Γ'' ΓL : List Bool} {e a b : Expr} {es : List Expr} {s : Stmt} {ss : List Stmt} {f fa fb fc : FE} {x : Str} {pos p : Pos} {g1 g2 : FS}
variable {K : PySem.W.Frag} {N T : Addr → Prop} {α α' : List Addr} {H H' : Hp} {c c' : Cz} {sl : Sl} {st st' : Sto} {σ : St}

theorem comp_coreO {tg iter elt : Expr} {ifs : List Expr} {scope : Scope} {own : List (Str × Nat)} {is : List Nat} {g : D → Sl → Option Sl} {it : FE} {t : FT} {f : FE}
    (hi : SE X W Γ iter it) (hg : ∀ (s : Shared) (H : Hp) (C : Addr) (cl : List (Str × Addr)) (fp : List Addr), SG (X.blk s H scope (compEnvC scope cl C X.env) fp) tg is g) (hgo : TgOk is g) (his : ∀ i ∈ is, i ∈ own.map (·.2))
    (ht : ∀ (s : Shared) (H : Hp) (C : Addr) (cl : List (Str × Addr)) (fp : List Addr), STs (X.blk s H scope (compEnvC scope cl C X.env) fp) W0 Γ ifs t) (he : ∀ (s : Shared) (H : Hp) (C : Addr) (cl : List (Str × Addr)) (fp : List Addr), SE (X.blk s H scope (compEnvC scope cl C X.env) fp) W0 Γ elt f)
    (hΓ : ∀ i ∈ own.map (·.2), Γ[i]? ≠ some true) {Q : VK} (R : Rel X.K c Γ sl st α σ H) (h : (mCompO it g t f (own.map (·.2)) sl st).Sat (PQf X.K c Γ sl α σ H Q) (PX X.K c Γ sl σ W)) :
    tLc (iList X.K (wpE X iter)) (gU X scope tg)
      (tU X scope ifs)
      (eU X scope elt) (own.map (·.2)) σ H Q := by
  generalize hvs : own.map (·.2) = vs at *
  refine hi c sl st α σ H _ R ((Vx.R.sat_bind.mp h).imp (fun xd s1 hd v1 α1 H1 R1 S1 hJ => ?_) fun _ _ z => z)
  cases e0 : Vx.lstAt s1 xd with
  | none =>
    unfold bigN compO at hd
    simp only [e0] at hd
    exact False.elim hd
  | some w0 =>
  obtain ⟨n0, xs0⟩ := w0
  obtain ⟨q0, vs0, rfl, hq0, hv0, rv0⟩ := R1.lstAt hJ e0
  obtain ⟨rfl, _⟩ := lstAt_some e0
  refine ⟨q0, rfl, ⟨vs0, sqL_of (.of hv0)⟩, ?_⟩
  intro Dl hD
  obtain ⟨R1', SD⟩ := R1.new (o := .lst []) hD
  have dα : ∀ {α' : List Addr} {H' : Hp}, Ste α1 H1 α' H' → Dl ∈ α' → Dl ∈ α1 ∨ H1 Dl = none := fun S m => S.new Dl m
  refine ⟨fun i m H' => ∃ acc accV st' α', H' Dl = some (.lst accV) ∧ Rel X.K (c.add Dl) Γ (wipeD sl vs) st' α' (wipe σ vs) H' ∧ Ste α1 H1 α' H' ∧ RDs X.K (NN (c.add Dl) Γ (wipe σ vs) α') α' H' acc accV ∧
    (compO g t f (wipeD sl vs) (.obj n0) m i acc st').Sat (PQf X.K c Γ sl α σ H Q) (PX X.K c Γ sl σ W), ⟨bigN, [], [], s1, α1, upd_same, (R1'.wiped hΓ).1, .grow (same_upd hD), .nil, hd⟩, ?_⟩
  rintro i m H2 ⟨acc, accV, st2, α2, hD2, R2, S2, r2, q2⟩
  have lw := (R1'.wiped hΓ).2
  have hq2 : α2[n0]? = some q0 := (S2.nb (c := c)).at_ hq0
  cases m with
  | zero => exact False.elim q2
  | succ m =>
  unfold compO at q2
  cases e2 : Vx.lstAt st2 (.obj n0) with
  | none => simp only [e2] at q2; exact False.elim q2
  | some w2 =>
  obtain ⟨n2, xs⟩ := w2
  simp only [e2] at q2
  obtain ⟨q', vs2, eq2, hq3, hv2, rv2⟩ := R2.lstAt (.obj hq2) e2
  cases eq2
  have hSq : SqL X.K H2 q0 vs2 := sqL_of (.of hv2)
  cases ei : xs[i]? with
  | some dd =>
    simp only [ei] at q2
    obtain ⟨vv, g1, g2⟩ := rv2.get ei
    refine .inr ⟨⟨vs2, vv, hSq, g1⟩, fun H' => ∃ acc accV st' α', H' Dl = some (.lst accV) ∧ Rel X.K (c.add Dl) Γ (wipeD sl vs) st' α' (wipe σ vs) H' ∧ Ste α1 H1 α' H' ∧ RDs X.K (NN (c.add Dl) Γ (wipe σ vs) α') α' H' acc accV ∧
      (compO g t f (wipeD sl vs) (.obj n0) m (i + 1) acc st').Sat (PQf X.K c Γ sl α σ H Q) (PX X.K c Γ sl σ W), ?_, ?_⟩
    · rintro H' ⟨acc', accV', st', α', h1, h2, h3, h4, h5⟩
      exact ⟨m, Nat.lt_succ_self _, acc', accV', st', α', h1, h2, h3, h4, h5⟩
    · intro x H3 hy
      obtain ⟨eh, hy⟩ := hy
      subst eh
      have ex := hy vs2 hSq
      rw [g1] at ex
      cases ex
      have G : Same H3 H3 := Same.refl _
      have rx := g2
      have R3 := R2.grow G
      cases eg : g dd (wipeD sl vs) with
      | none => simp only [eg] at q2; exact False.elim q2
      | some l1 =>
        simp only [eg] at q2
        obtain ⟨gl, go'⟩ := hgo _ _ _ eg
        intro s9 H9 C9 cl9 fp9
        refine hg s9 H9 C9 cl9 fp9 (c.add Dl) Γ (wipeD sl vs) st2 α2 (wipe σ vs) H3 _ _ l1 _ (fun i m => hΓ i (his i m)) R3 rx eg fun σ4 R4 hl4 ln4 at4 => ?_
        have w4 : wipe σ4 vs = wipe σ vs := by
          have e1 : wipe σ4 vs = wipe (wipe σ vs) vs := wipe_same ln4 fun i hi => at4 i fun m => hi (his i m)
          rw [e1]
          exact wipe_same (wipe_length _ _) fun i hi => by rw [wipe_get, if_neg hi]
        have wl : wipeD l1 vs = wipeD sl vs := by
          have e1 : wipeD l1 vs = wipeD (wipeD sl vs) vs := wipeD_same gl fun i hi => go' i fun m => hi (his i m)
          rw [e1]
          exact wipeD_same (wipeD_length _ _) fun i hi => by rw [wipeD_get, if_neg hi]
        refine ⟨w4, ?_⟩
        have back : ∀ {st' : Sto} {α' : List Addr} {H' : Hp}, Rel X.K (c.add Dl) Γ l1 st' α' σ4 H' → Rel X.K (c.add Dl) Γ (wipeD sl vs) st' α' (wipe σ vs) H' := fun R' => by
          have := (R'.wiped hΓ).1
          rw [w4, wl] at this
          exact this
        have S3 : Ste α1 H1 α2 H3 := S2.trans (.grow G)
        have hD3 := G _ _ hD2
        have nnL : ∀ α' a, NN (c.add Dl) Γ (wipe σ vs) α' a ↔ NN (c.add Dl) Γ σ4 α' a := fun α' a => by
          unfold NN
          rw [hl4]
        intro s8 H8 C8 cl8 fp8
        refine ht s8 H8 C8 cl8 fp8 (c.add Dl) l1 st2 α2 σ4 H3 _ R4 (Vx.R.sat_nox (E := fun _ _ => True) ((Vx.R.sat_bind.mp q2).imp (fun k s5 hk α5 H5 R5 S5 => ?_) fun _ _ _ => trivial))
        have dα5 : Dl ∉ α2 := fun m => R3.αB Dl m (.inr rfl)
        have hD5 := S5.keep Dl _ hD3 dα5
        have r5 : RDs X.K (NN (c.add Dl) Γ (wipe σ vs) α5) α5 H5 acc accV := ((r2.step (.grow G)).step S5.nn : RDs X.K (NN (c.add Dl) Γ (wipe σ vs) α5) α5 H5 acc accV)
        cases k with
        | false =>
          rw [if_neg Bool.false_ne_true] at hk ⊢
          exact ⟨acc, accV, s5, α5, hD5, back R5, S3.trans S5, r5, hk⟩
        | true =>
          rw [if_pos rfl] at hk ⊢
          intro s7 H7 C7 cl7 fp7
          refine he s7 H7 C7 cl7 fp7 (c.add Dl) l1 s5 α5 σ4 H5 _ R5 (Vx.R.sat_nox (E := fun _ _ => True) ((Vx.R.sat_bind.mp hk).imp (fun y s6 hy6 vy α6 H6 R6 S6 ry => ?_) fun _ _ _ => trivial))
          have dα6 : Dl ∉ α5 := fun m => R5.αB Dl m (.inr rfl)
          have hD6 := S6.keep Dl _ hD5 dα6
          have r6 := r5.step S6.nn
          by_cases hz : acc.length < 16777216
          · rw [if_pos hz] at hy6
            refine ⟨accV, hD6, by rw [← r6.length, sizeLine_eq]; exact hz, ?_⟩
            obtain ⟨R7, S7⟩ := (back R6).barred (o' := .lst (accV ++ [vy])) hD6 (R1.fresh0 hD)
            refine ⟨acc ++ [y], accV ++ [vy], s6, α6, upd_same, R7, ?_, (r6.append (.cons (ry.step (.less fun a z => (nnL α6 a).mp z)) .nil)).step S7, hy6⟩
            have S16 := S3.trans (S5.trans S6)
            exact ⟨S16.pre, S16.new, fun a o e n => by rw [upd_ne (ne_of_none e hD)]; exact S16.keep a o e n⟩
          · rw [if_neg hz] at hy6
            exact False.elim hy6
  | none =>
    simp only [ei] at q2
    have hge : xs.length ≤ i := List.getElem?_eq_none_iff.mp ei
    refine .inl ⟨⟨vs2, hSq, by rw [← rv2.length]; exact hge⟩, ?_⟩
    have q2 : PQf X.K c Γ sl α σ H Q (.lst acc) st2 := q2
    have nn2 : ∀ a, NN (c.add Dl) Γ σ α2 a ↔ NN (c.add Dl) Γ (wipe σ vs) α2 a := fun a => by
      unfold NN
      rw [lw]
    have R3 : Rel X.K (c.add Dl) Γ sl st2 α2 σ H2 := R1.carry S2 (fun a z => z.elim .inl fun z => .inr ⟨by rw [z]; exact hD, by rw [z, hD2]; exact (fun z => nomatch z), by rw [z]; exact fun m => R2.αB Dl m (.inr rfl)⟩) rfl rfl
      (R2.sto.step (.less fun a z => (nn2 a).mp z) fun _ _ => rfl) fun a m z => R2.αB a m (.inl z)
    refine q2 Dl (.lst accV) α2 H2 ?_ hD2 R3 (S1.trans S2) (r2.step (.less fun a z => (nn2 a).mp z))
    cases q : H Dl with
    | none => rfl
    | some o =>
      by_cases mα : Dl ∈ α
      · obtain ⟨t, e⟩ := S1.pre
        exact absurd hD (R1.sto.tr (by rw [e]; exact List.mem_append_left _ mα))
      · rw [S1.keep Dl o q mα] at hD
        cases hD
theorem sf_compO {tg iter elt : Expr} {ifs : List Expr} {scope : Scope} {own : List (Str × Nat)} {is vs : List Nat} {g : D → Sl → Option Sl} {it : FE} {t : FT} {f : FE} (hc : X.calm = true) (hN : X.N.Nodup) (hi : SE X W Γ iter it) (ok : BlkOk X.N X.env.scope scope own)
    (hg : ∀ (s : Shared) (H : Hp) (C : Addr) (cl : List (Str × Addr)) (fp : List Addr), SG (X.blk s H scope (compEnvC scope cl C X.env) fp) tg is g) (hgo : TgOk is g) (his : ∀ i ∈ is, i ∈ vs)
    (ht : ∀ (s : Shared) (H : Hp) (C : Addr) (cl : List (Str × Addr)) (fp : List Addr), STs (X.blk s H scope (compEnvC scope cl C X.env) fp) W0 Γ ifs t) (he : ∀ (s : Shared) (H : Hp) (C : Addr) (cl : List (Str × Addr)) (fp : List Addr), SE (X.blk s H scope (compEnvC scope cl C X.env) fp) W0 Γ elt f)
    (hΓ : ∀ i ∈ vs, Γ[i]? ≠ some true) (hs : ∀ x, foldedSetIterable iter X.env x = pure x := by intro _; rfl) (hvs : own.map (·.2) = vs := by rfl) : SF X W Γ (.ListComp elt [⟨tg, iter, ifs, 0⟩] scope pos) (mCompO it g t f vs) := by
  subst hvs
  intro c sl st α σ H Q R h
  exact ⟨_, pe_lc hc hN (pi_list pe_wp) ok pg_gU pt_tU pe_eU hs, comp_coreO hi hg hgo his ht he hΓ R h⟩
end
end Vx

/-! VRep: a new list times an int. -/
namespace Vx
open PySem PySem.Spec L2
variable [Wd]
def gRep : D → D → Option D
  | .lst xs, .int k => if (decide (0 ≤ k) && decide (k < 16777216) && szOk (xs.length * k.toNat)) = true then some (.lst (List.replicate k.toNat xs).flatten) else none
  | _, _ => none
def mRep (a b : FE) : FE := fun l s => (a l s).bind fun x s => (b l s).nox.bind fun y s => liftO (gRep x y) s
section
variable {X : Cx} {W : WXc} {ρ : Bool} {Γ Γ' Γ'' ΓL : List Bool} {e a b : Expr} {es : List Expr} {s : Stmt} {ss : List Stmt} {f fa fb fc : FE} {x : Str} {pos p : Pos} {g1 g2 : FS}
variable {K : PySem.W.Frag} {N T : Addr → Prop} {α α' : List Addr} {H H' : Hp} {c c' : Cz} {sl : Sl} {st st' : Sto} {σ : St}
theorem RDs.rep {xs : List D} {vs : List V} (r : RDs K N α H xs vs) : ∀ n : Nat, RDs K N α H (List.replicate n xs).flatten (List.replicate n vs).flatten
  | 0 => .nil
  | n + 1 => by
    rw [List.replicate_succ, List.replicate_succ, List.flatten_cons, List.flatten_cons]
    exact r.append (RDs.rep r n)
theorem sf_rep (ha : SF X W Γ a fa) (hb : SE X W0 Γ b fb) : SF X W Γ (.BinOp a .Mult b pos) (mRep fa fb) := by
  intro c sl st α σ H Q R h
  refine ⟨_, pe_op op_rep pe_wp pe_wp, ?_⟩
  refine ha c sl st α σ H _ R ((Vx.R.sat_bind.mp h).imp (fun x s1 hx p o α1 H1 hp ho R1 S1 r1 => ?_) fun _ _ z => z)
  refine hb (c.add p) sl s1 α1 σ H1 _ R1 (Vx.R.sat_nox (E := fun _ _ => True) ((Vx.R.sat_bind.mp hx).imp (fun y s2 hy vy α2 H2 R2 S2 d2 => ?_) fun _ _ _ => trivial))
  cases eg : gRep x y with
  | none => rw [eg] at hy; exact False.elim hy
  | some d =>
    rw [eg] at hy
    unfold gRep at eg
    split at eg
    · rename_i xs k
      obtain ⟨hc, rfl⟩ := ite_some eg
      simp only [Bool.and_eq_true, decide_eq_true_eq] at hc
      obtain ⟨⟨h0, h1⟩, h2⟩ := hc
      cases d2
      cases o with
      | lst vs =>
        have rl : RDs X.K (NN (c.add p) Γ σ α1) α1 H1 xs vs := r1
        have dα : p ∉ α1 := fun m => R1.αB p m (.inr rfl)
        have hp2 := S2.keep p _ ho dα
        have hl := szOk_le h2
        refine ⟨p, k, vs, rfl, rfl, hp2, by omega, by omega, by rw [← rl.length]; exact hl, fun q hq => ?_⟩
        have r2 : RDs X.K (NN c Γ σ α2) α2 H2 xs vs := (rl.step S2.nn).step (.less nn_less)
        exact PQf.new (o := .lst (List.replicate k.toNat vs).flatten) hy R2.drop (S1.trans S2) (fun _ m => R.sto.tr m) hq (r2.rep k.toNat)
      | _ => exact False.elim r1
    · cases eg
end
end Vx

/-! VAddO: + of two lists that stand in the store, as a new list. -/
namespace Vx
open PySem PySem.Spec L2
variable [Wd]
section
variable {X : Cx} {W : WXc} {Γ : List Bool} {a b : Expr} {fa fb : FE} {pos : Pos}
theorem sf_addO (ha : SB X W Γ a fa) (hb : SB X W Γ b fb) : SF X W Γ (.BinOp a .Add b pos) (mBinO gAddL fa fb) := by
  intro c sl st α σ H Q R h
  refine ⟨_, pe_op op_catS pe_wp pe_wp, ?_⟩
  refine ha c sl st α σ H _ R ((Vx.R.sat_bind.mp h).imp (fun x s1 hx vx α1 H1 R1 S1 d1 => ?_) fun _ _ z => z)
  refine hb c sl s1 α1 σ H1 _ R1 ((Vx.R.sat_bind.mp hx).imp (fun y s2 hy vy α2 H2 R2 S2 d2 => ?_) fun _ _ z => z)
  have e1 := RB.drf R2 (d1.step S2.nb S2.nn)
  have e2 := RB.drf R2 d2
  cases eg : gAddL (drf s2 x) (drf s2 y) with
  | none => rw [eg] at hy; exact False.elim hy
  | some d =>
    rw [eg] at hy
    generalize drf s2 x = x' at eg e1
    generalize drf s2 y = y' at eg e2
    unfold gAddL at eg
    split at eg
    · obtain ⟨hc, rfl⟩ := ite_some eg
      obtain ⟨q, vs, rfl, hs, r⟩ := e1.lst
      obtain ⟨q2, ws, rfl, hs2, r2⟩ := e2.lst
      exact ⟨q, q2, vs, ws, rfl, rfl, hs, hs2, by rw [← r.length, ← r2.length]; exact szOk_le hc, fun p hp => PQf.new hy R2 (S1.trans S2) (fun _ m => R.sto.tr m) hp (r.append r2)⟩
    · cases eg
end
section
variable {X : Cx} {W : WXc} {ρ : Bool} {Γ Γ' Γ'' ΓL : List Bool} {e a b : Expr} {es : List Expr} {s : Stmt} {ss : List Stmt} {f fa fb fc : FE} {x : Str} {pos p : Pos} {g1 g2 : FS}
variable {K : PySem.W.Frag} {N T : Addr → Prop} {α α' : List Addr} {H H' : Hp} {c c' : Cz} {sl : Sl} {st st' : Sto} {σ : St}
/-- name = [..] on one line, the name a local -/
theorem ss_setLcO (i : Nat) {y : Str} {py : Pos} {tg iter elt : Expr} {ifs : List Expr} {scope : Scope} {own : List (Str × Nat)} {is vs : List Nat} {g : D → Sl → Option Sl} {it : FE} {t : FT} {f : FE} {spos : Pos} (hc : X.calm = true) (hN : X.N.Nodup) (hy : X.N[i]? = some y) (hyl : X.env.scope.names.lookup y = some .local)
    (hsw : swapsWith (.ListComp elt [⟨tg, iter, ifs, 0⟩] scope pos) (some (.Name y py)) spos.line X.env = pure true) (hi : SE X W Γ iter it) (ok : BlkOk X.N X.env.scope scope own)
    (hg : ∀ (s : Shared) (H : Hp) (C : Addr) (cl : List (Str × Addr)) (fp : List Addr), SG (X.blk s H scope (compEnvC scope cl C X.env) fp) tg is g) (hgo : TgOk is g) (his : ∀ i ∈ is, i ∈ vs)
    (ht : ∀ (s : Shared) (H : Hp) (C : Addr) (cl : List (Str × Addr)) (fp : List Addr), STs (X.blk s H scope (compEnvC scope cl C X.env) fp) W0 Γ ifs t) (he : ∀ (s : Shared) (H : Hp) (C : Addr) (cl : List (Str × Addr)) (fp : List Addr), SE (X.blk s H scope (compEnvC scope cl C X.env) fp) W0 Γ elt f)
    (hΓ : ∀ i ∈ vs, Γ[i]? ≠ some true) (hgl : i < Γ.length := by decide) (hs : ∀ x, foldedSetIterable iter X.env x = pure x := by intro _; rfl) (hvs : own.map (·.2) = vs := by rfl) : SS X W ρ ΓL Γ (.Assign [.Name y py] (.ListComp elt [⟨tg, iter, ifs, 0⟩] scope pos) spos) (sSetF i (mCompO it g t f vs)) (Γ.set i true) := by
  subst hvs
  intro c sl st α σ H Dn R h
  refine ⟨_, ps_setLc hc hN hy hyl hsw (pi_list pe_wp) ok pg_gU pt_tU pe_eU hs, ?_⟩
  refine comp_coreO hi hg hgo his ht he hΓ R ((Vx.R.sat_fl.mp h).imp (fun d s1 hd => ?_) fun x s1 hx => hx Γ σ)
  by_cases hl : i < sl.length
  · rw [if_pos hl] at hd
    exact set_own_core R hgl hl hd
  · rw [if_neg hl] at hd
    exact False.elim hd
/-- name = [.. for ..], into the store -/
theorem ss_setLcBO (i : Nat) {y : Str} {py : Pos} {tg iter elt : Expr} {ifs : List Expr} {scope : Scope} {own : List (Str × Nat)} {is vs : List Nat} {g : D → Sl → Option Sl} {it : FE} {t : FT} {f : FE} {spos : Pos} (hc : X.calm = true) (hN : X.N.Nodup) (hy : X.N[i]? = some y) (hyl : X.env.scope.names.lookup y = some .local)
    (hsw : swapsWith (.ListComp elt [⟨tg, iter, ifs, 0⟩] scope pos) (some (.Name y py)) spos.line X.env = pure true) (hi : SE X W Γ iter it) (ok : BlkOk X.N X.env.scope scope own)
    (hg : ∀ (s : Shared) (H : Hp) (C : Addr) (cl : List (Str × Addr)) (fp : List Addr), SG (X.blk s H scope (compEnvC scope cl C X.env) fp) tg is g) (hgo : TgOk is g) (his : ∀ i ∈ is, i ∈ vs)
    (ht : ∀ (s : Shared) (H : Hp) (C : Addr) (cl : List (Str × Addr)) (fp : List Addr), STs (X.blk s H scope (compEnvC scope cl C X.env) fp) W0 Γ ifs t) (he : ∀ (s : Shared) (H : Hp) (C : Addr) (cl : List (Str × Addr)) (fp : List Addr), SE (X.blk s H scope (compEnvC scope cl C X.env) fp) W0 Γ elt f)
    (hΓ : ∀ i ∈ vs, Γ[i]? ≠ some true) (hΓi : Γ[i]? ≠ some true := by decide) (hs : ∀ x, foldedSetIterable iter X.env x = pure x := by intro _; rfl) (hvs : own.map (·.2) = vs := by rfl) : SS X W ρ ΓL Γ (.Assign [.Name y py] (.ListComp elt [⟨tg, iter, ifs, 0⟩] scope pos) spos) (sSet i (mBox (mCompO it g t f vs))) Γ := by
  subst hvs
  intro c sl st α σ H Dn R h
  refine ⟨_, ps_setLc hc hN hy hyl hsw (pi_list pe_wp) ok pg_gU pt_tU pe_eU hs, ?_⟩
  refine comp_coreO hi hg hgo his ht he hΓ R ((Vx.R.sat_bind.mp (Vx.R.sat_fl.mp h)).imp (fun d s1 hd => ?_) fun x s1 hx => hx Γ σ)
  refine PQ.box R (E := fun _ _ => True) (Vx.R.Sat.imp (r := boxR d s1) hd (fun d s1 hd v α1 H1 R1 S1 r1 => ?_) fun _ _ _ => trivial)
  exact hd α1 _ H1 (R1.set hΓi r1) (S1.nn.trans (.less fun a z => (nn_set hΓi a).mp z))

end
end Vx

/-! VExc: errors of the text's own: raised, let through calls, caught. -/
namespace Vx
open PySem PySem.Spec L2
variable [Wd]
section
variable {X : Cx} {W : WXc} {ρ : Bool} {Γ Γ' Γ'' ΓL : List Bool} {e a b : Expr} {es : List Expr} {s : Stmt} {ss : List Stmt} {f fa fb fc : FE} {x : Str} {pos p : Pos} {g1 g2 : FS}
variable {K : PySem.W.Frag} {N T : Addr → Prop} {α α' : List Addr} {H H' : Hp} {c c' : Cz} {sl : Sl} {st st' : Sto} {σ : St}

/-! ### raise -/
/-- an error class without an __init__ of its own -/
structure XC0 (K : PySem.W.Frag) (mg : Str → Option Value) (x : Str) (C : Addr) : Prop where
  ex : PySem.W.excIn K C [.type "ValueError", .type "Exception", .type "BaseException", .type "object"] "ValueError.__new__" = true
  kp : PySem.W.keepIn K (.ref C) = true
  sb : PySem.W.subIn K (.ref C) (.type "BaseException") = some true
  ty : PySem.W.typeIn K (.ref C) = some (.type "type")
  mg : mg x = some (.ref C)
/-- raise X("..") -/
def sRaise0 (C n : Nat) : FS := fun l s => .ex ⟨C, n, []⟩ l s
theorem ss_raise0 {m : Str} {j : Nat} {p2 pos' : Pos} {C : Addr} (n : Nat) (hc : X.calm = true) (tk : Takes X W) (h : XC0 X.K X.mg x C) (hg : Gl X x := by rfl) (hd : (x == ("__debug__" : Str)) = false := by decide) :
    SS X W ρ ΓL Γ (.Raise (some (.Call (.Name x p) [.Constant (.str m) j p2] [] pos)) none pos') (sRaise0 C n) Γ' := by
  intro c sl st α σ H D R q
  refine ⟨_, ps_raise hc tk (pmk_own PySem.F.excBase_ValueError h.ex h.mg h.kp (raises_own h.sb h.ty) hg hd), ?_⟩
  exact q Γ σ (.ref C) none α H R ⟨rfl, .inl ⟨rfl, rfl⟩⟩

/-! ### a def that may raise -/
def FX (K : PySem.W.Frag) (B : Addr → Prop) (α : List Addr) (H : Hp) (E : XK) (x : Ex) (st' : Sto) : Prop :=
  ∀ cl dd α' H', Ext0 K B α H α' H' st' → ExRel K (BA B α') α' H' x cl dd → E cl dd H'
def FSpecX (K : PySem.W.Frag) (ρ : Bool) (m : List D → Sto → R D) : Sp := fun vs H Q E => ∃ (B : Addr → Prop) (α : List Addr) (ds : List D) (st : Sto),
  RDs K (BA B α) α H ds vs ∧ StoRel K (BA B α) α H st ∧ (∀ a, B a → H a ≠ none) ∧ (∀ a, a ∈ α → ¬ B a) ∧ (m ds st).Sat (FR K ρ B α H Q) (FX K B α H E)
theorem ExRel.step {N N' : Addr → Prop} {x : Ex} {cl : Value} {dd : Option Addr} (t : Stp N α H N' α' H') (h : ExRel K N α H x cl dd) : ExRel K N' α' H' x cl dd := by
  obtain ⟨h1, h2⟩ := h
  refine ⟨h1, ?_⟩
  rcases h2 with h2 | ⟨d, fs', e1, n, e2, e3, e4⟩
  · exact .inl h2
  · exact .inr ⟨d, fs', e1, (t.keep d _ e2 n).2, (t.keep d _ e2 n).1, e3, e4.step t⟩
/-- the caller's side -/
theorem call_specX {m : List D → Sto → R D} {ds : List D} {vs : List V} {Q : VK} (R : Rel K c Γ sl st α σ H) (r : RDs K (NN c Γ σ α) α H ds vs)
    (h : (m ds st).Sat (fun d st' => (∀ v α' H', Rel K c Γ sl st' α' σ H' → Ste α H α' H' → RD K (NN c Γ σ α') α' H' d v → (ρ = true → ∀ ds ks, d ≠ .lst ds ∧ d ≠ .dic ks) → Q v H') ∧
      (ρ = true → ∀ p o α' H', H p = none → H' p = some o → Rel K (c.add p) Γ sl st' α' σ H' → Ste α H α' H' → ROb K (NN (c.add p) Γ σ α') α' H' p d o → Q (.ref p) H')) (PX K c Γ sl σ W)) : FSpecX K ρ m vs H Q (WE W σ) := by
  have L : Stp (NN c Γ σ α) α H (BA (fun a => c.B a ∨ LocO Γ σ a) α) α H := .less fun a z => ba_nn.mp z
  have hB : ∀ a, c.B a ∨ LocO Γ σ a → NN c Γ σ α a := fun a z => z.elim (fun z => .inl (.inl z)) .inr
  refine ⟨fun a => c.B a ∨ LocO Γ σ a, α, ds, st, r.step L, R.sto.step L fun _ _ => rfl, fun a z => R.tr (hB a z), fun a m z => ?_, ?_⟩
  · rcases z with z | ⟨i, z1, z2⟩
    · exact R.αB a m z
    · obtain ⟨d, a', o, h1, h2, h3, h4, h5, h6⟩ := R.own i z1
      rw [z2] at h2
      cases h2
      exact h6 (.inr m)
  · cases em : m ds st with
    | no => rw [em] at h; exact False.elim h
    | ex x s1 =>
      rw [em] at h
      intro cl dd α' H' X0 rx
      have Lb : ∀ {a}, NN c Γ σ α' a → BA (fun a => c.B a ∨ LocO Γ σ a) α' a := fun z => ba_nn.mpr z
      exact h cl dd α' H' (R.carry X0.st (fun a z => .inl z) rfl rfl (X0.sto.step (.less fun a z => Lb z) fun _ _ => rfl) fun a m z => X0.nb a m (.inl z)) (rx.step (.less fun a z => Lb z))
    | ok d s1 =>
      rw [em] at h
      obtain ⟨h1, h2⟩ := h
      refine ⟨fun v α' H' X0 rv hn => ?_, fun hρ p o α' H' hp ho X0 ro => ?_⟩
      · have Lb : ∀ {a}, NN c Γ σ α' a → BA (fun a => c.B a ∨ LocO Γ σ a) α' a := fun z => ba_nn.mpr z
        exact h1 v α' H' (R.carry X0.st (fun a z => .inl z) rfl rfl (X0.sto.step (.less fun a z => Lb z) fun _ _ => rfl) fun a m z => X0.nb a m (.inl z)) X0.st (rv.step (.less fun a z => Lb z)) hn
      · have Lb : ∀ a, NN (c.add p) Γ σ α' a → BA (fun a => (c.B a ∨ LocO Γ σ a) ∨ a = p) α' a := fun a z => by
          rcases z with (z | z) | z
          · exact .inl (z.elim (fun z => .inl (.inl z)) .inr)
          · exact .inr z
          · exact .inl (.inl (.inr z))
        refine h2 hρ p o α' H' hp ho (R.carry X0.st (fun a z => z.elim .inl fun z => .inr ⟨by rw [z]; exact hp, by rw [z, ho]; exact (fun z => nomatch z), by rw [z]; exact fun m => X0.nb p m (.inr rfl)⟩) rfl rfl (X0.sto.step (.less Lb) fun _ _ => rfl) fun a m z => X0.nb a m (.inl (.inl z))) X0.st (ro.step (.less Lb))
/-- a call that may raise -/
def mCallX (m : List D → Sto → R D) (a : FA) : FE := fun l s => (a l s).bind fun xs s => m xs s
theorem se_callX {k : Nat} {fd : FuncData} {ps : List Str} {q : Addr} {m : List D → Sto → R D} {fr : FA} (tk : Takes X W) (G : FnOk X.prog X.w X.K X.mg X.base (L2.CX X.prog X.w) k q fd ps (FSpecX X.K ρ m)) (hr : Room k X.A) (hm : X.mg x = some (.ref q)) (kp : PySem.W.keepIn X.K (.ref q) = true) (hb : Binds X.K fd ps []) (ha : SA X W Γ (e :: es) fr)
    (hg : Gl X x := by rfl) (hd : (x == ("__debug__" : Str)) = false := by decide) (he : starEach (e :: es) X.env = (false, eval e X.env) :: starEach es X.env := by rfl) (hpl : (backTo pos (starEach es X.env)).any (·.1) = false := by rfl) : SE X W Γ (.Call (.Name x p) (e :: es) [] pos) (mCallX m fr) := by
  intro c sl st α σ H Q R h
  refine ⟨_, pe_callS (E := WE W) G hr hg hm kp hb (fun σ => passAt tk σ) pa_wp hd he hpl, ?_⟩
  refine ha c sl st α σ H _ R ((Vx.R.sat_bind.mp h).imp (fun ds s1 hd vs α1 H1 R1 S1 r1 => ?_) fun _ _ z => z)
  refine call_specX R1 r1 ?_
  refine hd.imp (fun d s2 hd => ?_) fun x s2 hx => hx
  refine ⟨fun v α' H' R' S' r' _ => hd v α' H' R' (S1.trans S') r', fun _ p o α' H' h0 hp R' S' r' => ?_⟩
  exact hd (.ref p) α' H' R'.drop (S1.trans S') ((r'.step (.less nn_less)).rd hp (R'.add_ne fun z => R1.bt p z h0))
end
section
variable {P : Program} {w : World} {K : PySem.W.Frag} {mg : Str → Option Value} {base : Heap} {ρ : Bool}
/-- a def that may raise, as a whole -/
theorem fn_okX {x qual : Str} {stm : Stmt} {q : Addr} {fd : FuncData} {N ps : List Str} {k : Nat} {fb : FS} {ΓL Γ' : List Bool} (F : Fun K x qual stm q fd) (S : FnScope N ps (defScope stm))
    (hb : ∀ (cdv : Value) (A : Around) (outer : List Env) (s : Shared) (H : Hp) (E : XK) (W : WXc), Room k (A.deeper (PyProof.Rows.envOfC qual (defScope stm) s.heap.objs.size q cdv)) → Takes (cxOf (L2.CX P w) P w K mg base N qual (defScope stm) q cdv A outer s H E) W →
      PassesOwn (model P w) (cxOf (L2.CX P w) P w K mg base N qual (defScope stm) q cdv A outer s H E).A (cxOf (L2.CX P w) P w K mg base N qual (defScope stm) q cdv A outer s H E).env (cxOf (L2.CX P w) P w K mg base N qual (defScope stm) q cdv A outer s H E).xe →
      SSs (cxOf (L2.CX P w) P w K mg base N qual (defScope stm) q cdv A outer s H E) W ρ ΓL (List.replicate N.length false) (defBody stm) fb Γ') :
    FnOk P w K mg base (L2.CX P w) (k + 1) q fd ps (FSpecX K ρ (mDef N.length ps.length fb)) := by
  refine F.okX S (fun vs H Q E h => ?_) (fun cdv A outer s H vs Q E hr h => ?_)
  · obtain ⟨B, α, ds, st, r, _, _, _, h⟩ := h
    rw [← r.length]
    unfold mDef at h
    by_cases e : ds.length = ps.length
    · exact e
    · rw [if_neg e] at h
      exact False.elim h
  · obtain ⟨B, α, ds, st, r, hs, hB, hα, h⟩ := h
    unfold mDef at h
    by_cases e : ds.length = ps.length
    · rw [if_pos e] at h
      have hΓ : ∀ i : Nat, (List.replicate N.length false)[i]? ≠ some true := fun i z => by
        rw [List.getElem?_replicate] at z
        split at z <;> cases z
      have R0 := body_start (n := N.length) r hs hB hα hΓ
      refine ⟨_, pss_wp, hb cdv A outer s H E (fun cls d _ H => E cls d H) hr (takes_of rfl rfl rfl rfl) (passes_of rfl) _ _ _ _ _ H _ R0 ?_⟩
      have hα0 : ∀ a, a ∈ α → H a ≠ none := fun a m => hs.tr m
      have low : ∀ {Γ'' : List Bool} {σ'' : St} {α'' : List Addr} {B' : Addr → Prop} a, BA B' α'' a → NN ⟨B', H, α⟩ Γ'' σ'' α'' a := fun a z => .inl z
      have fin : ∀ {d : D} {s1 : Sto}, FR K ρ B α H Q d s1 → PR K ⟨B, H, α⟩ ρ Q d s1 := fun hd =>
        ⟨fun Γ'' sl'' σ'' v α' H' R' r' hn => hd.1 v α' H' (exit_ok R' hα0) (r'.step (.less low)) hn,
          fun hρ Γ'' sl'' σ'' p o α' H' h0 hp R' r' => hd.2 hρ p o α' H' h0 hp (exit_ok (B := fun a => B a ∨ a = p) R' hα0) (r'.step (.less (low (B' := fun a => B a ∨ a = p))))⟩
      cases eb : fb (startD N.length ds) st with
      | nx l s1 =>
        rw [eb] at h
        intro α' σ' H' R' S'
        exact (fin h).1 _ _ _ _ α' H' R' .non fun _ _ _ => ⟨(fun z => nomatch z), (fun z => nomatch z)⟩
      | rt d s1 => rw [eb] at h; exact fin h
      | bk l s1 => rw [eb] at h; exact False.elim h
      | ct l s1 => rw [eb] at h; exact False.elim h
      | ex x l s1 =>
        rw [eb] at h
        intro Γ'' σ'' cl dd α' H' R' rx
        exact h cl dd α' H' (exit_ok R' hα0) (rx.step (.less low))
      | no => rw [eb] at h; exact False.elim h
    · rw [if_neg e] at h
      exact False.elim h
/-- .. under its name -/
structure CalX (P : Program) (w : World) (K : PySem.W.Frag) (mg : Str → Option Value) (base : Heap) (k : Nat) (x : Str) (ρ : Bool) (m : List D → Sto → R D) : Prop where
  ex : ∃ (q : Addr) (fd : FuncData) (ps : List Str), FnOk P w K mg base (L2.CX P w) k q fd ps (FSpecX K ρ m) ∧ mg x = some (.ref q) ∧ PySem.W.keepIn K (.ref q) = true ∧ Binds K fd ps []
theorem calX_of {x : Str} {stm : Stmt} {N ps : List Str} {k n p : Nat} {fb : FS} {Γ0 ΓL Γ' : List Bool} (F : Dfn K mg x stm ps) (S : FnScope N ps (defScope stm))
    (hb : ∀ (q : Addr) (cdv : Value) (A : Around) (outer : List Env) (s : Shared) (H : Hp) (E : XK) (W : WXc), Room k (A.deeper (PyProof.Rows.envOfC x (defScope stm) s.heap.objs.size q cdv)) → Takes (cxOf (L2.CX P w) P w K mg base N x (defScope stm) q cdv A outer s H E) W →
      PassesOwn (model P w) (cxOf (L2.CX P w) P w K mg base N x (defScope stm) q cdv A outer s H E).A (cxOf (L2.CX P w) P w K mg base N x (defScope stm) q cdv A outer s H E).env (cxOf (L2.CX P w) P w K mg base N x (defScope stm) q cdv A outer s H E).xe →
      SSs (cxOf (L2.CX P w) P w K mg base N x (defScope stm) q cdv A outer s H E) W ρ ΓL Γ0 (defBody stm) fb Γ')
    (hn : N.length = n := by rfl) (hp : ps.length = p := by rfl) (hΓ : List.replicate n false = Γ0 := by rfl) : CalX P w K mg base (k + 1) x ρ (mDef n p fb) := by
  obtain ⟨q, fd, F, hm, hbd⟩ := F.ex
  subst hn hp hΓ
  exact ⟨q, fd, ps, fn_okX F S (hb q), hm, F.kp, hbd⟩
theorem CalX.mono {x : Str} {j k : Nat} {m : List D → Sto → R D} (h : CalX P w K mg base j x ρ m) (hk : j ≤ k) : CalX P w K mg base k x ρ m := by
  obtain ⟨q, fd, ps, F, h1, h2, h3⟩ := h.ex
  exact ⟨q, fd, ps, F.mono hk, h1, h2, h3⟩
end

/-! ### try: body, except x: suite -/
section
variable {X : Cx} {W : WXc} {ρ : Bool} {Γ Γ' Γ'' ΓL : List Bool} {x : Str} {pos p : Pos}
variable {K : PySem.W.Frag} {N T : Addr → Prop} {α α' : List Addr} {H H' : Hp} {c c' : Cz} {sl sl' : Sl} {st st' : Sto} {σ σ' : St}
/-- whether the clause takes it: its class is that of the number -/
def hit (ca : Nat → Nat) (tab : Nat → Option Bool) (x : Ex) : Option Bool := if x.cls = ca x.num then tab x.num else none
def sTry (ca : Nat → Nat) (tab : Nat → Option Bool) (fb fs : FS) : FS := fun l s => match fb l s with
  | .ex x l' s' => match hit ca tab x with
    | some true => (fs l' s').nox
    | some false => .ex x l' s'
    | none => .no
  | r => r
/-- the state at a try stands for a def's entry -/
theorem Rel.rebase (R : Rel K c Γ sl st α σ H) (hΓ : ∀ i : Nat, Γ[i]? ≠ some true) : Rel K ⟨c.B, H, α⟩ Γ sl st α σ H :=
  ⟨R.len, R.val, fun i h => absurd h (hΓ i), fun i j a h => absurd h (hΓ i), R.sto, R.bt, R.αB, ⟨[], by simp⟩, fun a m => .inl m, fun a o h _ => h⟩
theorem Rel.unbase {B' : Addr → Prop} (R : Rel K c Γ sl st α σ H) (R' : Rel K ⟨B', H, α⟩ Γ' sl' st' α' σ' H') : Rel K ⟨B', c.H0, c.α0⟩ Γ' sl' st' α' σ' H' := by
  refine ⟨R'.len, R'.val, fun i h => ?_, R'.dist, R'.sto, R'.bt, R'.αB, ?_, fun a m => ?_, fun a o h n => ?_⟩
  · obtain ⟨d, a, o, h1, h2, h3, h4, h5, h6⟩ := R'.own i h
    exact ⟨d, a, o, h1, h2, h3, h4, R.fresh0 h5, h6⟩
  · obtain ⟨t, e⟩ := R.αn
    obtain ⟨t2, e2⟩ := R'.αn
    exact ⟨t ++ t2, by rw [e2]; show α ++ t2 = _; rw [e, List.append_assoc]⟩
  · rcases R'.αf a m with h | h
    · exact R.αf a h
    · exact .inr (R.fresh0 h)
  · have h1 := R.fr a o h n
    refine R'.fr a o h1 fun m => ?_
    rcases R.αf a m with q | q
    · exact n q
    · have h : c.H0 a = some o := h
      rw [q] at h
      cases h
theorem Rel.based (R' : Rel K ⟨c.B, H, α⟩ Γ' sl' st' α' σ' H') (hΓ : ∀ i : Nat, Γ[i]? ≠ some true) : Stp (NN c Γ'' σ α) α H (NN c Γ σ' α') α' H' := by
  refine ⟨R'.αn, fun a o h n => ?_⟩
  have na : a ∉ α := fun m => n (.inl (.inr m))
  refine ⟨R'.fr a o h na, fun z => ?_⟩
  rcases z with (z | z) | ⟨i, z, _⟩
  · exact n (.inl (.inl z))
  · rcases R'.αf a z with q | q
    · exact na q
    · have h : H a = some o := h
      have q : H a = none := q
      rw [q] at h
      cases h
  · exact hΓ i z
theorem FQ.rebase {Dn : Ends} {r : Fl} {W' : WXc} (R : Rel K c Γ sl st α σ H) (hx : ∀ x l s, r = .ex x l s → ∀ Γ'' σ'', PX K ⟨c.B, H, α⟩ Γ'' l σ'' W' x s) (hn : (∀ x l s, r ≠ .ex x l s) → FQ K W ρ ΓL c Γ α σ H Dn Γ' r) : FQ K W' ρ ΓL ⟨c.B, H, α⟩ Γ α σ H Dn Γ' r := by
  have pf : ∀ {k : St → Hp → Prop} {G : List Bool} {l : Sl} {s : Sto}, PF K c Γ α σ H k G l s → PF K ⟨c.B, H, α⟩ Γ α σ H k G l s := fun h α1 σ1 H1 R1 S1 => h α1 σ1 H1 (R.unbase R1) S1
  have pr : ∀ {k : VK} {d : D} {s : Sto}, PR K c ρ k d s → PR K ⟨c.B, H, α⟩ ρ k d s := fun h =>
    ⟨fun Γ'' sl'' σ'' v α1 H1 R1 r1 hn => h.1 Γ'' sl'' σ'' v α1 H1 (R.unbase R1) r1 hn, fun hρ Γ'' sl'' σ'' p o α1 H1 h0 hp R1 r1 => h.2 hρ Γ'' sl'' σ'' p o α1 H1 (R.fresh0 h0) hp (R.unbase (B' := fun a => c.B a ∨ a = p) R1) r1⟩
  cases r with
  | ex x l s => exact hx x l s rfl
  | nx l s => exact pf (hn fun _ _ _ => by simp)
  | rt d s => exact pr (hn fun _ _ _ => by simp)
  | bk l s => exact pf (hn fun _ _ _ => by simp)
  | ct l s => exact pf (hn fun _ _ _ => by simp)
  | no => exact (hn fun _ _ _ => by simp)
/-- no list is the frame's own -/
def offG (Γ : List Bool) : Bool := Γ.all fun b => !b
theorem offG_ok (h : offG Γ = true) : ∀ i : Nat, Γ[i]? ≠ some true := fun i e => by
  have := List.all_eq_true.mp h true (List.mem_of_getElem? e)
  cases this
theorem ss_try {cv : Value} {body suite : List Stmt} {b₀ : Stmt} {np pos' : Pos} {fb fs : FS} (ca : Nat → Nat) (tab : Nat → Option Bool) (hs : X.stack = X.env :: X.outer) (hf : X.env.frame = some X.env.locals) (hc : Names X x cv) (tk : Takes X W)
    (ht : ∀ n b, tab n = some b → PySem.W.exmOne X.K (.ref (ca n)) cv = some b)
    (hb : ∀ (W' : WXc) (pn : List (Addr × Obj)) (xe : Value → Shared → Prop), Takes (X.tr pn xe) W' → PassesOwn (model X.prog X.w) X.A X.env xe → SSs (X.tr pn xe) W' ρ ΓL Γ body fb Γ')
    (hsu : ∀ (a : Addr) (oe : Obj) (pn : List (Addr × Obj)), SSs (X.suite a ((a, oe) :: pn)) W0 ρ ΓL Γ (b₀ :: suite) fs Γ') (hG : offG Γ = true := by decide) :
    SS X W ρ ΓL Γ (.Try body [.ExceptHandler (some (.Name x np)) none (b₀ :: suite) pos'] [] [] pos) (sTry ca tab fb fs) Γ' := by
  intro c sl st α σ H Dn R h
  have hΓ := offG_ok hG
  refine ⟨_, ps_try_only (tb := fun W' D σ H => ∀ (pn : List (Addr × Obj)) (xe : Value → Shared → Prop), Takes (X.tr pn xe) W' → PassesOwn (model X.prog X.w) X.A X.env xe → wpB (X.tr pn xe) body D σ H)
    (ts := fun a cls d D σ H => ∀ (oe : Obj) (pn : List (Addr × Obj)), wpB (X.suite a ((a, oe) :: pn)) (b₀ :: suite) D σ H) hs hf hc tk (fun W' pn xe t q => ⟨fun pins s σ H D I z => (pss_wp (X := X.tr pn xe) (e := body)).run pins s σ H D I (z pn xe t q)⟩)
    (fun a oe cls d pn _ _ => ⟨fun pins s σ H D I z => (pss_wp (X := X.suite a ((a, oe) :: pn)) (e := b₀ :: suite)).run pins s σ H D I (z oe pn)⟩), ?_⟩
  intro pn xe t q
  refine hb _ pn xe t q ⟨c.B, H, α⟩ sl st α σ H Dn (R.rebase hΓ) (FQ.rebase (W := W) R (fun x1 l s' e => ?_) fun hne => ?_)
  · intro Γ'' σ'' cl dd α' H' R' rx
    unfold sTry at h
    rw [e] at h
    simp only at h
    obtain ⟨e1, _⟩ := id rx
    unfold hit at h
    by_cases hcl : x1.cls = ca x1.num
    · rw [if_pos hcl] at h
      cases eb : tab x1.num with
      | none => rw [eb] at h; exact False.elim h
      | some b =>
        rw [eb] at h
        have hex := ht _ _ eb
        rw [← hcl, ← e1] at hex
        refine ⟨b, hex, fun hbt a ha oe pn' => ?_, fun hbf => ?_⟩
        · subst hbt
          have S := Rel.based (Γ := Γ) (Γ'' := Γ) (σ := σ) R' hΓ
          have R1 : Rel X.K c Γ l s' α' σ'' H' := (R.unbase R').weak (by unfold leG; rw [List.all_eq_true]; intro i _; cases q : Γ[i]? with
            | none => simp [List.getD_eq_getElem?_getD, q]
            | some b => cases b with
              | true => exact absurd q (hΓ i)
              | false => simp [List.getD_eq_getElem?_getD, q])
          refine hsu a oe pn' c l s' α' σ'' H' Dn R1 ?_
          have h2 := FQ.from S h
          cases ef : fs l s' with
          | nx l2 s2 => rw [ef] at h2; exact h2
          | rt d2 s2 => rw [ef] at h2; exact h2
          | bk l2 s2 => rw [ef] at h2; exact h2
          | ct l2 s2 => rw [ef] at h2; exact h2
          | ex x2 l2 s2 => rw [ef] at h2; exact False.elim h2
          | no => rw [ef] at h2; exact False.elim h2
        · subst hbf
          exact h Γ'' σ'' cl dd α' H' (R.unbase R') rx
    · rw [if_neg hcl] at h
      exact False.elim h
  · unfold sTry at h
    cases ef : fb sl st with
    | nx l2 s2 => rw [ef] at h; exact h
    | rt d2 s2 => rw [ef] at h; exact h
    | bk l2 s2 => rw [ef] at h; exact h
    | ct l2 s2 => rw [ef] at h; exact h
    | ex x2 l2 s2 => exact absurd ef (hne x2 l2 s2)
    | no => rw [ef] at h; exact False.elim h
end
end Vx

/-! VTxt: texts: str(n), int(text), startswith, index, split, partition. -/
namespace Vx
open PySem PySem.Spec L2
variable [Wd]
section
variable {X : Cx} {W : WXc} {ρ : Bool} {Γ Γ' Γ'' ΓL : List Bool} {e a b : Expr} {es : List Expr} {s : Stmt} {ss : List Stmt} {f fa fb fc : FE} {x : Str} {pos p : Pos} {g1 g2 : FS}
variable {K : PySem.W.Frag} {N T : Addr → Prop} {α α' : List Addr} {H H' : Hp}

/-- str(n) -/
def gStrI : List D → Option D
  | [.int i] => if decide (i.natAbs.log2 < 1920) = true then some (.str (toString i)) else none
  | _ => none
theorem calld_strI : CallD X (.type "str") gStrI := by
  refine ⟨_, call_str_int, fun N T α H xs vs d Q hN r e q => ?_⟩
  unfold gStrI at e; split at e
  · obtain ⟨hz, rfl⟩ := ite_some e
    obtain ⟨v, rfl, rx⟩ := r.one
    exact ⟨_, by rw [rb_int rx], of_decide_eq_true hz, q _ H (Same.refl H) (.str _)⟩
  · cases e
/-- int(text) -/
def gIntT : List D → Option D
  | [.str a] => if decide (a.length ≤ 640) = true then (intText? a).map .int else none
  | _ => none
theorem calld_intT : CallD X (.type "int") gIntT := by
  refine ⟨_, call_int_str, fun N T α H xs vs d Q hN r e q => ?_⟩
  unfold gIntT at e; split at e
  · rename_i a
    by_cases hz : decide (a.length ≤ 640) = true
    · rw [if_pos hz] at e
      cases en : intText? a with
      | none => rw [en] at e; cases e
      | some n =>
        rw [en] at e
        cases e
        obtain ⟨v, rfl, rx⟩ := r.one
        exact ⟨a, n, by rw [rb_str rx], en, of_decide_eq_true hz, q _ H (Same.refl H) (.int _)⟩
    · rw [if_neg hz] at e
      cases e
  · cases e
def gStarts : Str → D → Option D
  | x, .str y => some (.bl (Txt.startswith x y))
  | _, _ => none
theorem std_startswith : StD X "str.startswith" gStarts := by
  refine ⟨_, mt_startswith, fun N T α H z y d vy Q hN ry e q => ?_⟩
  unfold gStarts at e
  split at e
  · cases e
    rw [rb_str ry]
    exact ⟨z, _, rfl, rfl, q _ H (Same.refl H) (.bl _)⟩
  · cases e
/-- x.index(y), where it is in it -/
def gIndexS : Str → D → Option D
  | x, .str y => (Txt.index0 x y).map fun k => .int (k : Nat)
  | _, _ => none
theorem takes_none {X : Cx} : Takes X (fun _ _ _ _ => False) := fun _ _ ⟨_, _, _, _, _, _, _, _, _, _, _, _, _, _, _, _, w⟩ => w.elim
theorem se_indexS {apos : Pos} (hc : X.calm = true) (ha : SE X W Γ a fa) (hb : SB X W Γ b fb)
    (hbase : attributeBase a "index" X.env (eval a X.env) = eval a X.env := by rfl)
    (hfew : ((backTo pos (starEach [b] X.env)).all (fun x => !x.1) && (backToKw pos (keywordEach [] X.env)).all (fun x => x.1.isSome)
      && decide (([b] : List Expr).length + ([] : List Keyword).length + (if ([] : List Keyword).isEmpty then 0 else 1) < 30)) = true := by rfl)
    (hline : (apos.endLine == pos.line) = true := by rfl) (hs : starEach [b] X.env = (false, eval b X.env) :: starEach [] X.env := by rfl) (hplain : (backTo pos (starEach [] X.env)).any (·.1) = false := by rfl) :
    SE X W Γ (.Call (.Attribute a "index" apos) [b] [] pos) (mSt gIndexS fa fb) := by
  intro c sl st α σ H Q R h
  refine ⟨_, pe_bmS PySem.F.plainAttrs_str PySem.F.slot_str_index PySem.F.type_str_index (mt_indexX hc takes_none) pe_wp (pa_cons pe_wp pa_nil hs) hbase hfew hline hs hplain, ?_⟩
  refine ha c sl st α σ H _ R ((Vx.R.sat_bind.mp h).imp (fun x s1 hx vx α1 H1 R1 S1 d1 => ?_) fun _ _ z => z)
  cases x with
  | str z =>
    cases d1
    refine ⟨(show tyV X.K "str" (.str z) H1 from rfl), ?_⟩
    refine hb c sl s1 α1 σ H1 _ R1 ((Vx.R.sat_bind.mp hx).imp (fun y s2 hy vy α2 H2 R2 S2 d2 => ?_) fun _ _ z => z)
    cases y with
    | str y =>
      rw [rb_str d2]
      have hy : (liftO ((Txt.index0 z y).map fun k => .int (k : Nat)) s2 : Vx.R D).Sat (PQ X.K c Γ sl α σ H Q) (PX X.K c Γ sl σ W) := hy
      cases ek : Txt.index0 z y with
      | none => rw [ek] at hy; exact False.elim hy
      | some k =>
        rw [ek] at hy
        refine ⟨z, y, rfl, rfl, fun k' ek' => ?_, fun n => ?_⟩
        · rw [ek] at ek'
          cases ek'
          exact hy _ α2 H2 R2 (S1.trans S2) (.int _)
        · rw [ek] at n; cases n
    | _ => exact False.elim hy
  | _ => exact False.elim hx
/-- x.split(y) -/
def gSplit : Str → D → Option D
  | x, .str y => if (!(y.length == 0) && szOk (x.length + 2)) = true then some (.lst ((Txt.split x y).map .str)) else none
  | _, _ => none
theorem rds_strs {N : Addr → Prop} {α : List Addr} {H : Hp} : ∀ ys : List Str, RDs K N α H (ys.map .str) (ys.map V.str)
  | [] => .nil
  | y :: ys => .cons (.str y) (rds_strs ys)
theorem sf_split {apos : Pos} (ha : SE X W Γ a fa) (hb : SB X W Γ b fb)
    (hs : starEach [b] X.env = [(false, eval b X.env)] := by rfl) (hbase : attributeBase a "split" X.env (eval a X.env) = eval a X.env := by rfl) (hline : (apos.endLine == pos.line) = true := by rfl) :
    SF X W Γ (.Call (.Attribute a "split" apos) [b] [] pos) (mSt gSplit fa fb) := by
  intro c sl st α σ H Q R h
  refine ⟨_, pe_split pe_wp pe_wp hs hbase hline, ?_⟩
  refine ha c sl st α σ H _ R ((Vx.R.sat_bind.mp h).imp (fun x s1 hx vx α1 H1 R1 S1 d1 => ?_) fun _ _ z => z)
  cases x with
  | str z =>
    cases d1
    refine ⟨⟨z, rfl⟩, ?_⟩
    refine hb c sl s1 α1 σ H1 _ R1 ((Vx.R.sat_bind.mp hx).imp (fun y s2 hy vy α2 H2 R2 S2 d2 => ?_) fun _ _ z => z)
    cases y with
    | str y =>
      rw [rb_str d2]
      have hy : (liftO (if (!(y.length == 0) && szOk (z.length + 2)) = true then some (.lst ((Txt.split z y).map .str)) else none) s2 : Vx.R D).Sat (PQf X.K c Γ sl α σ H Q) (PX X.K c Γ sl σ W) := hy
      by_cases hz : (!(y.length == 0) && szOk (z.length + 2)) = true
      · rw [if_pos hz] at hy
        obtain ⟨h1, h2⟩ := Bool.and_eq_true_iff.mp hz
        refine ⟨z, y, rfl, rfl, by simpa using h1, szOk_le h2, fun p hp => ?_⟩
        exact PQf.new hy R2 (S1.trans S2) (fun a m => R.sto.tr m) hp (rds_strs _)
      · rw [if_neg hz] at hy
        exact False.elim hy
    | _ => exact False.elim hy
  | _ => exact False.elim hx
/-- x.partition(y) -/
def gPart : Str → D → Option D
  | x, .str y => if (!(y.length == 0) && szOk x.length) = true then some (.tup [.str (Txt.partition x y).1, .str (Txt.partition x y).2.1, .str (Txt.partition x y).2.2]) else none
  | _, _ => none
theorem std_partition : StD X "str.partition" gPart := by
  refine ⟨_, mt_partition, fun N T α H z y d vy Q hN ry e q => ?_⟩
  unfold gPart at e
  split at e
  · obtain ⟨hz, rfl⟩ := ite_some e
    obtain ⟨h1, h2⟩ := Bool.and_eq_true_iff.mp hz
    rw [rb_str ry]
    refine ⟨z, _, rfl, rfl, by simpa using h1, szOk_le h2, fun p hp => ?_⟩
    exact q (.ref p) _ (same_upd hp) (.tup (fun n => hN p n hp) (.of upd_same) (.cons (.str _) (.cons (.str _) (.cons (.str _) .nil))))
  · cases e
end
end Vx
namespace Vx
open PySem PySem.Spec L2
variable [Wd]
def gAbs : List D → Option D
  | [.int i] => some (.int (if i < 0 then -i else i))
  | _ => none
theorem calld_abs {X : Cx} : CallD X (.builtin "abs") gAbs := by
  refine ⟨_, call_abs, fun N T α H xs vs d Q hN r e q => ?_⟩
  unfold gAbs at e; split at e
  · cases e
    obtain ⟨v, rfl, rx⟩ := r.one
    exact ⟨_, by rw [rb_int rx], q _ H (Same.refl H) (.int _)⟩
  · cases e
end Vx
namespace Vx
open PySem PySem.Spec L2
variable [Wd]
section
variable {X : Cx} {W : WXc} {Γ : List Bool} {e a b : Expr} {fa fb : FE} {pos : Pos}
/-- xs.index(y), flat items -/
def gIndexL (xs : List D) (y : D) : Option D := if (D.flat y && xs.all D.flat) = true then (xs.findIdx? fun x => D.eqv x y).map fun j => .int (j : Nat) else none
def mIndexL (a b : FE) : FE := fun l s => (a l s).bind fun x s => match x with
  | .lst xs => (b l s).bind fun y s => liftO (gIndexL xs y) s
  | _ => .no
theorem se_indexL {apos : Pos} (ha : SB X W Γ a fa) (hb : SB X W Γ b fb)
    (hbase : attributeBase a "index" X.env (eval a X.env) = eval a X.env := by rfl)
    (hfew : ((backTo pos (starEach [b] X.env)).all (fun x => !x.1) && (backToKw pos (keywordEach [] X.env)).all (fun x => x.1.isSome)
      && decide (([b] : List Expr).length + ([] : List Keyword).length + (if ([] : List Keyword).isEmpty then 0 else 1) < 30)) = true := by rfl)
    (hline : (apos.endLine == pos.line) = true := by rfl) (hs : starEach [b] X.env = (false, eval b X.env) :: starEach [] X.env := by rfl) (hplain : (backTo pos (starEach [] X.env)).any (·.1) = false := by rfl) :
    SE X W Γ (.Call (.Attribute a "index" apos) [b] [] pos) (mIndexL fa fb) := by
  intro c sl st α σ H Q R h
  refine ⟨_, pe_bm PySem.F.plainAttrs_list PySem.F.slot_list_index PySem.F.type_list_index mt_index pe_wp (pa_cons pe_wp pa_nil hs) hbase hfew hline hs hplain, ?_⟩
  refine ha c sl st α σ H _ R ((Vx.R.sat_bind.mp h).imp (fun x s1 hx vx α1 H1 R1 S1 d1 => ?_) fun _ _ z => z)
  cases x with
  | lst xs =>
    obtain ⟨p, vs, rfl, hS, r⟩ := d1.lst
    refine ⟨.inl ⟨rfl, vs, hS⟩, ?_⟩
    have d1' : RB X.K (NN c Γ σ α1) (NB c α1) α1 H1 (.lst xs) (.ref p) := d1
    refine hb c sl s1 α1 σ H1 _ R1 ((Vx.R.sat_bind.mp hx).imp (fun y s2 hy vy α2 H2 R2 S2 d2 => ?_) fun _ _ z => z)
    have hy : (liftO (if (D.flat y && xs.all D.flat) = true then (xs.findIdx? fun x => D.eqv x y).map fun j => .int (j : Nat) else none) s2 : Vx.R D).Sat (PQ X.K c Γ sl α σ H Q) (PX X.K c Γ sl σ W) := hy
    by_cases hz : (D.flat y && xs.all D.flat) = true
    · rw [if_pos hz] at hy
      obtain ⟨f1, f2⟩ := Bool.and_eq_true_iff.mp hz
      cases ej : xs.findIdx? fun x => D.eqv x y with
      | none => rw [ej] at hy; exact False.elim hy
      | some j =>
        rw [ej] at hy
        obtain ⟨hj, hj1, hj2⟩ := List.findIdx?_eq_some_iff_getElem.mp ej
        obtain ⟨p', ws, e', hS2, r2⟩ := (d1'.step S2.nb S2.nn).lst
        cases e'
        obtain ⟨z, hz1, hz2⟩ := r2.get (i := j) (List.getElem?_eq_getElem hj)
        have fl : ∀ (i : Nat) (h : i < xs.length), D.flat xs[i] = true := fun i h => List.all_eq_true.mp f2 _ (List.getElem_mem h)
        have fall := (any_flat f1 d2 r2 f2).1
        refine ⟨p, ws, vy, j, z, rfl, rfl, hS2, flat_v f1 d2, fall, hz1, ?_, fun m z' hm hz' => ?_, hy _ α2 H2 R2 (S1.trans S2) (.int _)⟩
        · rw [flat_e1 (fl j hj) f1 hz2 d2]; exact hj1
        · have hml : m < xs.length := by omega
          obtain ⟨z2, e2, r3⟩ := r2.get (i := m) (List.getElem?_eq_getElem hml)
          rw [hz'] at e2
          cases e2
          rw [flat_e1 (fl m hml) f1 r3 d2]
          have := hj2 m hm
          simpa using this
    · rw [if_neg hz] at hy
      exact False.elim hy
  | _ => exact False.elim hx
/-- x.upper() -/
def gUpper (x : Str) : Option D := if decide (x.length ≤ 5592405) = true then some (.str (Txt.upper x)) else none
theorem se_upper {apos : Pos} (ha : SE X W Γ a fa) (hbase : attributeBase a "upper" X.env (eval a X.env) = eval a X.env := by rfl) (hline : (apos.endLine == pos.line) = true := by rfl) :
    SE X W Γ (.Call (.Attribute a "upper" apos) [] [] pos) (mSt0 gUpper fa) := by
  intro c sl st α σ H Q R h
  refine ⟨_, pe_upper pe_wp hbase hline, ?_⟩
  refine ha c sl st α σ H _ R ((Vx.R.sat_bind.mp h).imp (fun x s1 hx vx α1 H1 R1 S1 d1 => ?_) fun _ _ z => z)
  cases x with
  | str z =>
    cases d1
    refine ⟨⟨z, rfl⟩, ?_⟩
    have hx : (liftO (if decide (z.length ≤ 5592405) = true then some (.str (Txt.upper z)) else none) s1 : Vx.R D).Sat (PQ X.K c Γ sl α σ H Q) (PX X.K c Γ sl σ W) := hx
    by_cases hz : decide (z.length ≤ 5592405) = true
    · rw [if_pos hz] at hx
      exact ⟨z, rfl, rfl, of_decide_eq_true hz, hx _ α1 H1 R1 S1 (.str _)⟩
    · rw [if_neg hz] at hx
      exact False.elim hx
  | _ => exact False.elim hx
end
end Vx
namespace Vx
open PySem PySem.Spec L2
variable [Wd]
/-- text * n -/
def repT (x : Str) (k : Nat) : Str := ⟨(List.replicate k x.cps).foldl (· ++ ·) #[]⟩
theorem foldl_arr : ∀ (k : Nat) (a x : Array Nat), ((List.replicate k x).foldl (· ++ ·) a).toList = a.toList ++ (List.replicate k x.toList).flatten
  | 0, a, x => by simp
  | k + 1, a, x => by
    rw [List.replicate_succ, List.foldl_cons, foldl_arr k (a ++ x) x, List.replicate_succ, List.flatten_cons, Array.toList_append, List.append_assoc]
theorem repT_list (x : Str) (k : Nat) : (repT x k).cps.toList = (List.replicate k x.cps.toList).flatten := by
  unfold repT
  rw [foldl_arr]
  rfl
def gMulS : D → D → Option D
  | .str x, .int n => if (decide (-(2 ^ 30) ≤ n) && decide (n < 2 ^ 30) && szOk (x.length * n.toNat)) = true then some (.str (repT x n.toNat)) else none
  | _, _ => none
def rMulS : R2 := fun x y H Q => ∃ (a : Str) (n : Int), x = .str a ∧ y = .int n ∧ -(2 ^ 30) ≤ n ∧ n < 2 ^ 30 ∧ a.length * n.toNat ≤ sizeLine ∧ Q (.str (repT a n.toNat)) H
theorem op_mulS {X : Cx} : OpR X (binaryOp .Mult) rMulS := by
  intro pins s σ H x y v u Q I rx ry h
  obtain ⟨a, n, rfl, rfl, h1, h2, hz, q⟩ := h
  obtain ⟨t, rfl⟩ := rx
  obtain ⟨t2, rfl⟩ := ry
  have hsl := sizeLine_eq
  have fin : ∀ y : Str, y = repT a n.toNat → ∀ t k, EP X pins σ Q (.str y t) { s with toks := k } := fun y e t k => ⟨.str (repT a n.toNat), H, I.tok k, ⟨t, by rw [e]⟩, q⟩
  refine PySem.P.mul_str ?_ (fun h3 h4 => ?_) (fun h3 h4 => ?_) ?_
  · have e1 : ¬ n < -(2 ^ 63 : Int) := by omega
    have e2 : ¬ n ≥ (2 ^ 63 : Int) := by omega
    rw [decide_eq_false e1, decide_eq_false e2]; rfl
  · have h5 : (a.length : Int) * n ≤ 2 ^ 63 - 1 := by
      have e : ((a.length * n.toNat : Nat) : Int) = (a.length : Int) * n := by
        rw [Int.natCast_mul, Int.toNat_of_nonneg (by omega)]
      omega
    have := (Int.le_ediv_iff_mul_le (a := (a.length : Int)) (b := 2 ^ 63 - 1) (c := n) (by omega)).mpr h5
    omega
  · unfold Builtin.Str.tooLong
    rw [decide_eq_false (by omega)]
  · by_cases h3 : n < 1
    · rw [if_pos h3]
      refine ⟨by decide, fin _ ?_ _ _⟩
      have : n.toNat = 0 := by omega
      rw [this]
      rfl
    · rw [if_neg h3]
      by_cases h4 : (n == 1 || a.length == 0) = true
      · rw [if_pos h4]
        refine fin _ ?_ _ _
        refine Str.ext' (Array.toList_inj.mp ?_)
        rw [repT_list]
        rw [Bool.or_eq_true, beq_iff_eq, beq_iff_eq] at h4
        rcases h4 with h4 | h4
        · subst h4; simp
        · have : a.cps.toList = [] := by
            have h5 : a.cps.toList.length = 0 := by simpa [Str.length] using h4
            exact List.length_eq_zero_iff.mp h5
          rw [this]; simp
      · rw [if_neg h4]
        refine ⟨?_, fin _ rfl _ _⟩
        have e : (repT a n.toNat).length = a.length * n.toNat := by
          have e1 : (repT a n.toNat).length = (repT a n.toNat).cps.toList.length := by simp [Str.length]
          rw [e1, repT_list, List.length_flatten, List.map_replicate, List.sum_replicate_nat]
          simp [Str.length, Nat.mul_comm]
        have : (repT a n.toNat).length ≤ sizeLine := by rw [e]; exact hz
        exact this
theorem opd_mulS {X : Cx} : OpD X (binaryOp .Mult) gMulS := by
  refine ⟨_, op_mulS, fun N T α H x y vx vy d Q hN rx ry e q => ?_⟩
  unfold gMulS at e
  split at e
  · obtain ⟨hz, rfl⟩ := ite_some e
    rw [Bool.and_eq_true, Bool.and_eq_true] at hz
    exact ⟨_, _, rb_str rx, rb_int ry, of_decide_eq_true hz.1.1, of_decide_eq_true hz.1.2, szOk_le hz.2, q _ H (Same.refl H) (.str _)⟩
  · cases e
end Vx

/-! VExc2: except X as e: the suite sees the exception; try .. else. -/
namespace Vx
open PySem PySem.Spec L2
variable [Wd]
/-- a class as an expression -/
structure ClsE (X : Cx) (e : Expr) (c : V) (u : Value) : Prop where
  pe : PE X e (tC c)
  cl : ClsV c u
theorem clsE_own {X : Cx} {x : Str} {p : Pos} {C : Addr} (hm : X.mg x = some (.ref C)) (hg : Gl X x := by rfl) (hd : (x == ("__debug__" : Str)) = false := by decide) : ClsE X (.Name x p) (.ref C) (.ref C) := ⟨pe_glob hg hm rfl hd, .own C⟩
theorem clsE_ty {X : Cx} {x : Str} {p : Pos} {T : String} (hm : X.mg x = none) (hv : bootBuiltins x = some (.type T)) (hg : Gl X x := by rfl) (hn : x ≠ "__name__" := by decide) (hd : (x == ("__debug__" : Str)) = false := by decide) : ClsE X (.Name x p) (.ty T) (.type T) := ⟨pe_bltn hg hm hv rfl hn hd, .ty T⟩
inductive ClsEs (X : Cx) : List Expr → List V → List Value → Prop where
  | nil : ClsEs X [] [] []
  | cons {e : Expr} {es : List Expr} {c : V} {u : Value} {cs : List V} {us : List Value} (h : ClsE X e c u) (t : ClsEs X es cs us) (hs : starEach (e :: es) X.env = (false, eval e X.env) :: starEach es X.env) : ClsEs X (e :: es) (c :: cs) (u :: us)
theorem ClsEs.pa {X : Cx} : ∀ {es : List Expr} {cs : List V} {us : List Value}, ClsEs X es cs us → ∃ t, PA X es t ∧ ∀ σ H Q, Q cs H → t σ H Q
  | _, _, _, .nil => ⟨_, pa_nil, fun _ _ _ q => q⟩
  | _, _, _, .cons h t hs => by
    obtain ⟨ta, p, w⟩ := t.pa
    exact ⟨_, pa_cons h.pe p hs, fun σ H Q q => w σ H _ q⟩
theorem ClsEs.pr {X : Cx} : ∀ {es : List Expr} {cs : List V} {us : List Value}, ClsEs X es cs us → Paired ClsV cs us
  | _, _, _, .nil => .nil
  | _, _, _, .cons h t _ => .cons h.cl t.pr
theorem ClsEs.len {X : Cx} : ∀ {es : List Expr} {cs : List V} {us : List Value}, ClsEs X es cs us → cs.length = es.length
  | _, _, _, .nil => rfl
  | _, _, _, .cons h t _ => by rw [List.length_cons, List.length_cons, t.len]
/-- isinstance(e, c), e the exception that the suite holds -/
def rIsD (K : PySem.W.Frag) (D a : Addr) (d : Option Addr) : List V → Hp → VK → Prop := fun xs H Q => ∃ (c : V) (cv : Value) (b : Bool), xs = [.ref a, c] ∧ ClsV c cv ∧ (d = none ∨ ∃ dd fs, d = some dd ∧ H dd = some (.xd fs)) ∧ PySem.W.kitOne K (.ref D) cv = some b ∧ Q (.bl b) H
def rIsDT (K : PySem.W.Frag) (D a : Addr) (d : Option Addr) : List V → Hp → VK → Prop := fun xs H Q => ∃ (tp : Addr) (cs : List V) (us : List Value) (b : Bool), xs = [.ref a, .ref tp] ∧ H tp = some (.tup cs) ∧ Paired ClsV cs us ∧ (d = none ∨ ∃ dd fs, d = some dd ∧ H dd = some (.xd fs)) ∧ PySem.W.kitAny K (.ref D) us = some b ∧ Q (.bl b) H
section
variable {X : Cx} {a D : Addr} {d : Option Addr} {oe : Obj} {pn pins : List (Addr × Obj)} {σ : St} {H : Hp} {s : Shared}
theorem inst_at (hz : Zc (.ref D) d oe) (hf : ∃ vs, oe.data = .fields vs) (hd : d = none ∨ ∃ dd fs, d = some dd ∧ H dd = some (.xd fs)) (I : Inv (X.suite a ((a, oe) :: pn)) pins σ H s) : ∃ od, PySem.W.InstAt s.heap a oe D od := by
  obtain ⟨ha, _⟩ := I.pin (a, oe) (List.mem_append_left _ List.mem_cons_self)
  obtain ⟨vs, hv⟩ := hf
  rcases hd with rfl | ⟨dd, fs, rfl, ea⟩
  · exact ⟨none, ha, hz.1, by unfold PySem.W.notCls; rw [hv] <;> rfl, by rw [hz.2]; trivial⟩
  · have hx : ObjOk X.prog X.w H s.heap dd (.xd fs) := I.hok dd _ ea
    obtain ⟨mA, hns, hr⟩ := hx
    obtain ⟨od, ho, hl⟩ := lookIn_ns hns
    exact ⟨some od, ha, hz.1, by unfold PySem.W.notCls; rw [hv] <;> rfl, by rw [hz.2]; exact ho⟩
theorem call_isD (C : ExcC X.K D) (hz : Zc (.ref D) d oe) (hf : ∃ vs, oe.data = .fields vs) : CallR (X.suite a ((a, oe) :: pn)) (.builtin "isinstance") (rIsD X.K D a d) := by
  intro pins s σ H xs us Q I r h
  obtain ⟨c, cv, b, rfl, k, hd, e, q⟩ := h
  obtain ⟨u1, u2, rfl, r1, r2⟩ := vals2 r
  have e2 := k.eq r2
  subst e2
  cases (show u1 = Value.ref a from r1)
  obtain ⟨od, J⟩ := inst_at hz hf hd I
  obtain ⟨cd, hc, _⟩ := PySem.W.any_some C.hd
  exact PySem.W.kia_one (PySem.W.kitx_exc (od := od) (by rw [hc] <;> rfl) C.hg C.hk C.hs C.ha C.hn C.ht C.hm) I.kIn J e (fun z => nomatch z) fun tk => ⟨.bl b, H, I.tok tk, rfl, q⟩
theorem call_isDT (C : ExcC X.K D) (hz : Zc (.ref D) d oe) (hf : ∃ vs, oe.data = .fields vs) : CallR (X.suite a ((a, oe) :: pn)) (.builtin "isinstance") (rIsDT X.K D a d) := by
  intro pins s σ H xs us Q I r h
  obtain ⟨tp, cs, ws, b, rfl, hT, k, hd, e, q⟩ := h
  obtain ⟨u1, u2, rfl, r1, r2⟩ := vals2 r
  cases (show u2 = Value.ref tp from r2)
  cases (show u1 = Value.ref a from r1)
  obtain ⟨od, J⟩ := inst_at hz hf hd I
  obtain ⟨cd, hc, _⟩ := PySem.W.any_some C.hd
  obtain ⟨_, its, rv, o, h1, h2, n, h3⟩ := (show ObjOk X.prog X.w H s.heap tp (.tup cs) from I.hok tp _ hT)
  have e3 := ClsV.all k rv
  subst e3
  obtain ⟨oc, od', dt, sl⟩ := o
  simp only at h2 h3
  subst h2 h3
  exact PySem.W.kia_tup (PySem.W.kitx_exc (od := od) (by rw [hc] <;> rfl) C.hg C.hk C.hs C.ha C.hn C.ht C.hm) I.kIn J h1 e (fun z => nomatch z) fun tk => ⟨.bl b, H, I.tok tk, rfl, q⟩
end
/-! ### the suite's judgements: slot i holds the exception x at a -/
def Held (K : PySem.W.Frag) (c : Cz) (Γ : List Bool) (α : List Addr) (σ : St) (H : Hp) (i : Nat) (a : Addr) (x : Ex) (cl : Value) (d : Option Addr) : Prop := σ[i]? = some (some (.ref a)) ∧ ExRel K (NN c Γ σ α) α H x cl d
def SEc (i : Nat) (a : Addr) (x : Ex) (cl : Value) (d : Option Addr) (X : Cx) (W : WXc) (Γ : List Bool) (e : Expr) (f : FE) : Prop := ∀ c sl st α σ H Q, Rel X.K c Γ sl st α σ H → Held X.K c Γ α σ H i a x cl d → (f sl st).Sat (PQ X.K c Γ sl α σ H Q) (PX X.K c Γ sl σ W) → wpE X e σ H Q
def SSsc (i : Nat) (a : Addr) (x : Ex) (cl : Value) (d : Option Addr) (X : Cx) (W : WXc) (ρ : Bool) (ΓL Γ : List Bool) (s : List Stmt) (f : FS) (Γ' : List Bool) : Prop := ∀ c sl st α σ H D, Rel X.K c Γ sl st α σ H → Held X.K c Γ α σ H i a x cl d → FQ X.K W ρ ΓL c Γ α σ H D Γ' (f sl st) → wpB X s D σ H
section
variable {X : Cx} {W : WXc} {ρ : Bool} {Γ Γ' Γ'' ΓL : List Bool} {e ea eb : Expr} {es : List Expr} {ss : List Stmt} {f fa fb fc : FE} {n : Str} {pos p p1 p2 : Pos} {g1 g2 : FS}
variable {K : PySem.W.Frag} {N T : Addr → Prop} {α α' : List Addr} {H H' : Hp} {c : Cz} {sl sl' : Sl} {st st' : Sto} {σ σ' : St}
variable {i : Nat} {a : Addr} {x : Ex} {cl : Value} {d : Option Addr} {oe : Obj} {pn : List (Addr × Obj)}
theorem Held.step (h : Held K c Γ α σ H i a x cl d) (S : Ste α H α' H') : Held K c Γ α' σ H' i a x cl d := ⟨h.1, h.2.step S.nn⟩
theorem sec_of (h : SE X W Γ e f) : SEc i a x cl d X W Γ e f := fun c sl st α σ H Q R _ q => h c sl st α σ H Q R q
theorem sssc_of (h : SSs X W ρ ΓL Γ ss g1 Γ') : SSsc i a x cl d X W ρ ΓL Γ ss g1 Γ' := fun c sl st α σ H D R _ q => h c sl st α σ H D R q
/-- isinstance of the exception -/
def mIs (b : Option Bool) : FE := fun _ s => match b with
  | some b => .ok (.bl b) s
  | none => .no
theorem hit_some {ca : Nat → Nat} {tab : Nat → Option Bool} {b : Bool} (h : hit ca tab x = some b) : x.cls = ca x.num ∧ tab x.num = some b := by
  unfold hit at h
  by_cases e : x.cls = ca x.num
  · rw [if_pos e] at h; exact ⟨e, h⟩
  · rw [if_neg e] at h; cases h
theorem held_d {N : Addr → Prop} (h : ExRel K N α H x cl d) : d = none ∨ ∃ dd fs, d = some dd ∧ H dd = some (.xd fs) := by
  rcases h.2 with h | ⟨dd, fs, e, _, h, _⟩
  · exact .inl h.2
  · exact .inr ⟨dd, fs, e, h⟩
theorem sec_isE {e2 : Expr} {cc : V} {cv : Value} (ca : Nat → Nat) (tab : Nat → Option Bool) (hz : Zc cl d oe) (hf : ∃ vs, oe.data = .fields vs) (hc : ClsE (X.suite a ((a, oe) :: pn)) e2 cc cv)
    (hE : ∀ n b, tab n = some b → ExcC X.K (ca n) ∧ PySem.W.kitOne X.K (.ref (ca n)) cv = some b) (hm : X.mg "isinstance" = none)
    (hN : X.N[i]? = some n := by rfl) (hv : Vis X.env.scope n := by first | exact Or.inl rfl | exact Or.inr (Or.inl rfl) | exact Or.inr (Or.inr rfl)) (hd : (n == ("__debug__" : Str)) = false := by decide) (hcd : (n == ("__classdict__" : Str)) = false := by decide)
    (hg : Gl (X.suite a ((a, oe) :: pn)) "isinstance" := by rfl) (hv2 : bootBuiltins "isinstance" = some (.builtin "isinstance") := by decide +kernel)
    (he : starEach [.Name n p1, e2] X.env = (false, eval (.Name n p1) X.env) :: starEach [e2] X.env := by rfl) (he2 : starEach [e2] X.env = (false, eval e2 X.env) :: starEach [] X.env := by rfl) (hpl : (backTo pos (starEach [e2] X.env)).any (·.1) = false := by rfl) :
    SEc i a x cl d (X.suite a ((a, oe) :: pn)) W Γ (.Call (.Name "isinstance" p) [.Name n p1, e2] [] pos) (mIs (hit ca tab x)) := by
  intro c sl st α σ H Q R hh h
  cases eb : hit ca tab x with
  | none => rw [eb] at h; exact False.elim h
  | some b =>
    rw [eb] at h
    obtain ⟨hcl, htab⟩ := hit_some eb
    obtain ⟨C, hk⟩ := hE _ _ htab
    rw [← hcl] at C hk
    have ecl := hh.2.1
    subst ecl
    refine ⟨_, pe_callB (X := X.suite a ((a, oe) :: pn)) (call_isD C hz hf) hg hm hv2 (pa_cons (X := X.suite a ((a, oe) :: pn)) (pe_var (X := X.suite a ((a, oe) :: pn)) (i := i) hN hv hd hcd) (pa_cons (X := X.suite a ((a, oe) :: pn)) hc.pe pa_nil he2) he) (by decide) (by decide) he hpl, ?_⟩
    exact ⟨.ref a, hh.1, cc, cv, b, rfl, hc.cl, held_d hh.2, hk, h (.bl b) α H R .refl (.bl b)⟩
theorem sec_isT {cs : List V} {us : List Value} {x1} (ca : Nat → Nat) (tab : Nat → Option Bool) (hz : Zc cl d oe) (hf : ∃ vs, oe.data = .fields vs) (hc : ClsEs (X.suite a ((a, oe) :: pn)) es cs us)
    (hE : ∀ n b, tab n = some b → ExcC X.K (ca n) ∧ PySem.W.kitAny X.K (.ref (ca n)) us = some b) (hm : X.mg "isinstance" = none)
    (hN : X.N[i]? = some n := by rfl) (hv : Vis X.env.scope n := by first | exact Or.inl rfl | exact Or.inr (Or.inl rfl) | exact Or.inr (Or.inr rfl)) (hd : (n == ("__debug__" : Str)) = false := by decide) (hcd : (n == ("__classdict__" : Str)) = false := by decide)
    (hg : Gl (X.suite a ((a, oe) :: pn)) "isinstance" := by rfl) (hv2 : bootBuiltins "isinstance" = some (.builtin "isinstance") := by decide +kernel) (hz2 : szOk es.length = true := by decide)
    (he : starEach [.Name n p1, .Tuple es x1 p2] X.env = (false, eval (.Name n p1) X.env) :: starEach [.Tuple es x1 p2] X.env := by rfl) (he2 : starEach [.Tuple es x1 p2] X.env = (false, eval (.Tuple es x1 p2) X.env) :: starEach [] X.env := by rfl) (hpl : (backTo pos (starEach [.Tuple es x1 p2] X.env)).any (·.1) = false := by rfl) :
    SEc i a x cl d (X.suite a ((a, oe) :: pn)) W Γ (.Call (.Name "isinstance" p) [.Name n p1, .Tuple es x1 p2] [] pos) (mIs (hit ca tab x)) := by
  intro c sl st α σ H Q R hh h
  cases eb : hit ca tab x with
  | none => rw [eb] at h; exact False.elim h
  | some b =>
    rw [eb] at h
    obtain ⟨hcl, htab⟩ := hit_some eb
    obtain ⟨C, hk⟩ := hE _ _ htab
    rw [← hcl] at C hk
    have ecl := hh.2.1
    subst ecl
    obtain ⟨t, hp, ht⟩ := hc.pa
    refine ⟨_, pe_callB (X := X.suite a ((a, oe) :: pn)) (call_isDT C hz hf) hg hm hv2 (pa_cons (X := X.suite a ((a, oe) :: pn)) (pe_var (X := X.suite a ((a, oe) :: pn)) (i := i) hN hv hd hcd) (pa_cons (X := X.suite a ((a, oe) :: pn)) (pe_tup hp) pa_nil he2) he) (by decide) (by decide) he hpl, ?_⟩
    refine ⟨.ref a, hh.1, ht _ _ _ ⟨by rw [hc.len]; exact szOk_le hz2, fun tp h0 => ?_⟩⟩
    have G : Same H (upd H tp (.tup cs)) := same_upd h0
    have hh' := hh.step (α' := α) (.grow G)
    exact ⟨tp, cs, us, b, rfl, upd_same, hc.pr, held_d hh'.2, hk, h (.bl b) α _ (R.grow G) (.grow G) (.bl b)⟩
theorem sec_not (ha : SEc i a x cl d X W Γ ea fa) : SEc i a x cl d X W Γ (.UnaryOp .Not ea pos) (mUn gNot fa) := by
  intro c sl st α σ H Q R hh h
  refine ⟨_, pe_not pe_wp, ?_⟩
  refine ha c sl st α σ H _ R hh ((Vx.R.sat_bind.mp h).imp (fun d s1 hd v α1 H1 R1 S1 r1 => ?_) fun _ _ z => z)
  cases d with
  | bl k => exact ⟨k, rd_bl r1, hd _ α1 H1 R1 S1 (.bl _)⟩
  | _ => exact False.elim hd
theorem sec_one {op} (ha : SEc i a x cl d X W Γ ea fa) : SEc i a x cl d X W Γ (.BoolOp op [ea] pos) fa := fun c sl st α σ H Q R hh h => ⟨_, pe_one pe_wp, ha c sl st α σ H Q R hh h⟩
theorem sec_and {rest : List Expr} (ha : SEc i a x cl d X W Γ ea fa) (hb : SEc i a x cl d X W Γ (.BoolOp .And (eb :: rest) pos) fb) : SEc i a x cl d X W Γ (.BoolOp .And (ea :: eb :: rest) pos) (mAndV fa fb) := by
  intro c sl st α σ H Q R hh h
  refine ⟨_, pe_and pe_wp pe_wp, ?_⟩
  refine ha c sl st α σ H _ R hh ((Vx.R.sat_bind.mp h).imp (fun d s1 hd v α1 H1 R1 S1 r1 => ?_) fun _ _ z => z)
  cases eg : gBl d with
  | none => rw [eg] at hd; exact False.elim hd
  | some k =>
    rw [eg] at hd
    have ed := gBl_some eg
    subst ed
    refine ⟨k, rd_bl r1, ?_⟩
    have hd : (if k = true then fb sl s1 else .ok (.bl false) s1 : Vx.R D).Sat (PQ X.K c Γ sl α σ H Q) (PX X.K c Γ sl σ W) := hd
    cases k with
    | true =>
      rw [if_pos rfl] at hd ⊢
      exact hb c sl s1 α1 σ H1 Q R1 (hh.step S1) (hd.imp (fun k s2 hk v α2 H2 R2 S2 => hk v α2 H2 R2 (S1.trans S2)) fun _ _ z => z)
    | false =>
      rw [if_neg Bool.false_ne_true] at hd ⊢
      exact hd _ α1 H1 R1 S1 (.bl false)
theorem sssc_ret (ha : SEc i a x cl d X W Γ ea fa) : SSsc i a x cl d X W false ΓL Γ [.Return (some ea) pos] (sRet fa) Γ' := by
  intro c sl st α σ H D R hh h
  refine ⟨_, pss_one (ps_ret pe_wp), ?_⟩
  refine ha c sl st α σ H _ R hh ((Vx.R.sat_fl.mp h).imp (fun d s1 hd v α1 H1 R1 S1 r1 => ?_) fun x s1 hx => hx Γ σ)
  exact hd.1 Γ sl σ v α1 H1 R1 r1 fun z => nomatch z
theorem sssc_set (j : Nat) {y : Str} {pos' : Pos} (ha : SEc i a x cl d X W Γ ea fa) (hr : SSsc i a x cl d X W ρ ΓL Γ ss g1 Γ') (hN : X.N.Nodup) (hij : j ≠ i := by decide) (hΓ : Γ[j]? ≠ some true := by decide) (hi : X.N[j]? = some y := by rfl) (hx : Loc X.env.scope y := by first | exact Or.inl rfl | exact Or.inr rfl) (hs : swapsWith ea (some (.Name y pos')) pos.line X.env = pure false := by rfl)
    (hf : X.fn y = true ∨ X.env.scope.names.lookup y = some .local := by first | exact .inl rfl | exact .inr rfl) : SSsc i a x cl d X W ρ ΓL Γ (.Assign [.Name y pos'] ea pos :: ss) (sSeq (sSet j fa) g1) Γ' := by
  intro c sl st α σ H D R hh h
  refine ⟨_, pss_cons (ps_set hN hi hx pe_wp hs hf) pss_wp, ?_⟩
  have h : Fl.Sat (((fa sl st).fl sl fun v s => .nx (sl.set j (some v)) s).then g1) (PF X.K c Γ α σ H D.nx Γ') (PR X.K c ρ D.rt) (PF X.K c Γ α σ H D.bk ΓL) (PF X.K c Γ α σ H D.ct ΓL) (fun x l s => ∀ Γ'' σ'', PX X.K c Γ'' l σ'' W x s) := h
  refine ha c sl st α σ H _ R hh ?_
  cases er : fa sl st with
  | no => rw [er] at h; exact False.elim h
  | ex x1 s1 =>
    rw [er] at h
    exact h Γ σ
  | ok v s1 =>
    rw [er] at h
    intro u α1 H1 R1 S1 r1
    have R2 := R1.set hΓ r1
    have S2 : Stp (NN c Γ σ α) α H (NN c Γ (σ.set j (some u)) α1) α1 H1 := S1.nn.trans (.less fun a z => (nn_set hΓ a).mp z)
    refine hr c _ s1 α1 _ H1 D R2 ⟨?_, hh.2.step S2⟩ (FQ.from S2 h)
    rw [getElem?_set_ne' hij]
    exact hh.1

/-! ### try: body, except n as e: suite -/
theorem Rel.unset {i : Nat} (o : Option V) (R : Rel K c Γ sl st α σ H) (hi : Γ[i]? ≠ some true) : Rel K c Γ (sl.set i none) st α (σ.set i o) H := by
  have S : Stp (NN c Γ σ α) α H (NN c Γ (σ.set i o) α) α H := .less fun a z => (nn_set hi a).mp z
  refine ⟨by rw [List.length_set, List.length_set]; exact R.len, fun j d' h n => ?_, fun j h => ?_, fun j k a h1 h2 h3 h4 => ?_, R.sto.step S fun _ _ => rfl, R.bt, R.αB, R.αn, R.αf, R.fr⟩
  · rcases of_getElem?_set h with ⟨ej, ed, hl⟩ | ⟨ne, h'⟩
    · cases ed
    · obtain ⟨w, h1, h2⟩ := R.val j d' h' n
      exact ⟨w, by rw [getElem?_set_ne' ne]; exact h1, h2.step S⟩
  · have ne : i ≠ j := fun q => hi (q ▸ h)
    obtain ⟨d', a, o, h1, h2, h3, h4, h5⟩ := R.own j h
    exact ⟨d', a, o, by rw [getElem?_set_ne' ne]; exact h1, by rw [getElem?_set_ne' ne]; exact h2, h3, h4.step S, h5⟩
  · have n1 : i ≠ j := fun q => hi (q ▸ h1)
    have n2 : i ≠ k := fun q => hi (q ▸ h2)
    rw [getElem?_set_ne' n1] at h3
    rw [getElem?_set_ne' n2] at h4
    exact R.dist j k a h1 h2 h3 h4
def sTryAs (i : Nat) (ca : Nat → Nat) (tab : Nat → Option Bool) (fb : FS) (fs : Ex → FS) : FS := fun l s => match fb l s with
  | .ex x l' s' => match hit ca tab x with
    | some true => if i < l'.length then match fs x (l'.set i none) s' with
        | .nx l2 s2 => .nx (l2.set i none) s2
        | .rt v s2 => .rt v s2
        | _ => .no
      else .no
    | some false => .ex x l' s'
    | none => .no
  | r => r
theorem ss_tryAs {cv : Value} {y n : Str} {body suite : List Stmt} {b₀ : Stmt} {np pos' : Pos} {fb : FS} {fs : Ex → FS} (i : Nat) (ca : Nat → Nat) (tab : Nat → Option Bool) (hs : X.stack = X.env :: X.outer) (hf : X.env.frame = some X.env.locals) (hN : X.N.Nodup) (hc : Names X y cv) (tk : Takes X W)
    (ht : ∀ n b, tab n = some b → PySem.W.exmOne X.K (.ref (ca n)) cv = some b)
    (hb : ∀ (W' : WXc) (pn : List (Addr × Obj)) (xe : Value → Shared → Prop), Takes (X.tr pn xe) W' → PassesOwn (model X.prog X.w) X.A X.env xe → SSs (X.tr pn xe) W' ρ ΓL Γ body fb Γ')
    (hsu : ∀ (a : Addr) (oe : Obj) (pn : List (Addr × Obj)) (x : Ex) (cl : Value) (d : Option Addr), Zc cl d oe → (∃ vs, oe.data = .fields vs) → SSsc i a x cl d (X.suite a ((a, oe) :: pn)) W0 ρ ΓL Γ (b₀ :: suite) (fs x) Γ') (hG : offG Γ = true := by decide) (hG' : Γ'[i]? ≠ some true := by decide)
    (hi : X.N[i]? = some n := by rfl) (hln : X.env.kindOf n = some .local := by rfl) :
    SS X W ρ ΓL Γ (.Try body [.ExceptHandler (some (.Name y np)) (some n) (b₀ :: suite) pos'] [] [] pos) (sTryAs i ca tab fb fs) Γ' := by
  intro c sl st α σ H Dn R h
  have hΓ := offG_ok hG
  refine ⟨_, ps_try_as (tb := fun W' D σ H => ∀ (pn : List (Addr × Obj)) (xe : Value → Shared → Prop), Takes (X.tr pn xe) W' → PassesOwn (model X.prog X.w) X.A X.env xe → wpB (X.tr pn xe) body D σ H)
    (ts := fun a cls d D σ H => ∀ (oe : Obj) (pn : List (Addr × Obj)), Zc cls d oe → (∃ vs, oe.data = .fields vs) → wpB (X.suite a ((a, oe) :: pn)) (b₀ :: suite) D σ H) hs hf hN hi hln hc tk (fun W' pn xe t q => ⟨fun pins s σ H D I z => (pss_wp (X := X.tr pn xe) (e := body)).run pins s σ H D I (z pn xe t q)⟩)
    (fun a oe cls d pn z1 z2 => ⟨fun pins s σ H D I z => (pss_wp (X := X.suite a ((a, oe) :: pn)) (e := b₀ :: suite)).run pins s σ H D I (z oe pn z1 z2)⟩), ?_⟩
  intro pn xe t q
  refine hb _ pn xe t q ⟨c.B, H, α⟩ sl st α σ H Dn (R.rebase hΓ) (FQ.rebase (W := W) R (fun x1 l s' e => ?_) fun hne => ?_)
  · intro Γ'' σ'' cl dd α' H' R' rx
    unfold sTryAs at h
    rw [e] at h
    simp only at h
    obtain ⟨e1, _⟩ := id rx
    cases eb : hit ca tab x1 with
    | none => rw [eb] at h; exact False.elim h
    | some b =>
      rw [eb] at h
      obtain ⟨hcl, htab⟩ := hit_some eb
      have hex := ht _ _ htab
      rw [← hcl, ← e1] at hex
      refine ⟨b, hex, fun hbt a ha oe pn' z1 z2 => ?_, fun hbf => ?_⟩
      · subst hbt
        have S := Rel.based (Γ := Γ) (Γ'' := Γ) (σ := σ) R' hΓ
        have hw : leG Γ Γ'' = true := by
          unfold leG; rw [List.all_eq_true]; intro i _; cases q : Γ[i]? with
            | none => simp [List.getD_eq_getElem?_getD, q]
            | some b => cases b with
              | true => exact absurd q (hΓ i)
              | false => simp [List.getD_eq_getElem?_getD, q]
        have R1 : Rel X.K c Γ l s' α' σ'' H' := (R.unbase R').weak hw
        have R2 := R1.unset (some (.ref a)) (hΓ i)
        by_cases hl : i < l.length
        · have h : FQ X.K W ρ ΓL c Γ α σ H Dn Γ' (match fs x1 (l.set i none) s' with
            | .nx l2 s2 => .nx (l2.set i none) s2
            | .rt v s2 => .rt v s2
            | _ => .no) := by rw [if_pos hl] at h; exact h
          have S0 : Stp (NN c Γ σ'' α') α' H' (NN c Γ (σ''.set i (some (.ref a))) α') α' H' := .less fun a z => (nn_set (hΓ i) a).mp z
          have S1 : Stp (NN c Γ σ α) α H (NN c Γ (σ''.set i (some (.ref a))) α') α' H' := by
            refine S.trans ⟨⟨[], by simp⟩, fun b o hb n => ⟨hb, fun z => n ?_⟩⟩
            have z := (nn_set (hΓ i) b).mp z
            rcases z with (z | z) | ⟨j, z1, _⟩
            · exact .inl (.inl z)
            · exact .inl (.inr z)
            · exact absurd z1 (hΓ j)
          refine hsu a oe pn' x1 cl dd z1 z2 c _ s' α' _ H' _ R2 ⟨?_, ?_⟩ ?_
          · rw [List.getElem?_set_self (by rw [R1.len]; exact hl)]
          · refine rx.step ⟨⟨[], by simp⟩, fun b o hb n => ⟨hb, fun z => n ?_⟩⟩
            have z := (nn_set (hΓ i) b).mp z
            rcases z with (z | z) | ⟨j, z1, _⟩
            · exact .inl (.inl z)
            · exact .inl (.inr z)
            · exact absurd z1 (hΓ j)
          · cases ef : fs x1 (l.set i none) s' with
            | nx l2 s2 =>
              rw [ef] at h
              intro α2 σ2 H2 R3 S3
              have R4 := R3.unset none hG'
              refine h α2 _ H2 R4 (S1.trans (S3.trans (.less fun a z => (nn_set hG' a).mp z)))
            | rt d2 s2 => rw [ef] at h; exact h
            | bk l2 s2 => rw [ef] at h; exact False.elim h
            | ct l2 s2 => rw [ef] at h; exact False.elim h
            | ex x2 l2 s2 => rw [ef] at h; exact False.elim h
            | no => rw [ef] at h; exact False.elim h
        · rw [if_neg hl] at h
          exact False.elim h
      · subst hbf
        exact h Γ'' σ'' cl dd α' H' (R.unbase R') rx
  · unfold sTryAs at h
    cases ef : fb sl st with
    | nx l2 s2 => rw [ef] at h; exact h
    | rt d2 s2 => rw [ef] at h; exact h
    | bk l2 s2 => rw [ef] at h; exact h
    | ct l2 s2 => rw [ef] at h; exact h
    | ex x2 l2 s2 => exact absurd ef (hne x2 l2 s2)
    | no => rw [ef] at h; exact False.elim h
/-! ### try .. except .. else -/
def sTryE (ca : Nat → Nat) (tab : Nat → Option Bool) (fb fs fe : FS) : FS := fun l s => match fb l s with
  | .ex x l' s' => match hit ca tab x with
    | some true => (fs l' s').nox
    | some false => .ex x l' s'
    | none => .no
  | .nx l' s' => fe l' s'
  | r => r
theorem ss_tryE {cv : Value} {y : Str} {body suite orelse : List Stmt} {b₀ : Stmt} {np pos' : Pos} {fb fs fe : FS} (ca : Nat → Nat) (tab : Nat → Option Bool) (hs : X.stack = X.env :: X.outer) (hf : X.env.frame = some X.env.locals) (hc : Names X y cv) (tk : Takes X W)
    (ht : ∀ n b, tab n = some b → PySem.W.exmOne X.K (.ref (ca n)) cv = some b)
    (hb : ∀ (W' : WXc) (pn : List (Addr × Obj)) (xe : Value → Shared → Prop), Takes (X.tr pn xe) W' → PassesOwn (model X.prog X.w) X.A X.env xe → SSs (X.tr pn xe) W' ρ ΓL Γ body fb Γ)
    (hsu : ∀ (a : Addr) (oe : Obj) (pn : List (Addr × Obj)), SSs (X.suite a ((a, oe) :: pn)) W0 ρ ΓL Γ (b₀ :: suite) fs Γ')
    (ho : SSs X W ρ ΓL Γ orelse fe Γ') (hG : offG Γ = true := by decide) :
    SS X W ρ ΓL Γ (.Try body [.ExceptHandler (some (.Name y np)) none (b₀ :: suite) pos'] orelse [] pos) (sTryE ca tab fb fs fe) Γ' := by
  intro c sl st α σ H Dn R h
  have hΓ := offG_ok hG
  refine ⟨_, ps_try_onlyE (tb := fun W' D σ H => ∀ (pn : List (Addr × Obj)) (xe : Value → Shared → Prop), Takes (X.tr pn xe) W' → PassesOwn (model X.prog X.w) X.A X.env xe → wpB (X.tr pn xe) body D σ H)
    (ts := fun a cls d D σ H => ∀ (oe : Obj) (pn : List (Addr × Obj)), wpB (X.suite a ((a, oe) :: pn)) (b₀ :: suite) D σ H) (pss_wp (X := X) (e := orelse)) hs hf hc tk (fun W' pn xe t q => ⟨fun pins s σ H D I z => (pss_wp (X := X.tr pn xe) (e := body)).run pins s σ H D I (z pn xe t q)⟩)
    (fun a oe cls d pn _ _ => ⟨fun pins s σ H D I z => (pss_wp (X := X.suite a ((a, oe) :: pn)) (e := b₀ :: suite)).run pins s σ H D I (z oe pn)⟩), ?_⟩
  intro pn xe t q
  refine hb _ pn xe t q ⟨c.B, H, α⟩ sl st α σ H _ (R.rebase hΓ) (FQ.rebase (W := W) R (fun x1 l s' e => ?_) fun hne => ?_)
  · intro Γ'' σ'' cl dd α' H' R' rx
    unfold sTryE at h
    rw [e] at h
    simp only at h
    obtain ⟨e1, _⟩ := id rx
    cases eb : hit ca tab x1 with
    | none => rw [eb] at h; exact False.elim h
    | some b =>
      rw [eb] at h
      obtain ⟨hcl, htab⟩ := hit_some eb
      have hex := ht _ _ htab
      rw [← hcl, ← e1] at hex
      refine ⟨b, hex, fun hbt a ha oe pn' => ?_, fun hbf => ?_⟩
      · subst hbt
        have S := Rel.based (Γ := Γ) (Γ'' := Γ) (σ := σ) R' hΓ
        have R1 : Rel X.K c Γ l s' α' σ'' H' := (R.unbase R').weak (by unfold leG; rw [List.all_eq_true]; intro i _; cases q : Γ[i]? with
          | none => simp [List.getD_eq_getElem?_getD, q]
          | some b => cases b with
            | true => exact absurd q (hΓ i)
            | false => simp [List.getD_eq_getElem?_getD, q])
        refine hsu a oe pn' c l s' α' σ'' H' Dn R1 ?_
        have h2 := FQ.from S h
        cases ef : fs l s' with
        | nx l2 s2 => rw [ef] at h2; exact h2
        | rt d2 s2 => rw [ef] at h2; exact h2
        | bk l2 s2 => rw [ef] at h2; exact h2
        | ct l2 s2 => rw [ef] at h2; exact h2
        | ex x2 l2 s2 => rw [ef] at h2; exact False.elim h2
        | no => rw [ef] at h2; exact False.elim h2
      · subst hbf
        exact h Γ'' σ'' cl dd α' H' (R.unbase R') rx
  · unfold sTryE at h
    cases ef : fb sl st with
    | nx l2 s2 =>
      rw [ef] at h
      intro α1 σ1 H1 R1 S1
      exact ho c l2 s2 α1 σ1 H1 Dn R1 (FQ.from S1 h)
    | rt d2 s2 => rw [ef] at h; exact h
    | bk l2 s2 => rw [ef] at h; exact h
    | ct l2 s2 => rw [ef] at h; exact h
    | ex x2 l2 s2 => exact absurd ef (hne x2 l2 s2)
    | no => rw [ef] at h; exact False.elim h
end
end Vx

/-! VExc3: calls of defs that raise, tables of classes. -/
namespace Vx
open PySem PySem.Spec L2
variable [Wd]
section
variable {X : Cx} {W : WXc} {ρ : Bool} {Γ Γ' Γ'' ΓL : List Bool} {e a b : Expr} {es : List Expr} {x : Str} {pos p : Pos}
theorem se_cX {k j : Nat} {m : List D → Sto → R D} {fr : FA} (C : CalX X.prog X.w X.K X.mg X.base k x ρ m) (hr : Room j X.A) (tk : Takes X W) (ha : SA X W Γ (e :: es) fr) (hk : k ≤ j := by first | decide | omega)
    (hg : Gl X x := by rfl) (hd : (x == ("__debug__" : Str)) = false := by decide) (he : starEach (e :: es) X.env = (false, eval e X.env) :: starEach es X.env := by rfl) (hpl : (backTo pos (starEach es X.env)).any (·.1) = false := by rfl) : SE X W Γ (.Call (.Name x p) (e :: es) [] pos) (mCallX m fr) := by
  obtain ⟨q, fd, ps, G, hm, kp, hb⟩ := C.ex
  exact se_callX tk G (hr.mono hk) hm kp hb ha hg hd he hpl
end
theorem takes_w0 {X : Cx} : Takes X W0 := takes_none
section
variable {P : Program} {w : World} {K : PySem.W.Frag} {mg : Str → Option Value} {base : Heap} {ρ : Bool}
theorem calX_zero {x : Str} {stm : Stmt} {ps : List Str} {k : Nat} (F : Dfn K mg x stm ps) : CalX P w K mg base k x ρ (fun _ _ => .no) := by
  obtain ⟨q, fd, F, hm, hbd⟩ := F.ex
  refine ⟨q, fd, ps, ⟨fun vs H Q E h => ?_, fun A outer s H args us vs Q E _ _ _ _ h => ?_⟩, hm, F.kp, hbd⟩
  · obtain ⟨_, _, _, _, _, _, _, _, h⟩ := h
    exact False.elim h
  · obtain ⟨_, _, _, _, _, _, _, _, h⟩ := h
    exact False.elim h
end
def tabL (l : List (Nat × Bool)) (n : Nat) : Option Bool := l.lookup n
theorem tabL_cons {n m : Nat} {b c : Bool} {l : List (Nat × Bool)} (h : tabL ((n, b) :: l) m = some c) : (m = n ∧ c = b) ∨ tabL l m = some c := by
  unfold tabL at h ⊢
  rw [List.lookup_cons] at h
  by_cases e : (m == n) = true
  · rw [e] at h
    exact .inl ⟨beq_iff_eq.mp e, (Option.some.inj h).symm⟩
  · simp only [e] at h
    exact .inr h
section
variable {K : PySem.W.Frag} {ca : Nat → Nat} {cv : Value} {us : List Value} {n : Nat} {b : Bool} {l : List (Nat × Bool)}
theorem hx_nil : ∀ m c, tabL [] m = some c → PySem.W.exmOne K (.ref (ca m)) cv = some c := fun m c h => by cases h
theorem hx_cons (h : PySem.W.exmOne K (.ref (ca n)) cv = some b) (t : ∀ m c, tabL l m = some c → PySem.W.exmOne K (.ref (ca m)) cv = some c) : ∀ m c, tabL ((n, b) :: l) m = some c → PySem.W.exmOne K (.ref (ca m)) cv = some c := fun m c z => by
  rcases tabL_cons z with ⟨rfl, rfl⟩ | z
  · exact h
  · exact t m c z
theorem hi_nil : ∀ m c, tabL [] m = some c → ExcC K (ca m) ∧ PySem.W.kitOne K (.ref (ca m)) cv = some c := fun m c h => by cases h
theorem hi_cons (g : ExcC K (ca n)) (h : PySem.W.kitOne K (.ref (ca n)) cv = some b) (t : ∀ m c, tabL l m = some c → ExcC K (ca m) ∧ PySem.W.kitOne K (.ref (ca m)) cv = some c) : ∀ m c, tabL ((n, b) :: l) m = some c → ExcC K (ca m) ∧ PySem.W.kitOne K (.ref (ca m)) cv = some c := fun m c z => by
  rcases tabL_cons z with ⟨rfl, rfl⟩ | z
  · exact ⟨g, h⟩
  · exact t m c z
theorem ha_nil : ∀ m c, tabL [] m = some c → ExcC K (ca m) ∧ PySem.W.kitAny K (.ref (ca m)) us = some c := fun m c h => by cases h
theorem ha_cons (g : ExcC K (ca n)) (h : PySem.W.kitAny K (.ref (ca n)) us = some b) (t : ∀ m c, tabL l m = some c → ExcC K (ca m) ∧ PySem.W.kitAny K (.ref (ca m)) us = some c) : ∀ m c, tabL ((n, b) :: l) m = some c → ExcC K (ca m) ∧ PySem.W.kitAny K (.ref (ca m)) us = some c := fun m c z => by
  rcases tabL_cons z with ⟨rfl, rfl⟩ | z
  · exact ⟨g, h⟩
  · exact t m c z
end
section
variable {K : PySem.W.Frag} {A C : Addr} {b : Bool}
theorem kit_own (hd : PySem.W.hasDictIn K C = true) (ht : PySem.W.typeIn K (.ref C) = some (.type "type")) (h : PySem.W.subIn K (.ref A) (.ref C) = some b) (hs : PySem.W.subIn K (.ref A) (.ref A) = some true) : PySem.W.kitOne K (.ref A) (.ref C) = some b := by
  unfold PySem.W.kitOne
  by_cases e : A = C
  · subst e
    rw [hs] at h
    cases h
    simp
  · have ne : (Value.ref A == Value.ref C) = false := beq_eq_false_iff_ne.mpr fun q => e (Value.ref.inj q)
    rw [ne, if_neg Bool.false_ne_true]
    obtain ⟨cd, hc, _⟩ := PySem.W.any_some hd
    have e2 : ((PySem.W.clsIn K C).isSome && PySem.W.typeIn K (.ref C) == some (.type "type")) = true := by rw [hc, ht] <;> rfl
    show (if ((PySem.W.clsIn K C).isSome && PySem.W.typeIn K (.ref C) == some (.type "type")) = true then PySem.W.subIn K (.ref A) (.ref C) else none) = some b
    rw [if_pos e2]
    exact h
theorem kit_type {T : String} (hm : PySem.W.kitMeta T = true) (h : PySem.W.subIn K (.ref A) (.type T) = some b) : PySem.W.kitOne K (.ref A) (.type T) = some b := by
  unfold PySem.W.kitOne
  have ne : (Value.ref A == Value.type T) = false := beq_eq_false_iff_ne.mpr fun q => nomatch q
  rw [ne, if_neg Bool.false_ne_true]
  show (if PySem.W.kitMeta T = true then PySem.W.subIn K (.ref A) (.type T) else none) = some b
  rw [if_pos hm]
  exact h
end
end Vx

/-! VKeys: sorted(d.keys()), any(xs), dicts of the store changed. -/
namespace Vx
open PySem PySem.Spec L2
variable [Wd]
/-- the view d.keys() at p -/
def keysO (p d : Addr) : HO := .ext fun h => PySem.W.KdlKeysView h p d
theorem keysO_ok {P : Program} {w : World} {H : Hp} {h : Heap} {p d : Addr} (e : h.get? p = some { cls := .type "dict_keys", data := .fields #[.ref d] }) : ObjOk P w H h p (keysO p d) :=
  ⟨⟨_, e, rfl, rfl⟩, ⟨_, e⟩, fun h1 h2 x k => let ⟨o, ho, r⟩ := x; ⟨o, k o ho, r⟩⟩
def tKeysV (td : TE) : TE := fun σ H Q => td σ H fun x H1 => ∃ a kvs, x = .ref a ∧ Rd H1 a (.dK kvs) ∧ ∀ p, H1 p = none → Q (.ref p) (upd H1 p (keysO p a))
section
variable {X : Cx} {e : Expr} {td : TE} {apos cpos : Pos}
theorem pe_keysV (he : PE X e td) (hbase : attributeBase e "keys" X.env (eval e X.env) = eval e X.env := by rfl) (hline : (apos.endLine == cpos.line) = true := by rfl) : PE X (.Call (.Attribute e "keys" apos) [] [] cpos) (tKeysV td) := by
  refine ⟨fun pins s σ H Q I h => ?_⟩
  refine wpAny_Call_method (T := "dict") (id := "dict.keys") hbase rfl hline PySem.F.plainAttrs_dict PySem.F.slot_dict_keys PySem.F.type_dict_keys (thn (he.run pins s σ H _ I h) fun u s1 ⟨x, H1, I1, rx, a, kvs, ex, hd, q⟩ => ?_)
  subst ex
  obtain rfl : u = Value.ref a := rx
  obtain ⟨z, lo, vs, rel, dd⟩ := dk_rd I1.hok hd
  refine ⟨dd.typeIs, dd.mapOf.noDict, ?_⟩
  show wpAny _ _ (callWith cpos (.builtin "dict.keys") [.ref a] [] []) _ X.xe s1
  refine method_meetsIn PySem.F.slot_dict_keys PySem.F.entry_dict_keys rfl (PySem.evalArgs_none ⟨rfl, dd.typeIs, PySem.F.args_dict_keys_1 _, _, PySem.W.kdl_meets_keys (mixKind X.prog X.w) a lo, ⟨vs, dd⟩, ?_⟩)
  exact ⟨.ref s1.heap.objs.size, upd H1 s1.heap.objs.size (keysO s1.heap.objs.size a), I1.laid (t' := s1.toks) (fun b u e => Heap.get?_push_of_some _ e) (Nat.le_refl _) (keysO_ok (Heap.get?_push_size _ rfl)), rfl, q _ (I1.hok.fresh (Nat.le_refl _))⟩
end
def rSortKV : List V → Hp → VK → Prop := fun xs H Q => ∃ (p a : Addr) (kvs : List (Key × V)) (ks : List Int), xs = [.ref p] ∧ H p = some (keysO p a) ∧ Rd H a (.dK kvs) ∧ kvs.map (·.1) = ks.map Sum.inl ∧ ks.length < 64 ∧
  ∀ (ys : List Int) (q : Addr), ys.Perm ks → ys.Pairwise (· ≤ ·) → H q = none → Q (.ref q) (upd H q (.lst (ys.map V.int)))
theorem cr_sortKV {X : Cx} (hcalm : X.calm = true) : CallR X (.builtin "sorted") rSortKV := by
  intro pins s σ H xs us Q I r q
  obtain ⟨p, a, kvs, ks, rfl, hp, hd, hks, h64, q⟩ := q
  obtain rfl := Vals.ref1 r
  have view : PySem.W.KdlKeysView s.heap p a := (show ObjOk X.prog X.w H s.heap p (keysO p a) from I.hok p _ hp).1
  obtain ⟨z, lo, vs, rel, dd⟩ := dk_rd I.hok hd
  obtain ⟨ep, hat⟩ := dd.dictAt
  have hkeys : vs.map (·.1) = ks.map Sum.inl := rel.keys.symm.trans hks
  have hl : vs.length = ks.length := by simpa using congrArg List.length hkeys
  have h16 : vs.length ≤ sizeLine := by rw [hl, sizeLine_eq]; omega
  refine Calls.call_function_entry PyProof.Rows.kind_sorted PyProof.Rows.plain_sorted PyProof.Rows.entry_sorted (PyProof.Rows.args_sorted1 _) ?_
  unfold Builtin.«sorted»
  refine wpAny_bind (m := checkCount "sorted" 1 1 _) (wpAny_pure ?_)
  refine wpAny_bind (PySem.W.kdu_collect (A := X.A.in1) (PySem.W.kdl_keys (knd := mixKind X.prog X.w) (kvs := vs) (ep := ep) (r := p) (d := a)) (I.ok.hd hcalm) ⟨view, hat⟩ h16 fun h' tk acc hk hacc => ?_)
  have hal : acc.toList.length = ks.length := by rw [Array.length_toList, hacc.1, hl]
  have hS : PyProof.Rows.IntsAre acc.toList ks := L2.ints_each hal fun j v e => by
    obtain ⟨k, x, e1, e2⟩ := hacc.2 j v (by rw [← Array.getElem?_toList]; exact e)
    have e3 : (vs.map (·.1))[j]? = some k := by rw [List.getElem?_map, e1]; rfl
    rw [hkeys, List.getElem?_map] at e3
    obtain ⟨y, e4, rfl⟩ := Option.map_eq_some_iff.mp e3
    rcases keyIs_shape (show keyIs (Sum.inl y) v = true from e2) with ⟨i, t, ek, ev⟩ | ⟨i, t, ek, ev⟩
    · cases ek
      exact ⟨y, t, e4, ev⟩
    · cases ek
  have I1 : Inv X pins σ H { s with heap := h', toks := tk } := I.kept hk
  refine wpAny_bind (wpAny_newList ?_ (by rw [hal, sizeLine_eq]; omega))
  have hoL : (h'.push (PyProof.Rows.seqObj "list" acc.toList.toArray 0)).get? h'.objs.size = some (PyProof.Rows.seqObj "list" acc.toList.toArray 0) := Heap.get?_push_size _ rfl
  show wpAny _ _ _ _ _ { s with heap := h'.push (PyProof.Rows.seqObj "list" acc.toList.toArray 0), toks := tk }
  refine wpAny_bind (wpAny_holding (wpAny_call_entry PyProof.Rows.slot_list_sort ⟨_, hoL, rfl⟩ PyProof.Rows.entry_list_sort
    (PyProof.Rows.list_sort_tree (s := { s with heap := h'.push (PyProof.Rows.seqObj "list" acc.toList.toArray 0), toks := tk }) hoL hS (by rw [hal]; exact h64) fun out ys g1 g2 g3 => ⟨_, rfl, ?_⟩) (PyProof.Rows.args_list_sort _)))
  obtain ⟨e', he'⟩ := PyProof.Rows.sortedHeap_at (vs := acc.toList) (out := out) hoL
  have hlen : (ys.map V.int).length ≤ sizeLine := by
    rw [List.length_map, g2.length_eq, sizeLine_eq]
    omega
  refine wpAny_pure ⟨_, rfl, .ref h'.objs.size, upd H h'.objs.size (.lst (ys.map V.int)), I1.laid (t' := tk) (fun b u e => ?_) (Nat.le_refl _)
    (show ObjOk X.prog X.w _ _ _ (.lst (ys.map V.int)) from ⟨hlen, out.toList, e', vals_of_ints g1, by rw [Array.toArray_toList]; exact he'⟩), rfl, q ys _ g2 g3 (I1.hok.fresh (Nat.le_refl _))⟩
  have hb : b < h'.objs.size := Heap.lt_size e
  rw [PyProof.Rows.sortedHeap_old (Nat.ne_of_lt hb) (by rw [Heap.size_push]; exact Nat.lt_succ_of_lt hb)]
  exact Heap.get?_push_of_some _ e
/-! ### sorted(d.keys()) -/
def gSortKeys : List D → Option D
  | [.dic kvs] => match intsD (kvs.map (·.1)) with
    | some ns => if ns.length < 64 then some (.lst ((sortI ns).map .int)) else none
    | none => none
  | _ => none
section
variable {X : Cx} {W : WXc} {ρ : Bool} {Γ Γ' Γ'' ΓL : List Bool} {e a b : Expr} {es : List Expr} {s : Stmt} {f fa fb fc : FE} {x : Str} {pos p : Pos}
variable {K : PySem.W.Frag} {N N' T : Addr → Prop} {α α' : List Addr} {H H' : Hp} {c c' : Cz} {sl : Sl} {st st' : Sto} {σ : St}
theorem rks_ints : ∀ {ds : List (D × D)} {vs : List (Key × V)} {ns : List Int}, RKs K N α H ds vs → intsD (ds.map (·.1)) = some ns → vs.map (·.1) = ns.map Sum.inl
  | _, _, ns, .nil, e => by cases e; rfl
  | _, _, ns, .cons (d := d) (ds := ds) hk _ t, e => by
    cases hk with
    | int i =>
      rw [List.map_cons] at e
      cases e2 : intsD (ds.map (·.1)) with
      | none => simp [intsD, e2] at e
      | some ms =>
        simp [intsD, e2] at e
        subst e
        rw [List.map_cons, List.map_cons, rks_ints t e2]
    | str z => simp [intsD] at e
theorem sf_sortKeys {p2 apos cpos : Pos} (hcalm : X.calm = true) (hm : X.mg "sorted" = none) (ha : SB X W Γ a fa) (hbase : attributeBase a "keys" X.env (eval a X.env) = eval a X.env := by rfl) (hline : (apos.endLine == cpos.line) = true := by rfl) (hg : Gl X "sorted" := by rfl)
    (he : starEach [.Call (.Attribute a "keys" apos) [] [] cpos] X.env = (false, eval (.Call (.Attribute a "keys" apos) [] [] cpos) X.env) :: starEach [] X.env := by rfl) :
    SF X W Γ (.Call (.Name "sorted" p2) [.Call (.Attribute a "keys" apos) [] [] cpos] [] pos) (mArgsO gSortKeys (mCons fa mNil)) := by
  intro c sl st α σ H Q R h
  refine ⟨_, pe_callB (cr_sortKV hcalm) hg hm bv_sorted (pa_cons (pe_keysV pe_wp hbase hline) pa_nil he), ?_⟩
  have h2 : ((fa sl st).bind fun x s => liftO (gSortKeys [drf s x]) s).Sat (PQf X.K c Γ sl α σ H Q) (PX X.K c Γ sl σ W) := by
    unfold mArgsO mCons mNil at h
    cases e : fa sl st with
    | ok d s1 => rw [e] at h; exact h
    | ex x s1 => rw [e] at h; exact h
    | no => rw [e] at h; exact h
  refine ha c sl st α σ H _ R ((Vx.R.sat_bind.mp h2).imp (fun d s1 hd v α1 H1 R1 S1 r1 => ?_) fun _ _ z => z)
  have r2 := RB.drf R1 r1
  cases eg : gSortKeys [drf s1 d] with
  | none => rw [eg] at hd; exact False.elim hd
  | some z =>
    rw [eg] at hd
    unfold gSortKeys at eg
    split at eg
    · rename_i kvs ed
      have ed2 : drf s1 d = .dic kvs := by simpa using ed
      rw [ed2] at r2
      obtain ⟨q, vs, rfl, hq, rk⟩ := r2.dic
      cases ei : intsD (kvs.map (·.1)) with
      | none => rw [ei] at eg; cases eg
      | some ns =>
        rw [ei] at eg
        by_cases hl : ns.length < 64
        · simp only [hl, if_true] at eg
          cases eg
          refine ⟨q, vs, rfl, hq, fun p hp => ?_⟩
          have G : Same H1 (upd H1 p (keysO p q)) := same_upd hp
          refine ⟨p, q, vs, ns, rfl, upd_same, ?_, rks_ints rk ei, hl, fun ys y h1 h3 hy => ?_⟩
          · rcases hq with hq | ⟨o, hq⟩
            · exact .inl (G _ _ hq)
            · exact .inr ⟨o, G _ _ hq⟩
          · rw [sorted_one (h1.trans (sortI_perm ns).symm) h3 (sortI_sorted ns)]
            exact PQf.new hd (R1.grow G) (S1.trans (.grow G)) (fun _ m => R.sto.tr m) hy (rds_ints _)
        · simp only [hl, if_false] at eg
          cases eg
    · cases eg
/-! ### any -/
theorem bv_any : bootBuiltins "any" = some (.builtin "any") := by decide +kernel
def boolsD : List D → Option (List Bool)
  | [] => some []
  | .bl b :: r => (boolsD r).map (b :: ·)
  | _ => none
def gAny : List D → Option D
  | [.lst ds] => (boolsD ds).map fun bs => .bl (bs.any id)
  | _ => none
theorem rds_bools : ∀ {ds : List D} {vs : List V} {bs : List Bool}, RDs K N α H ds vs → boolsD ds = some bs → vs = bs.map V.bl
  | _, _, bs, .nil, e => by cases e; rfl
  | _, _, bs, .cons (d := d) (ds := ds) r t, e => by
    cases r with
    | bl b =>
      cases e2 : boolsD ds with
      | none => simp [boolsD, e2] at e
      | some ms =>
        simp [boolsD, e2] at e
        subst e
        rw [List.map_cons, rds_bools t e2]
    | _ => simp [boolsD] at e
theorem calld_any (hc : X.calm = true) : CallD X (.builtin "any") gAny := by
  refine ⟨_, cr_any hc, fun N T α H xs vs d Q hN r e q => ?_⟩
  unfold gAny at e
  split at e
  · rename_i ds
    obtain ⟨v, rfl, rx⟩ := r.one
    obtain ⟨a, ws, rfl, hs, r⟩ := rx.lst
    cases hi : boolsD ds with
    | none => rw [hi] at e; cases e
    | some bs =>
      rw [hi] at e
      cases e
      rw [rds_bools r hi] at hs
      exact ⟨a, bs, rfl, hs, q _ _ (fun _ _ z => z) (.bl _)⟩
  · cases e
/-! ### o[k] = e, o a dict of the store -/
def dicAt (s : Sto) (d : D) : Option (Nat × List (D × D)) := match d with
  | .obj n => match s[n]? with
    | some (.dic kvs) => some (n, kvs)
    | _ => none
  | _ => none
def sPutDO (o a k : FE) : FS := fun l s => (a l s).fl l fun y s => (o l s).fl l fun x s => (k l s).fl l fun z s => match dicAt s x with
  | some (n, kvs) => if (isKey z && decide (kvs.length < 16777216)) = true then .nx l (s.set n (.dic (dputL kvs z y))) else .no
  | none => .no
theorem dicAt_some {s : Sto} {d : D} {n : Nat} {xs : List (D × D)} (h : dicAt s d = some (n, xs)) : d = .obj n ∧ s[n]? = some (.dic xs) := by
  unfold dicAt at h
  split at h
  · split at h
    · cases h
      rename_i e
      exact ⟨rfl, e⟩
    · cases h
  · cases h
theorem Rel.dicAt (R : Rel K c Γ sl st α σ H) {d : D} {v : V} {n : Nat} {xs : List (D × D)} (r : RD K (NN c Γ σ α) α H d v) (h : Vx.dicAt st d = some (n, xs)) : ∃ a vs, v = .ref a ∧ α[n]? = some a ∧ H a = some (.dK vs) ∧ RKs K (NN c Γ σ α) α H xs vs := by
  obtain ⟨rfl, e⟩ := dicAt_some h
  cases r with
  | obj ha =>
    obtain ⟨ob, e1, ho⟩ := R.at_ ha
    rw [e] at e1
    cases e1
    obtain ⟨vs, h1, h2⟩ := ho
    exact ⟨_, vs, rfl, ha, h1, h2⟩
theorem ss_putDO {i : Expr} (hu : X.A.units + 1 < cLine) (ha : SE X W Γ a fa) (ho : SE X W Γ b fb) (hi : SE X W Γ i fc) (hs : swapsWithSole [.Subscript b i p] a pos.line X.env = pure false := by rfl) (hw : swappedStores [.Subscript b i p] a X.env = pure none := by rfl)
    (h1 : (assignEach [.Subscript b i p] X.env).map (·.2) = [assign (.Subscript b i p) X.env] := by rfl)
    (pg : ∀ {t u : TE} {r : TSet}, PE X b t → PE X i u → PSet X r → PG X (.Subscript b i p) (L2.gSub t u r) := by intro t u r ht hu hr; exact pg_sub ht hu hr) :
    SS X W ρ ΓL Γ (.Assign [.Subscript b i p] a pos) (sPutDO fb fa fc) Γ := by
  intro c sl st α σ H Dn R h
  refine ⟨_, ps_asg pe_wp (pg pe_wp pe_wp (set_dict hu)) hs hw h1, ?_⟩
  refine ha c sl st α σ H _ R ((Vx.R.sat_fl.mp h).imp (fun y s1 hy v α1 H1 R1 S1 r1 => ?_) fun x s1 hx => hx Γ σ)
  refine ho c sl s1 α1 σ H1 _ R1 ((Vx.R.sat_fl.mp hy).imp (fun x s2 hx vx α2 H2 R2 S2 r2 => ?_) fun x s1 hx => hx Γ σ)
  refine hi c sl s2 α2 σ H2 _ R2 ((Vx.R.sat_fl.mp hx).imp (fun z s3 hz w α3 H3 R3 S3 r3 => ?_) fun x s1 hx => hx Γ σ)
  have S23 := S2.trans S3
  cases e3 : Vx.dicAt s3 x with
  | none => simp only [e3] at hz; exact False.elim hz
  | some u =>
    obtain ⟨n, xs⟩ := u
    simp only [e3] at hz
    obtain ⟨q, vs, rfl, hq, hv, rv⟩ := R3.dicAt (r2.step S3.nn) e3
    by_cases hk : (isKey z && decide (xs.length < 16777216)) = true
    · rw [if_pos hk] at hz
      rw [Bool.and_eq_true] at hk
      obtain ⟨k, rk, rfl⟩ := key_of (T := fun _ => False) hk.1 (RB.of r3 fun _ z => z.elim)
      have mq : q ∈ α3 := List.mem_of_getElem? hq
      have S : Stp (NN c Γ σ α3) α3 H3 (NN c Γ σ α3) α3 (upd H3 q (.dK (putK vs k v))) := stp_upd mq
      show ∃ a H', V.ref q = .ref a ∧ DPut H3 a (kV k) v H' ∧ Dn.nx σ H'
      refine ⟨q, _, rfl, .inl ⟨vs, k, hv, rfl, by rw [← rv.length, sizeLine_eq]; exact of_decide_eq_true hk.2, rfl⟩, ?_⟩
      obtain ⟨R4, S4⟩ := R3.changeO (ob' := .dic (dputL xs z y)) (o' := .dK (putK vs k v)) hq ⟨_, upd_same, RKs.step S (rv.put rk (r1.step S23.nn))⟩
      exact hz α3 σ _ R4 ((S1.trans (S23.trans S4)).nn)
    · rw [if_neg hk] at hz
      exact False.elim hz
end
end Vx

/-! VExc4: errors with a field: raised, and read in a suite. -/
namespace Vx
open PySem PySem.Spec L2
variable [Wd]
/-- __init__(self, f): self.f = f -/
def spX (K : PySem.W.Frag) (C : Addr) (f : Str) : Sp := fun vs H Q _ => ∃ (a : Addr) (y : V), vs = [.ref a, y] ∧ OexC K C ∧ PySem.W.findIn K (.ref C) f = some none ∧ H a = some (exo a C none) ∧
  ∀ dx, H dx = none → dx ≠ a → Q .non (upd (upd H dx (exd dx [(f, y)])) a (exo a C (some dx)))
theorem refs_tail : ∀ l : List Value, PySem.W.excTail [.type "ValueError", .type "Exception", .type "BaseException", .type "object"] l = true → PySem.HandSPX.refsVE l = true := by
  intro l
  induction l with
  | nil => intro e; cases e
  | cons a r ih =>
    intro e
    cases a <;> first | exact ih e | exact e
theorem oexC_of {K : PySem.W.Frag} {C : Nat} (q : PySem.W.excInitIn K C [.type "ValueError", .type "Exception", .type "BaseException", .type "object"] "ValueError.__new__" = true) (hd : PySem.W.hasDictIn K C = true)
    (sa : PySem.W.findIn K (.ref C) "__setattr__" = some (some (.builtin "object.__setattr__"))) (sb : PySem.W.subIn K (.ref C) (.type "BaseException") = some true) (ty : PySem.W.typeIn K (.ref C) = some (.type "type")) (kp : PySem.W.keepIn K (.ref C) = true) : OexC K C := by
  refine ⟨?_, sa, sb, ty, kp⟩
  unfold PySem.W.excInitIn at q
  split at q
  · rename_i dd cd sl ho
    split at q
    · rename_i C' bm k0 k1 k2 k3 n k5 hm hs
      simp only [Bool.and_eq_true, beq_iff_eq, Bool.not_eq_true'] at q
      obtain ⟨⟨⟨rfl, rfl⟩, hdel⟩, ht⟩ := q
      have hh : cd.hasDict = true := by
        unfold PySem.W.hasDictIn PySem.W.clsIn at hd
        rw [ho] at hd
        exact hd
      obtain ⟨nm, bs, mro, ns, qn, hdc, sn, sub, ab, col, del⟩ := cd
      dsimp only at hm hdel hh
      subst hm hdel hh
      have hsl : sl = #[k0, k1, k2, k3, some (.builtin "ValueError.__new__"), k5] := by
        obtain ⟨l⟩ := sl
        simp only at hs
        rw [hs]
      subst hsl
      exact ⟨nm, qn, ns, bs, bm, sn, sub, ab, col, dd, k0, k1, k2, k3, k5, ho, refs_tail bm ht⟩
    · cases q
  · cases q
structure XIni (P : Program) (w : World) (K : PySem.W.Frag) (mg : Str → Option Value) (base : Heap) (k : Nat) (x : Str) (C : Nat) (f : Str) : Prop where
  ex : ∃ (q : Addr) (fd : FuncData) (ps : List Str), FnOk P w K mg base CX0 k q fd ps (spX K C f) ∧ mg x = some (.ref C) ∧ PySem.W.findIn K (.ref C) "__init__" = some (some (.ref q)) ∧ PySem.W.typeIn K (.ref q) = some (.type "function") ∧ Binds K fd ps []
  ox : OexC K C
  fn : PySem.W.findIn K (.ref C) f = some none
/-- the class's __init__, as it stands behind the top -/
structure XDfn (K : PySem.W.Frag) (mg : Str → Option Value) (x : Str) (C : Nat) (f qual : Str) (st : Stmt) (ps : List Str) : Prop where
  ex : ∃ (q : Addr) (fd : FuncData), Fun K "__init__" qual st q fd ∧ mg x = some (.ref C) ∧ PySem.W.findIn K (.ref C) "__init__" = some (some (.ref q)) ∧ PySem.W.typeIn K (.ref q) = some (.type "function") ∧ Binds K fd ps []
  ox : OexC K C
  fn : PySem.W.findIn K (.ref C) f = some none
section
variable {P : Program} {w : World} {K : PySem.W.Frag} {mg : Str → Option Value} {base : Heap}
theorem xini_of {x f qual : Str} {C : Nat} {stm : Stmt} {N ps : List Str} {k : Nat} (F : XDfn K mg x C f qual stm ps) (S : FnScope N ps (defScope stm)) (hN : N.length = 2) (hp : ps.length = 2)
    (hb : ∀ (q : Addr) (cdv : Value) (A : Around) (outer : List Env) (s : Shared) (H : Hp) (E : XK), PSs (cxOf CX0 P w K mg base N qual (defScope stm) q cdv A outer s H E).nox (defBody stm) (tOst K f (tVar 0) (tVar 1))) : XIni P w K mg base (k + 1) x C f := by
  obtain ⟨q, fd, F1, hm, iC, tI, hbd⟩ := F.ex
  refine ⟨⟨q, fd, ps, F1.ok S (fun vs H Q E h => ?_) (fun cdv A outer s H vs Q E hr h => ?_), hm, iC, tI, hbd⟩, F.ox, F.fn⟩
  · obtain ⟨a, y, rfl, _⟩ := h
    rw [hp]; rfl
  · obtain ⟨a, y, rfl, ox, fn, ha, hq⟩ := h
    refine ⟨_, hb q cdv A outer s H E, ?_⟩
    have e : start N [V.ref a, y] = [some (.ref a), some y] := by
      match N, hN with
      | [n1, n2], _ => rfl
    rw [e]
    exact ⟨y, rfl, .ref a, rfl, a, C, rfl, ox, fn, .inl ⟨ha, fun dx h0 hne => hq dx h0 hne⟩⟩
theorem XIni.mono {x f : Str} {C j k : Nat} (h : XIni P w K mg base j x C f) (hk : j ≤ k) : XIni P w K mg base k x C f := by
  obtain ⟨⟨q, fd, ps, F, h1⟩, h2, h3⟩ := h
  exact ⟨⟨q, fd, ps, F.mono hk, h1⟩, h2, h3⟩
end
section
variable {X : Cx} {W : WXc} {ρ : Bool} {Γ Γ' Γ'' ΓL : List Bool} {e ea eb : Expr} {es : List Expr} {ss : List Stmt} {f x : Str} {fa fb fc : FE} {n : Str} {pos p p1 p2 : Pos} {g1 g2 : FS}
/-- raise X(e) -/
def sRaiseF (C n : Nat) (f : Str) (a : FE) : FS := fun l s => (a l s).fl l fun d s => .ex ⟨C, n, [(f, d)]⟩ l s
theorem xd_heap {H1 : Hp} {a dx : Addr} {C : Addr} {f : Str} {v : V} (h0 : H1 a = none) (hne : dx ≠ a) : upd (del (upd (upd (upd H1 a (exo a C none)) dx (exd dx [(f, v)])) a (exo a C (some dx))) a) dx (.xd [(f, v)]) = upd H1 dx (.xd [(f, v)]) := by
  funext b
  by_cases hb : b = dx
  · subst hb
    rw [upd_same, upd_same]
  · rw [upd_ne hb, upd_ne hb]
    by_cases hba : b = a
    · subst hba
      rw [del_same, h0]
    · rw [del_ne hba, upd_ne hba, upd_ne hb, upd_ne hba]
theorem ss_raiseF {k j : Nat} {pos' : Pos} {C : Nat} (n : Nat) (hc : X.calm = true) (tk : Takes X W) (I : XIni X.prog X.w X.K X.mg X.base k x C f) (hr : Room j X.A) (ha : SE X W Γ e fa) (hk : k + 1 ≤ j := by first | decide | omega) (hg : Gl X x := by rfl) (hd : (x == ("__debug__" : Str)) = false := by decide)
    (he : starEach [e] X.env = (false, eval e X.env) :: starEach [] X.env := by rfl) (hpl : (backTo pos (starEach [] X.env)).any (·.1) = false := by rfl) :
    SS X W ρ ΓL Γ (.Raise (some (.Call (.Name x p) [e] [] pos)) none pos') (sRaiseF C n f fa) Γ' := by
  obtain ⟨⟨q, fd, ps, G, hm, iC, tI, hb⟩, ox, fn⟩ := I
  intro c sl st α σ H D R h
  refine ⟨_, ps_raise hc tk (pmk_oex ox iC tI G (hr.mono hk) hb .nil pass0 hg hm (pa_cons pe_wp pa_nil he) hd he hpl), ?_⟩
  refine ha c sl st α σ H _ R ((Vx.R.sat_fl.mp h).imp (fun d s1 hx v α1 H1 R1 S1 r1 => ?_) fun x s1 hx => hx Γ σ)
  refine ⟨by show 1 ≤ 1000; decide, fun a h0 => ⟨a, v, rfl, ox, fn, upd_same, fun dx h1 hne => ⟨rfl, dx, [(f, v)], upd_same, ?_, ?_, ?_⟩⟩⟩
  · rw [upd_ne hne, upd_same]
  · rw [upd_ne hne] at h1
    exact h1
  · rw [upd_ne hne] at h1
    rw [xd_heap h0 hne]
    have G : Same H1 (upd H1 dx (.xd [(f, v)])) := same_upd h1
    exact hx Γ σ (.ref C) (some dx) α1 _ (R1.grow G) ⟨rfl, .inr ⟨dx, [(f, v)], rfl, R1.fresh h1, upd_same, rfl, .cons (r1.step (Stp.grow G)) .nil⟩⟩
end
section
variable {X : Cx} {W : WXc} {ρ : Bool} {Γ Γ' Γ'' ΓL : List Bool} {f n : Str} {pos p p1 : Pos}
variable {i : Nat} {a : Addr} {x : Ex} {cl : Value} {d : Option Addr} {oe : Obj} {pn : List (Addr × Obj)}
/-- e.f, e the exception that the suite holds -/
def mXf (C : Nat) (f : Str) (x : Ex) : FE := fun _ s => if x.cls = C then match x.fs.lookup f with
  | some d => .ok d s
  | none => .no
  else .no
theorem sec_xf {C : Nat} (T : XfC X.K C) (hno : PySem.W.findIn X.K (.ref C) f = some none) (hz : Zc cl d oe) (hf : ∃ vs, oe.data = .fields vs)
    (hN : X.N[i]? = some n := by rfl) (hv : Vis X.env.scope n := by first | exact Or.inl rfl | exact Or.inr (Or.inl rfl) | exact Or.inr (Or.inr rfl)) (hd : (n == ("__debug__" : Str)) = false := by decide) (hcd : (n == ("__classdict__" : Str)) = false := by decide)
    (hb : attributeBase (.Name n p1) f X.env (eval (.Name n p1) X.env) = eval (.Name n p1) X.env := by rfl) :
    SEc i a x cl d (X.suite a ((a, oe) :: pn)) W Γ (.Attribute (.Name n p1) f pos) (mXf C f x) := by
  intro c sl st α σ H Q R hh h
  unfold mXf at h
  by_cases hcl : x.cls = C
  · rw [if_pos hcl] at h
    cases ef : x.fs.lookup f with
    | none => rw [ef] at h; exact False.elim h
    | some y =>
      rw [ef] at h
      refine ⟨_, pe_xf (X := X) T hno hz hf (pe_var (X := X.suite a ((a, oe) :: pn)) (i := i) hN hv hd hcd) hb, ?_⟩
      refine ⟨.ref a, hh.1, rfl, by rw [hh.2.1, hcl], ?_⟩
      rcases hh.2.2 with ⟨e0, _⟩ | ⟨dd, fs', e1, n1, h1, e2, r⟩
      · rw [e0] at ef; cases ef
      · obtain ⟨v, l, rv⟩ := rds_lookup e2 r ef
        exact ⟨dd, fs', v, e1, h1, l, h v α H R .refl rv⟩
  · rw [if_neg hcl] at h
    exact False.elim h
end
/-! ### displays in a suite that holds the exception -/
def SAc (i : Nat) (a : Addr) (x : Ex) (cl : Value) (d : Option Addr) (X : Cx) (W : WXc) (Γ : List Bool) (es : List Expr) (f : FA) : Prop := ∀ c sl st α σ H Q, Rel X.K c Γ sl st α σ H → Held X.K c Γ α σ H i a x cl d →
  (f sl st).Sat (fun ds st' => ∀ vs α' H', Rel X.K c Γ sl st' α' σ H' → Ste α H α' H' → RDs X.K (NN c Γ σ α') α' H' ds vs → Q vs H') (PX X.K c Γ sl σ W) → wpA X es σ H Q
section
variable {X : Cx} {W : WXc} {Γ : List Bool} {e : Expr} {es : List Expr} {fa : FE} {fr : FA} {pos : Pos}
variable {i : Nat} {a : Addr} {x : Ex} {cl : Value} {d : Option Addr}
theorem sac_nil : SAc i a x cl d X W Γ [] mNil := fun c sl st α σ H Q R _ h => ⟨_, pa_nil, h [] α H R .refl .nil⟩
theorem sac_cons (ha : SEc i a x cl d X W Γ e fa) (hr : SAc i a x cl d X W Γ es fr) (hs : starEach (e :: es) X.env = (false, eval e X.env) :: starEach es X.env := by rfl) : SAc i a x cl d X W Γ (e :: es) (mCons fa fr) := by
  intro c sl st α σ H Q R hh h
  refine ⟨_, pa_cons pe_wp pa_wp hs, ?_⟩
  refine ha c sl st α σ H _ R hh ((Vx.R.sat_bind.mp h).imp (fun d s1 hd v α1 H1 R1 S1 r1 => ?_) fun _ _ z => z)
  refine hr c sl s1 α1 σ H1 _ R1 (hh.step S1) ((Vx.R.sat_bind.mp hd).imp (fun ds s2 hds vs α2 H2 R2 S2 r2 => ?_) fun _ _ z => z)
  exact hds (v :: vs) α2 H2 R2 (S1.trans S2) (.cons (r1.step S2.nn) r2)
theorem sec_tup {x1} (ha : SAc i a x cl d X W Γ es fr) : SEc i a x cl d X W Γ (.Tuple es x1 pos) (mTup fr) := by
  intro c sl st α σ H Q R hh h
  refine ⟨_, pe_tup pa_wp, ?_⟩
  refine ha c sl st α σ H _ R hh ((Vx.R.sat_bind.mp h).imp (fun ds s1 hd vs α1 H1 R1 S1 r1 => ?_) fun _ _ z => z)
  by_cases hz : szOk ds.length = true
  · rw [if_pos hz] at hd
    refine ⟨by rw [← r1.length]; exact szOk_le hz, fun p hp => ?_⟩
    have G : Same H1 (upd H1 p (.tup vs)) := same_upd hp
    exact hd (.ref p) α1 _ (R1.grow G) (S1.trans (.grow G)) (.tup (R1.fresh hp) (.of upd_same) (r1.step (.grow G)))
  · rw [if_neg hz] at hd
    exact False.elim hd
end
/-- a statement that is never reached -/
def sNo : FS := fun _ _ => .no
theorem ss_no {X : Cx} {W : WXc} {ρ : Bool} {Γ Γ' ΓL : List Bool} {st : Stmt} : SS X W ρ ΓL Γ st sNo Γ' := fun _ _ _ _ _ _ _ _ h => False.elim h
/-- a def under another name too -/
theorem Cal.alias {P : Program} {w : World} {K : PySem.W.Frag} {mg : Str → Option Value} {base : Heap} {ρ : Bool} {x y : Str} {k : Nat} {m : List D → Sto → R D} {a : Value} (h : Cal P w K mg base k x ρ m) (hx : mg x = some a) (hy : mg y = some a) : Cal P w K mg base k y ρ m := by
  obtain ⟨q, fd, ps, F, h1, h2, h3⟩ := h.ex
  exact ⟨q, fd, ps, F, by rw [hy, ← hx]; exact h1, h2, h3⟩
end Vx

/-! VExcN: errors with no context of their own; methods that raise; suites that raise. -/
namespace Vx
open PySem PySem.Spec L2
variable [Wd]
section
variable {P : Program} {w : World} {K : PySem.W.Frag} {mg : Str → Option Value} {base : Heap} {ρ : Bool}
/-- a def of the text, whatever its errors are like -/
theorem ok_any {CX : CXT} {x qual : Str} {stm : Stmt} {q : Addr} {fd : FuncData} {N ps : List Str} {k : Nat} {sp : Sp} (F : Fun K x qual stm q fd) (S : FnScope N ps (defScope stm)) (hl : ∀ vs H Q E, sp vs H Q E → vs.length = ps.length)
    (hbd : ∀ (cdv : Value) (A : Around) (outer : List Env) (s : Shared) (H : Hp) (vs : List V) (Q : VK) (E : XK), Room k (A.deeper (PyProof.Rows.envOfC qual (defScope stm) s.heap.objs.size q cdv)) → sp vs H Q E →
      ∃ t, PSs (cxOf CX P w K mg base N qual (defScope stm) q cdv A outer s H E) (defBody stm) t ∧ t { nx := fun _ H2 => Q .non H2, rt := Q } (start N vs) H) : FnOk P w K mg base CX (k + 1) q fd ps sp := by
  obtain ⟨_, _, _, _, _, _, cd, _, _, e, look, code⟩ := F.ex
  subst e
  exact fn_of look code S hl fun A outer s H vs Q E room => hbd cd A outer s H vs Q E room
/-- a def that raises only errors with no context -/
theorem fn_okXN {x qual : Str} {stm : Stmt} {q : Addr} {fd : FuncData} {N ps : List Str} {k : Nat} {fb : FS} {ΓL Γ' : List Bool} (F : Fun K x qual stm q fd) (S : FnScope N ps (defScope stm))
    (hb : ∀ (cdv : Value) (A : Around) (outer : List Env) (s : Shared) (H : Hp) (E : XK) (W : WXc), Room k (A.deeper (PyProof.Rows.envOfC qual (defScope stm) s.heap.objs.size q cdv)) → L2N.Takes (cxOf (L2N.CX P w) P w K mg base N qual (defScope stm) q cdv A outer s H E) W →
      PassesOwn (model P w) (cxOf (L2N.CX P w) P w K mg base N qual (defScope stm) q cdv A outer s H E).A (cxOf (L2N.CX P w) P w K mg base N qual (defScope stm) q cdv A outer s H E).env (cxOf (L2N.CX P w) P w K mg base N qual (defScope stm) q cdv A outer s H E).xe →
      SSs (cxOf (L2N.CX P w) P w K mg base N qual (defScope stm) q cdv A outer s H E) W ρ ΓL (List.replicate N.length false) (defBody stm) fb Γ') :
    FnOk P w K mg base (L2N.CX P w) (k + 1) q fd ps (FSpecX K ρ (mDef N.length ps.length fb)) := by
  refine ok_any F S (fun vs H Q E h => ?_) (fun cdv A outer s H vs Q E hr h => ?_)
  · obtain ⟨B, α, ds, st, r, _, _, _, h⟩ := h
    rw [← r.length]
    unfold mDef at h
    by_cases e : ds.length = ps.length
    · exact e
    · rw [if_neg e] at h
      exact False.elim h
  · obtain ⟨B, α, ds, st, r, hs, hB, hα, h⟩ := h
    unfold mDef at h
    by_cases e : ds.length = ps.length
    · rw [if_pos e] at h
      have hΓ : ∀ i : Nat, (List.replicate N.length false)[i]? ≠ some true := fun i z => by
        rw [List.getElem?_replicate] at z
        split at z <;> cases z
      have R0 := body_start (n := N.length) r hs hB hα hΓ
      refine ⟨_, pss_wp, hb cdv A outer s H E (fun cls d _ H => E cls d H) hr (L2N.takes_of rfl rfl rfl rfl) (passes_of rfl) _ _ _ _ _ H _ R0 ?_⟩
      have hα0 : ∀ a, a ∈ α → H a ≠ none := fun a m => hs.tr m
      have low : ∀ {Γ'' : List Bool} {σ'' : St} {α'' : List Addr} {B' : Addr → Prop} a, BA B' α'' a → NN ⟨B', H, α⟩ Γ'' σ'' α'' a := fun a z => .inl z
      have fin : ∀ {d : D} {s1 : Sto}, FR K ρ B α H Q d s1 → PR K ⟨B, H, α⟩ ρ Q d s1 := fun hd =>
        ⟨fun Γ'' sl'' σ'' v α' H' R' r' hn => hd.1 v α' H' (exit_ok R' hα0) (r'.step (.less low)) hn,
          fun hρ Γ'' sl'' σ'' p o α' H' h0 hp R' r' => hd.2 hρ p o α' H' h0 hp (exit_ok (B := fun a => B a ∨ a = p) R' hα0) (r'.step (.less (low (B' := fun a => B a ∨ a = p))))⟩
      cases eb : fb (startD N.length ds) st with
      | nx l s1 =>
        rw [eb] at h
        intro α' σ' H' R' S'
        exact (fin h).1 _ _ _ _ α' H' R' .non fun _ _ _ => ⟨(fun z => nomatch z), (fun z => nomatch z)⟩
      | rt d s1 => rw [eb] at h; exact fin h
      | bk l s1 => rw [eb] at h; exact False.elim h
      | ct l s1 => rw [eb] at h; exact False.elim h
      | ex x l s1 =>
        rw [eb] at h
        intro Γ'' σ'' cl dd α' H' R' rx
        exact h cl dd α' H' (exit_ok R' hα0) (rx.step (.less low))
      | no => rw [eb] at h; exact False.elim h
    · rw [if_neg e] at h
      exact False.elim h
structure CalXN (P : Program) (w : World) (K : PySem.W.Frag) (mg : Str → Option Value) (base : Heap) (k : Nat) (x : Str) (ρ : Bool) (m : List D → Sto → R D) : Prop where
  ex : ∃ (q : Addr) (fd : FuncData) (ps : List Str), FnOk P w K mg base (L2N.CX P w) k q fd ps (FSpecX K ρ m) ∧ mg x = some (.ref q) ∧ PySem.W.keepIn K (.ref q) = true ∧ Binds K fd ps []
theorem calXN_of {x : Str} {stm : Stmt} {N ps : List Str} {k n p : Nat} {fb : FS} {Γ0 ΓL Γ' : List Bool} (F : Dfn K mg x stm ps) (S : FnScope N ps (defScope stm))
    (hb : ∀ (q : Addr) (cdv : Value) (A : Around) (outer : List Env) (s : Shared) (H : Hp) (E : XK) (W : WXc), Room k (A.deeper (PyProof.Rows.envOfC x (defScope stm) s.heap.objs.size q cdv)) → L2N.Takes (cxOf (L2N.CX P w) P w K mg base N x (defScope stm) q cdv A outer s H E) W →
      PassesOwn (model P w) (cxOf (L2N.CX P w) P w K mg base N x (defScope stm) q cdv A outer s H E).A (cxOf (L2N.CX P w) P w K mg base N x (defScope stm) q cdv A outer s H E).env (cxOf (L2N.CX P w) P w K mg base N x (defScope stm) q cdv A outer s H E).xe →
      SSs (cxOf (L2N.CX P w) P w K mg base N x (defScope stm) q cdv A outer s H E) W ρ ΓL Γ0 (defBody stm) fb Γ')
    (hn : N.length = n := by rfl) (hp : ps.length = p := by rfl) (hΓ : List.replicate n false = Γ0 := by rfl) : CalXN P w K mg base (k + 1) x ρ (mDef n p fb) := by
  obtain ⟨q, fd, F, hm, hbd⟩ := F.ex
  subst hn hp hΓ
  exact ⟨q, fd, ps, fn_okXN F S (hb q), hm, F.kp, hbd⟩
theorem CalXN.mono {x : Str} {j k : Nat} {m : List D → Sto → R D} (h : CalXN P w K mg base j x ρ m) (hk : j ≤ k) : CalXN P w K mg base k x ρ m := by
  obtain ⟨q, fd, ps, F, h1, h2, h3⟩ := h.ex
  exact ⟨q, fd, ps, F.mono hk, h1, h2, h3⟩
theorem calXN_zero {x : Str} {stm : Stmt} {ps : List Str} {k : Nat} (F : Dfn K mg x stm ps) : CalXN P w K mg base k x ρ (fun _ _ => .no) := by
  obtain ⟨q, fd, F, hm, hbd⟩ := F.ex
  refine ⟨q, fd, ps, ⟨fun vs H Q E h => ?_, fun A outer s H args us vs Q E _ _ _ _ h => ?_⟩, hm, F.kp, hbd⟩
  · obtain ⟨_, _, _, _, _, _, _, _, h⟩ := h
    exact False.elim h
  · obtain ⟨_, _, _, _, _, _, _, _, h⟩ := h
    exact False.elim h
/-- a method that raises -/
structure McalX (P : Program) (w : World) (K : PySem.W.Frag) (mg : Str → Option Value) (base : Heap) (k : Nat) (C : Nat) (x : Str) (ρ : Bool) (m : List D → Sto → R D) : Prop where
  ex : ∃ (q : Addr) (fd : FuncData) (ps : List Str), FnOk P w K mg base (L2N.CX P w) k q fd ps (FSpecX K ρ m) ∧ Cls K C ∧ Meth K C x q ∧ Binds K fd ps []
theorem mcalX_of {C : Nat} {x qual : Str} {stm : Stmt} {N ps : List Str} {k n p : Nat} {fb : FS} {Γ0 ΓL Γ' : List Bool} (F : MDfn K C x qual stm ps) (S : FnScope N ps (defScope stm))
    (hb : ∀ (q : Addr) (cdv : Value) (A : Around) (outer : List Env) (s : Shared) (H : Hp) (E : XK) (W : WXc), Room k (A.deeper (PyProof.Rows.envOfC qual (defScope stm) s.heap.objs.size q cdv)) → L2N.Takes (cxOf (L2N.CX P w) P w K mg base N qual (defScope stm) q cdv A outer s H E) W →
      PassesOwn (model P w) (cxOf (L2N.CX P w) P w K mg base N qual (defScope stm) q cdv A outer s H E).A (cxOf (L2N.CX P w) P w K mg base N qual (defScope stm) q cdv A outer s H E).env (cxOf (L2N.CX P w) P w K mg base N qual (defScope stm) q cdv A outer s H E).xe →
      SSs (cxOf (L2N.CX P w) P w K mg base N qual (defScope stm) q cdv A outer s H E) W ρ ΓL Γ0 (defBody stm) fb Γ')
    (hn : N.length = n := by rfl) (hp : ps.length = p := by rfl) (hΓ : List.replicate n false = Γ0 := by rfl) : McalX P w K mg base (k + 1) C x ρ (mDef n p fb) := by
  obtain ⟨q, fd, F, cl, mt, hbd⟩ := F.ex
  subst hn hp hΓ
  exact ⟨q, fd, ps, fn_okXN F S (hb q), cl, mt, hbd⟩
theorem McalX.mono {C : Nat} {x : Str} {j k : Nat} {m : List D → Sto → R D} (h : McalX P w K mg base j C x ρ m) (hk : j ≤ k) : McalX P w K mg base k C x ρ m := by
  obtain ⟨q, fd, ps, F, h1, h2, h3⟩ := h.ex
  exact ⟨q, fd, ps, F.mono hk, h1, h2, h3⟩
end
section
variable {X : Cx} {W : WXc} {ρ : Bool} {Γ Γ' Γ'' ΓL : List Bool} {e a b : Expr} {es : List Expr} {fa fb : FE} {x : Str} {pos p : Pos}
theorem ss_raise0N {m : Str} {j : Nat} {p2 pos' : Pos} {C : Addr} (n : Nat) (hc : X.calm = true) (tk : L2N.Takes X W) (h : XC0 X.K X.mg x C) (hg : Gl X x := by rfl) (hd : (x == ("__debug__" : Str)) = false := by decide) :
    SS X W ρ ΓL Γ (.Raise (some (.Call (.Name x p) [.Constant (.str m) j p2] [] pos)) none pos') (sRaise0 C n) Γ' := by
  intro c sl st α σ H D R q
  refine ⟨_, L2N.ps_raise hc tk (L2N.pmk_own PySem.F.excBase_ValueError h.ex h.mg h.kp (raises_own h.sb h.ty) hg hd), ?_⟩
  exact q Γ σ (.ref C) none α H R ⟨rfl, .inl ⟨rfl, rfl⟩⟩
theorem se_cXN {k j : Nat} {m : List D → Sto → R D} {fr : FA} (C : CalXN X.prog X.w X.K X.mg X.base k x ρ m) (hr : Room j X.A) (tk : L2N.Takes X W) (ha : SA X W Γ (e :: es) fr) (hk : k ≤ j := by first | decide | omega)
    (hg : Gl X x := by rfl) (hd : (x == ("__debug__" : Str)) = false := by decide) (he : starEach (e :: es) X.env = (false, eval e X.env) :: starEach es X.env := by rfl) (hpl : (backTo pos (starEach es X.env)).any (·.1) = false := by rfl) : SE X W Γ (.Call (.Name x p) (e :: es) [] pos) (mCallX m fr) := by
  obtain ⟨q, fd, ps, G, hm, kp, hb⟩ := C.ex
  intro c sl st α σ H Q R h
  refine ⟨_, pe_callS (E := WE W) G (hr.mono hk) hg hm kp hb (fun σ => L2N.passAt tk σ) pa_wp hd he hpl, ?_⟩
  refine ha c sl st α σ H _ R ((Vx.R.sat_bind.mp h).imp (fun ds s1 hd vs α1 H1 R1 S1 r1 => ?_) fun _ _ z => z)
  refine call_specX R1 r1 ?_
  refine hd.imp (fun d s2 hd => ?_) fun x s2 hx => hx
  refine ⟨fun v α' H' R' S' r' _ => hd v α' H' R' (S1.trans S') r', fun _ p o α' H' h0 hp R' S' r' => ?_⟩
  exact hd (.ref p) α' H' R'.drop (S1.trans S') ((r'.step (.less nn_less)).rd hp (R'.add_ne fun z => R1.bt p z h0))
/-- o.m(e, ..), the errors let out as the slots stand -/
theorem pe_methX {CX : CXT} {k : Nat} {C q : Addr} {nm : Str} {fd : FuncData} {ps : List Str} {sp : Sp} {E : L2.St → XK} {ta : TE} {t : TA} {apos : Pos} {pl : Sem Bool} (ho : PE X a ta) (cl : Cls X.K C) (mt : Meth X.K C nm q) (G : FnOk X.prog X.w X.K X.mg X.base CX k q fd ps sp) (room : Room k X.A)
    (bd : Binds X.K fd ps []) (out : ∀ σ, PassesAt CX X σ (E σ)) (args : PA X (e :: es) t) (st : starEach (e :: es) X.env = (false, eval e X.env) :: starEach es X.env) (plain : (backTo pos (starEach es X.env)).any (·.1) = false)
    (form : eval (.Call (.Attribute a nm apos) (e :: es) [] pos) X.env = (do
      let ov ← eval a X.env
      standAt apos.atName
      let (f, first) ← holding [ov] (getMethod ov nm pl)
      callWith pos f first (backTo pos (starEach (e :: es) X.env)) (backToKw pos (keywordEach [] X.env)))) : PE X (.Call (.Attribute a nm apos) (e :: es) [] pos) (L2H.tMethH C nm sp E ta t) := by
  constructor
  intro pn sh slots hp post inv want
  have own := ho.run pn sh slots hp _ inv want
  refine PySem.W.methodCall_KW (pl := pl) (thn own ?_) form
  rintro obj sh1 ⟨vo, hp1, inv1, ro, ad, dx, flds, rfl, isIns, noField, want1⟩
  cases (show obj = Value.ref ad from ro)
  apply getmeth_ok inv1 isIns cl mt noField
  have more := args.run pos pn sh1 slots hp1 _ inv1 want1
  refine PySem.W.callWith_K (first := [.ref ad]) (h₀ := X.base) inv1.ok.mod.kin mt.kp (thn more ?_) st plain
  rintro us sh2 ⟨vs, hp2, inv2, rs, want2⟩
  exact ⟨inv2.kIn, L2.run_fnS (vs := .ref ad :: vs) G room bd (out slots) inv2 (.cons rfl rs) want2⟩
/-- o.m(..), m a method that may raise -/
def mMethX (C : Nat) (nm : Str) (m : List D → Sto → R D) (o : FE) (a : FA) : FE := fun l s => (o l s).bind fun x s => match insAt C s x with
  | none => .no
  | some (_, fs) => if (fs.lookup nm).isNone = true then (a l s).bind fun xs s => m (x :: xs) s else .no
theorem se_mX {k j C : Nat} {m : List D → Sto → R D} {fr : FA} {nm : Str} {apos : Pos} {pl : Sem Bool} (M : McalX X.prog X.w X.K X.mg X.base k C nm ρ m) (hr : Room j X.A) (tk : L2N.Takes X W) (ho : SE X W Γ a fa) (ha : SA X W Γ (e :: es) fr) (hk : k ≤ j := by first | decide | omega)
    (he : starEach (e :: es) X.env = (false, eval e X.env) :: starEach es X.env := by rfl) (hpl : (backTo pos (starEach es X.env)).any (·.1) = false := by rfl)
    (hev : eval (.Call (.Attribute a nm apos) (e :: es) [] pos) X.env = (do
      let ov ← eval a X.env
      standAt apos.atName
      let (f, first) ← holding [ov] (getMethod ov nm pl)
      callWith pos f first (backTo pos (starEach (e :: es) X.env)) (backToKw pos (keywordEach [] X.env))) := by rfl) : SE X W Γ (.Call (.Attribute a nm apos) (e :: es) [] pos) (mMethX C nm m fa fr) := by
  obtain ⟨q, fd, ps, G, cl, mt, hb⟩ := M.ex
  intro c sl st α σ H Q R h
  refine ⟨_, pe_methX (E := WE W) pe_wp cl mt G (hr.mono hk) hb (fun σ => L2N.passAt tk σ) pa_wp he hpl hev, ?_⟩
  refine ho c sl st α σ H _ R ((Vx.R.sat_bind.mp h).imp (fun x s1 hx vx α1 H1 R1 S1 d1 => ?_) fun _ _ z => z)
  cases e1 : Vx.insAt C s1 x with
  | none => simp only [e1] at hx; exact False.elim hx
  | some w =>
    obtain ⟨n, fs⟩ := w
    simp only [e1] at hx
    obtain ⟨u, dx, fs', rfl, hq, hv, hn, rv⟩ := R1.insAt d1 e1
    by_cases hl : (fs.lookup nm).isNone = true
    · rw [if_pos hl] at hx
      refine ⟨u, dx, fs', rfl, hv, lookup_none hn (Option.isNone_iff_eq_none.mp hl), ?_⟩
      refine ha c sl s1 α1 σ H1 _ R1 ((Vx.R.sat_bind.mp hx).imp (fun ds s2 hd vs α2 H2 R2 S2 r2 => ?_) fun _ _ z => z)
      refine call_specX R2 (RDs.cons (d1.step S2.nn) r2) ?_
      refine hd.imp (fun d s3 hd => ?_) fun x s3 hx => hx
      refine ⟨fun v α' H' R' S' r' _ => hd v α' H' R' (S1.trans (S2.trans S')) r', fun _ p o α' H' h0 hp R' S' r' => ?_⟩
      exact hd (.ref p) α' H' R'.drop (S1.trans (S2.trans S')) ((r'.step (.less nn_less)).rd hp (R'.add_ne fun z => R2.bt p z h0))
    · rw [if_neg hl] at hx
      exact False.elim hx
end
/-! ### a suite that raises -/
structure XIniH (P : Program) (w : World) (K : PySem.W.Frag) (mg : Str → Option Value) (base : Heap) (k : Nat) (x : Str) (C : Nat) (f : Str) : Prop where
  ex : ∃ (q : Addr) (fd : FuncData) (ps : List Str), L2H.FnH P w K mg base CX0 k q fd ps (spX K C f) ∧ mg x = some (.ref C) ∧ PySem.W.findIn K (.ref C) "__init__" = some (some (.ref q)) ∧ PySem.W.typeIn K (.ref q) = some (.type "function") ∧ Binds K fd ps []
  ox : OexC K C
  fn : PySem.W.findIn K (.ref C) f = some none
section
variable {P : Program} {w : World} {K : PySem.W.Frag} {mg : Str → Option Value} {base : Heap}
theorem xiniH_of {x f qual : Str} {C : Nat} {stm : Stmt} {N ps : List Str} {k : Nat} (F : XDfn K mg x C f qual stm ps) (S : FnScope N ps (defScope stm)) (hN : N.length = 2) (hp : ps.length = 2)
    (hb : ∀ (q : Addr) (cdv : Value) (A : Around) (outer : List Env) (s : Shared) (H : Hp) (E : XK) (p : Addr × Obj), PSs (L2H.cxH CX0 P w K mg base N qual (defScope stm) q cdv A outer s H E p) (defBody stm) (tOst K f (tVar 0) (tVar 1))) : XIniH P w K mg base (k + 1) x C f := by
  obtain ⟨q, fd, F1, hm, iC, tI, hbd⟩ := F.ex
  refine ⟨⟨q, fd, ps, ?_, hm, iC, tI, hbd⟩, F.ox, F.fn⟩
  obtain ⟨_, _, _, _, _, _, cd, _, _, e, look, code⟩ := F1.ex
  subst e
  refine L2H.fn_ofH look code S (fun vs H Q E h => ?_) (fun A outer s H vs Q E p _ _ h => ?_)
  · obtain ⟨a, y, rfl, _⟩ := h
    rw [hp]; rfl
  · obtain ⟨a, y, rfl, ox, fn, ha, hq⟩ := h
    refine ⟨_, hb q cd A outer s H E p, ?_⟩
    have e : start N [V.ref a, y] = [some (.ref a), some y] := by
      match N, hN with
      | [n1, n2], _ => rfl
    rw [e]
    exact ⟨y, rfl, .ref a, rfl, a, C, rfl, ox, fn, .inl ⟨ha, fun dx h0 hne => hq dx h0 hne⟩⟩
end
section
variable {X : Cx} {W : WXc} {ρ : Bool} {Γ Γ' Γ'' ΓL : List Bool} {e : Expr} {fa : FE} {x f : Str} {pos p : Pos}
theorem roomH {k : Nat} {A : Around} (r : Room k A) : L2H.RoomH k A := L2H.roomH_of r
theorem ss_raiseFH {k j : Nat} {pos' : Pos} {C : Nat} (n : Nat) (hc : L2H.HotC X) (tk : L2.Takes X W) (I : XIniH X.prog X.w X.K X.mg X.base k x C f) (hr : L2H.RoomH j X.A) (ha : SE X W Γ e fa) (hk : k + 1 ≤ j := by first | decide | omega) (hg : Gl X x := by rfl) (hd : (x == ("__debug__" : Str)) = false := by decide)
    (he : starEach [e] X.env = (false, eval e X.env) :: starEach [] X.env := by rfl) (hpl : (backTo pos (starEach [] X.env)).any (·.1) = false := by rfl) :
    SS X W ρ ΓL Γ (.Raise (some (.Call (.Name x p) [e] [] pos)) none pos') (sRaiseF C n f fa) Γ' := by
  obtain ⟨⟨q, fd, ps, G, hm, iC, tI, hb⟩, ox, fn⟩ := I
  intro c sl st α σ H D R h
  refine ⟨_, L2H.ps_raiseH hc tk (L2H.PMk5.pmk (L2H.pmk5_oexH ox iC tI G (hr.mono hk) hc hb pass0 hg hm (pa_cons pe_wp pa_nil he) hd he hpl)), ?_⟩
  refine ha c sl st α σ H _ R ((Vx.R.sat_fl.mp h).imp (fun d s1 hx v α1 H1 R1 S1 r1 => ?_) fun x s1 hx => hx Γ σ)
  refine ⟨by show 1 ≤ 1000; decide, fun a h0 => ⟨a, v, rfl, ox, fn, upd_same, fun dx h1 hne => ⟨rfl, dx, [(f, v)], upd_same, ?_, ?_, ?_⟩⟩⟩
  · rw [upd_ne hne, upd_same]
  · rw [upd_ne hne] at h1
    exact h1
  · rw [upd_ne hne] at h1
    rw [xd_heap h0 hne]
    have G : Same H1 (upd H1 dx (.xd [(f, v)])) := same_upd h1
    exact hx Γ σ (.ref C) (some dx) α1 _ (R1.grow G) ⟨rfl, .inr ⟨dx, [(f, v)], rfl, R1.fresh h1, upd_same, rfl, .cons (r1.step (Stp.grow G)) .nil⟩⟩
/-- try: body, except x: a suite that may raise in its turn -/
def sTryX (ca : Nat → Nat) (tab : Nat → Option Bool) (fb fs : FS) : FS := fun l s => match fb l s with
  | .ex x l' s' => match hit ca tab x with
    | some true => fs l' s'
    | some false => .ex x l' s'
    | none => .no
  | r => r
theorem ss_tryX {cv : Value} {body suite : List Stmt} {b₀ : Stmt} {np pos' : Pos} {fb fs : FS} (ca : Nat → Nat) (tab : Nat → Option Bool) (hs : X.stack = X.env :: X.outer) (hf : X.env.frame = some X.env.locals) (hc : Names X x cv) (hpa : ∀ hd : Option Value, PassesOwnAt (model X.prog X.w) (X.A.mark hd) X.A X.env X.xe) (tk : L2.Takes X W)
    (ht : ∀ n b, tab n = some b → PySem.W.exmOne X.K (.ref (ca n)) cv = some b)
    (hb : ∀ (W' : WXc) (pn : List (Addr × Obj)) (xe : Value → Shared → Prop), L2N.Takes (X.tr pn xe) W' → PassesOwn (model X.prog X.w) X.A X.env xe → SSs (X.tr pn xe) W' ρ ΓL Γ body fb Γ')
    (hsu : ∀ (a : Addr) (oe : Obj) (pn : List (Addr × Obj)), L2.Takes (L2H.suiteX X a ((a, oe) :: pn)) W → L2H.HotC (L2H.suiteX X a ((a, oe) :: pn)) → SSs (L2H.suiteX X a ((a, oe) :: pn)) W ρ ΓL Γ (b₀ :: suite) fs Γ') (hG : offG Γ = true := by decide) :
    SS X W ρ ΓL Γ (.Try body [.ExceptHandler (some (.Name x np)) none (b₀ :: suite) pos'] [] [] pos) (sTryX ca tab fb fs) Γ' := by
  intro c sl st α σ H Dn R h
  have hΓ := offG_ok hG
  refine ⟨_, L2H.ps_try_onlyX (tb := fun W' D σ H => ∀ (pn : List (Addr × Obj)) (xe : Value → Shared → Prop), L2N.Takes (X.tr pn xe) W' → PassesOwn (model X.prog X.w) X.A X.env xe → wpB (X.tr pn xe) body D σ H)
    (ts := fun a cls d D σ H => ∀ (oe : Obj) (pn : List (Addr × Obj)), L2.Takes (L2H.suiteX X a ((a, oe) :: pn)) W → L2H.HotC (L2H.suiteX X a ((a, oe) :: pn)) → wpB (L2H.suiteX X a ((a, oe) :: pn)) (b₀ :: suite) D σ H) hs hf hc hpa tk (fun W' pn xe t _ q => ⟨fun pins s σ H D I z => (pss_wp (X := X.tr pn xe) (e := body)).run pins s σ H D I (z pn xe t q)⟩)
    (fun a oe cls d pn _ _ z1 z2 => ⟨fun pins s σ H D I z => (pss_wp (X := L2H.suiteX X a ((a, oe) :: pn)) (e := b₀ :: suite)).run pins s σ H D I (z oe pn z1 z2)⟩), ?_⟩
  intro pn xe t q
  refine hb _ pn xe t q ⟨c.B, H, α⟩ sl st α σ H Dn (R.rebase hΓ) (FQ.rebase (W := W) R (fun x1 l s' e => ?_) fun hne => ?_)
  · intro Γ'' σ'' cl dd α' H' R' rx
    unfold sTryX at h
    rw [e] at h
    simp only at h
    obtain ⟨e1, _⟩ := id rx
    cases eb : hit ca tab x1 with
    | none => rw [eb] at h; exact False.elim h
    | some b =>
      rw [eb] at h
      obtain ⟨hcl, htab⟩ := hit_some eb
      have hex := ht _ _ htab
      rw [← hcl, ← e1] at hex
      refine ⟨b, hex, fun hbt a ha oe pn' z1 z2 => ?_, fun hbf => ?_⟩
      · subst hbt
        have S := Rel.based (Γ := Γ) (Γ'' := Γ) (σ := σ) R' hΓ
        have R1 : Rel X.K c Γ l s' α' σ'' H' := (R.unbase R').weak (by unfold leG; rw [List.all_eq_true]; intro i _; cases q : Γ[i]? with
          | none => simp [List.getD_eq_getElem?_getD, q]
          | some b => cases b with
            | true => exact absurd q (hΓ i)
            | false => simp [List.getD_eq_getElem?_getD, q])
        exact hsu a oe pn' z1 z2 c l s' α' σ'' H' Dn R1 (FQ.from S h)
      · subst hbf
        exact h Γ'' σ'' cl dd α' H' (R.unbase R') rx
  · unfold sTryX at h
    cases ef : fb sl st with
    | nx l2 s2 => rw [ef] at h; exact h
    | rt d2 s2 => rw [ef] at h; exact h
    | bk l2 s2 => rw [ef] at h; exact h
    | ct l2 s2 => rw [ef] at h; exact h
    | ex x2 l2 s2 => exact absurd ef (hne x2 l2 s2)
    | no => rw [ef] at h; exact False.elim h
end
/-! ### x.lstrip(y) -/
def gLstrip : Str → D → Option D
  | x, .str y => if szOk x.length = true then some (.str (Txt.lstripChars x y)) else none
  | _, _ => none
theorem std_lstrip {X : Cx} : StD X "str.lstrip" gLstrip := by
  refine ⟨_, mt_lstripChars, fun N T α H z y d vy Q hN ry e q => ?_⟩
  unfold gLstrip at e
  split at e
  · obtain ⟨hz, rfl⟩ := ite_some e
    rw [rb_str ry]
    exact ⟨z, _, rfl, rfl, szOk_le hz, q _ _ (fun _ _ h => h) (.str _)⟩
  · cases e
/-! ### xs.index(y), xs perhaps a list of the store -/
def mIndexO (a b : FE) : FE := fun l s => (a l s).bind fun x s => match drf s x with
  | .lst _ => (b l s).bind fun y s => match drf s x with
    | .lst xs => liftO (gIndexL xs y) s
    | _ => .no
  | _ => .no
section
variable {X : Cx} {W : WXc} {Γ : List Bool} {a b : Expr} {fa fb : FE} {pos : Pos}
theorem se_indexO {apos : Pos} (ha : SB X W Γ a fa) (hb : SB X W Γ b fb)
    (hbase : attributeBase a "index" X.env (eval a X.env) = eval a X.env := by rfl)
    (hfew : ((backTo pos (starEach [b] X.env)).all (fun x => !x.1) && (backToKw pos (keywordEach [] X.env)).all (fun x => x.1.isSome)
      && decide (([b] : List Expr).length + ([] : List Keyword).length + (if ([] : List Keyword).isEmpty then 0 else 1) < 30)) = true := by rfl)
    (hline : (apos.endLine == pos.line) = true := by rfl) (hs : starEach [b] X.env = (false, eval b X.env) :: starEach [] X.env := by rfl) (hplain : (backTo pos (starEach [] X.env)).any (·.1) = false := by rfl) :
    SE X W Γ (.Call (.Attribute a "index" apos) [b] [] pos) (mIndexO fa fb) := by
  intro c sl st α σ H Q R h
  refine ⟨_, pe_bm PySem.F.plainAttrs_list PySem.F.slot_list_index PySem.F.type_list_index mt_index pe_wp (pa_cons pe_wp pa_nil hs) hbase hfew hline hs hplain, ?_⟩
  refine ha c sl st α σ H _ R ((Vx.R.sat_bind.mp h).imp (fun x s1 hx vx α1 H1 R1 S1 d1 => ?_) fun _ _ z => z)
  cases ex : Vx.drf s1 x with
  | lst xs0 =>
    have e1 := RB.drf R1 d1
    rw [ex] at e1 hx
    obtain ⟨p, vs, rfl, hS, r⟩ := e1.lst
    refine ⟨.inl ⟨rfl, vs, hS⟩, ?_⟩
    refine hb c sl s1 α1 σ H1 _ R1 ((Vx.R.sat_bind.mp hx).imp (fun y s2 hy vy α2 H2 R2 S2 d2 => ?_) fun _ _ z => z)
    cases ey : Vx.drf s2 x with
    | lst xs =>
      have e2 := RB.drf R2 (d1.step S2.nb S2.nn)
      rw [ey] at e2 hy
      have hy : (liftO (if (D.flat y && xs.all D.flat) = true then (xs.findIdx? fun x => D.eqv x y).map fun j => .int (j : Nat) else none) s2 : Vx.R D).Sat (PQ X.K c Γ sl α σ H Q) (PX X.K c Γ sl σ W) := hy
      by_cases hz : (D.flat y && xs.all D.flat) = true
      · rw [if_pos hz] at hy
        obtain ⟨f1, f2⟩ := Bool.and_eq_true_iff.mp hz
        cases ej : xs.findIdx? fun x => D.eqv x y with
        | none => rw [ej] at hy; exact False.elim hy
        | some j =>
          rw [ej] at hy
          obtain ⟨hj, hj1, hj2⟩ := List.findIdx?_eq_some_iff_getElem.mp ej
          obtain ⟨p', ws, e', hS2, r2⟩ := e2.lst
          cases e'
          obtain ⟨z, hz1, hz2⟩ := r2.get (i := j) (List.getElem?_eq_getElem hj)
          have fl : ∀ (i : Nat) (h : i < xs.length), D.flat xs[i] = true := fun i h => List.all_eq_true.mp f2 _ (List.getElem_mem h)
          have d3 := RB.drf R2 d2
          rw [show Vx.drf s2 y = y from by cases y <;> first | rfl | exact (Bool.noConfusion (show false = true from f1))] at d3
          have fall := (any_flat f1 d3 r2 f2).1
          refine ⟨p, ws, vy, j, z, rfl, rfl, hS2, flat_v f1 d3, fall, hz1, ?_, fun m z' hm hz' => ?_, hy _ α2 H2 R2 (S1.trans S2) (.int _)⟩
          · rw [flat_e1 (fl j hj) f1 hz2 d3]; exact hj1
          · have hml : m < xs.length := by omega
            obtain ⟨z2, e2, r3⟩ := r2.get (i := m) (List.getElem?_eq_getElem hml)
            rw [hz'] at e2
            cases e2
            rw [flat_e1 (fl m hml) f1 r3 d3]
            have := hj2 m hm
            simpa using this
      · rw [if_neg hz] at hy
        exact False.elim hy
    | _ => rw [ey] at hy; exact False.elim hy
  | _ => rw [ex] at hx; exact False.elim hx
end
end Vx

namespace Law
open PySem Vx
def b__law_fits : FS := (sSeq (sSet 2 (mBin gIx (mBin gIx (mV 0) (mV 1)) (mC (.int 1))))
 (sSeq (sIf (mOr (mT (mBin gGt (mV 2) (mC (.int 12)))) (mT (mBin gEq (mV 1) (mC (.int 40)))))
 (sRet (mC (.bl false)))
 sNil)
 (sSeq (sIf (mT (mBin gEq (mV 1) (mC (.int 0))))
 (sRet (mBin gEq (mV 2) (mC (.int 0))))
 sNil)
 (sSeq (sIf (mT (mBin gEq (mBin gIx (mBin gIx (mV 0) (mBin gSub (mV 1) (mC (.int 1)))) (mC (.int 0))) (mC (.str "plain"))))
 (sRet (mChain gLe gLe (mC (.int 1)) (mV 2) (mBin gIx (mBin gIx (mV 0) (mBin gSub (mV 1) (mC (.int 1)))) (mC (.int 1)))))
 sNil)
 (sRet (mBin gEq (mV 2) (mBin gAdd (mBin gIx (mBin gIx (mV 0) (mBin gSub (mV 1) (mC (.int 1)))) (mC (.int 1))) (mC (.int 1)))))))))
def m__law_fits : List D → Sto → Vx.R D := mDef 3 2 b__law_fits
def b__law_due : FS := (sSeq (sSet 2 (mC (.int 0)))
 (sSeq (sSet 3 (mC (.int 0)))
 (sSeq (sFor (itRg1 (mCons (mArgs gLen (mCons (mV 1) mNil)) mNil)) (tg1 4)
 (sIf (mT (mBin gEq (mBin gIx (mBin gIx (mV 1) (mV 4)) (mC (.int 0))) (mC (.str "room"))))
 (sSeq (sIf (mOr (mT (mBin gGt (mV 3) (mC (.int 0)))) (mNot (mT (mCall m__law_fits (mCons (mV 0) (mCons (mBin gIx (mBin gIx (mV 1) (mV 4)) (mC (.int 1))) mNil))))))
 (sRet (mBin gAdd (mV 4) (mC (.int 1))))
 sNil)
 (sSet 2 (mBin gAdd (mV 2) (mC (.int 1)))))
 (sSeq (sIf (mOr (mT (mBin gEq (mV 2) (mC (.int 0)))) (mOr (mT (mBin gNe (mBin gIx (mBin gIx (mV 0) (mBin gSub (mV 2) (mC (.int 1)))) (mC (.int 0))) (mC (.str "plain")))) (mOr (mT (mBin gEq (mV 3) (mC (.int 60)))) (mT (mBin gGe (mBin gIx (mBin gIx (mV 1) (mV 4)) (mC (.int 1))) (mV 2))))))
 (sRet (mBin gAdd (mV 4) (mC (.int 1))))
 sNil)
 (sSet 3 (mBin gAdd (mV 3) (mC (.int 1)))))))
 (sSeq (sIf (mOr (mT (mBin gEq (mV 2) (mC (.int 0)))) (mT (mBin gNe (mBin gIx (mBin gIx (mV 0) (mBin gSub (mV 2) (mC (.int 1)))) (mC (.int 0))) (mC (.str "plain")))))
 (sRet (mBin gAdd (mArgs gLen (mCons (mV 1) mNil)) (mC (.int 1))))
 sNil)
 (sRet (mC (.int 0)))))))
def m__law_due : List D → Sto → Vx.R D := mDef 5 2 b__law_due
def b__law_cell_at : FS := (sSeq (sIf (mT (mBin gEq (mArgs gLen (mCons (mV 0) mNil)) (mC (.int 0))))
 (sRet (mC (.int 0)))
 sNil)
 (sRet (mBin gIx (mV 0) (mBin gMod (mV 1) (mArgs gLen (mCons (mV 0) mNil))))))
def m__law_cell_at : List D → Sto → Vx.R D := mDef 2 2 b__law_cell_at
def b__law_mixed : FS := (sSeq (sSet 3 (mCall m__law_cell_at (mCons (mV 0) (mCons (mV 1) mNil))))
 (sSeq (sSet 4 (mBin gDiv (mV 1) (mArgs gMax2 (mCons (mC (.int 1)) (mCons (mArgs gLen (mCons (mV 0) mNil)) mNil)))))
 (sSeq (sSet 5 (mBin gAdd (mBin gAdd (mBin gAdd (mBin gMask (mV 3) (mC (.int 2147483647))) (mBin gMul (mBin gMul (mC (.int 4001)) (mV 1)) (mV 1))) (mBin gMul (mBin gMul (mC (.int 9001)) (mV 2)) (mV 2))) (mC (.int 17))))
 (sSeq (sSet 5 (mBin gMod (mBin gMul (mV 5) (mC (.int 16807))) (mC (.int 2147483647))))
 (sRet (mBin gMask (mBin gAdd (mBin gShr (mV 3) (mBin gMul (mC (.int 31)) (mBin gAdd (mV 2) (mBin gMul (mC (.int 128)) (mV 4))))) (mBin gMod (mBin gMul (mV 5) (mV 5)) (mC (.int 2147483579)))) (mC (.int 2147483647))))))))
def m__law_mixed : List D → Sto → Vx.R D := mDef 6 3 b__law_mixed
def b__law_entries : FS := (sSeq (sSet 2 (mBin gMod (mCall m__law_mixed (mCons (mV 0) (mCons (mC (.int 1)) (mCons (mC (.int 6)) mNil)))) (mC (.int 4))))
 (sSeq (sIf (mT (mBin gEq (mBin gMod (mCall m__law_mixed (mCons (mV 0) (mCons (mC (.int 1)) (mCons (mC (.int 7)) mNil)))) (mC (.int 8))) (mC (.int 1))))
 (sSet 2 (mBin gAdd (mC (.int 58)) (mBin gMod (mCall m__law_mixed (mCons (mV 0) (mCons (mC (.int 1)) (mCons (mC (.int 8)) mNil)))) (mC (.int 5)))))
 sNil)
 (sSeq (sSetF 3 (mComp (itRg1 (mCons (mArgs gLen (mCons (mV 1) mNil)) mNil)) (tg1 4) mYes (mTup (mCons (mC (.str "room")) (mCons (mV 4) mNil))) [4]))
 (sSeq (sSetF 5 (mComp (itRg1 (mCons (mV 2) mNil)) (tg1 4) mYes (mTup (mCons (mC (.str "door")) (mCons (mBin gMod (mCall m__law_mixed (mCons (mV 0) (mCons (mV 4) (mCons (mC (.int 9)) mNil)))) (mArgs gLen (mCons (mV 1) mNil))) mNil))) [4]))
 (sSeq (sIf (mT (mBin gEq (mBin gMod (mCall m__law_mixed (mCons (mV 0) (mCons (mC (.int 1)) (mCons (mC (.int 10)) mNil)))) (mC (.int 8))) (mC (.int 2))))
 (sSeq (sSet 6 (mBin gMod (mCall m__law_mixed (mCons (mV 0) (mCons (mC (.int 1)) (mCons (mC (.int 11)) mNil)))) (mBin gAdd (mArgs gLen (mCons (mV 1) mNil)) (mC (.int 1)))))
 (sRet (mBin gAdd (mBin gAdd (mBin gAdd (mCut (mV 3) mNoO (mO (mV 6))) (mLst (mCons (mTup (mCons (mC (.str "door")) (mCons (mC (.int 0)) mNil))) mNil))) (mCut (mV 3) (mO (mV 6)) mNoO)) (mV 5))))
 sNil)
 (sRet (mBin gAdd (mV 3) (mV 5))))))))
def m__law_entries : List D → Sto → Vx.R D := mDef 7 2 b__law_entries
def b__law_depth : FS := (sSeq (sIf (mAnd (mT (mBin gEq (mBin gMod (mV 0) (mC (.int 8))) (mC (.int 0)))) (mT (mBin gGt (mArgs gLen (mCons (mV 1) mNil)) (mC (.int 0)))))
 (sRet (mBin gMod (mBin gDiv (mV 0) (mC (.int 8))) (mBin gAdd (mBin gIx (mBin gIx (mV 1) (mUn gNeg (mC (.int 1)))) (mC (.int 1))) (mC (.int 4)))))
 sNil)
 (sSeq (sIf (mT (mBin gEq (mArgs gLen (mCons (mV 1) mNil)) (mC (.int 0))))
 (sRet (mArgs gMax2 (mCons (mC (.int 0)) (mCons (mBin gSub (mBin gMod (mV 0) (mC (.int 24))) (mC (.int 22))) mNil))))
 sNil)
 (sSeq (sIf (mT (mBin gNe (mBin gIx (mBin gIx (mV 1) (mUn gNeg (mC (.int 1)))) (mC (.int 0))) (mC (.str "plain"))))
 (sRet (mBin gAdd (mBin gIx (mBin gIx (mV 1) (mUn gNeg (mC (.int 1)))) (mC (.int 1))) (mC (.int 1))))
 sNil)
 (sRet (mBin gAdd (mC (.int 1)) (mBin gMod (mBin gDiv (mV 0) (mC (.int 8))) (mArgs gMax2 (mCons (mC (.int 1)) (mCons (mBin gIx (mBin gIx (mV 1) (mUn gNeg (mC (.int 1)))) (mC (.int 1))) mNil)))))))))
def m__law_depth : List D → Sto → Vx.R D := mDef 2 2 b__law_depth
def b__law_halls : FS := (sSeq (sSet 1 (mBin gAdd (mC (.int 1)) (mBin gMod (mCall m__law_mixed (mCons (mV 0) (mCons (mC (.int 0)) (mCons (mC (.int 1)) mNil)))) (mC (.int 12)))))
 (sSeq (sSet 2 (mBin gMod (mCall m__law_mixed (mCons (mV 0) (mCons (mC (.int 0)) (mCons (mC (.int 2)) mNil)))) (mC (.int 6))))
 (sSeq (sIf (mT (mBin gEq (mV 2) (mC (.int 1))))
 (sSet 1 (mBin gIx (mLst (mCons (mBin gAdd (mC (.int 13)) (mBin gMod (mCall m__law_mixed (mCons (mV 0) (mCons (mC (.int 0)) (mCons (mC (.int 3)) mNil)))) (mC (.int 27)))) (mCons (mC (.int 40)) (mCons (mC (.int 41)) (mCons (mC (.int 42)) mNil))))) (mBin gMod (mCall m__law_mixed (mCons (mV 0) (mCons (mC (.int 0)) (mCons (mC (.int 13)) mNil)))) (mC (.int 4)))))
 sNil)
 (sSeq (sIf (mT (mBin gEq (mV 2) (mC (.int 2))))
 (sSet 1 (mBin gAdd (mC (.int 11)) (mBin gMod (mCall m__law_mixed (mCons (mV 0) (mCons (mC (.int 0)) (mCons (mC (.int 3)) mNil)))) (mC (.int 5)))))
 sNil)
 (sSeq (sSetF 3 (mLst mNil))
 (sSeq (sFor (itRg1 (mCons (mV 1) mNil)) (tg1 4)
 (sSeq (sSet 5 (mCall m__law_mixed (mCons (mV 0) (mCons (mV 4) (mCons (mC (.int 4)) mNil)))))
 (sSeq (sSet 6 (mCallL m__law_depth (mCons (mCall m__law_mixed (mCons (mV 0) (mCons (mV 4) (mCons (mC (.int 5)) mNil)))) (mCons (mV 3) mNil))))
 (sSeq (sIf (mAnd (mT (mBin gNe (mBin gMod (mV 2) (mC (.int 3))) (mC (.int 0)))) (mT (mBin gGt (mArgs gLen (mCons (mV 3) mNil)) (mC (.int 0)))))
 (sSeq (sSet 6 (mBin gAdd (mC (.int 1)) (mBin gMod (mCall m__law_mixed (mCons (mV 0) (mCons (mV 4) (mCons (mC (.int 5)) mNil)))) (mArgs gMax2 (mCons (mC (.int 1)) (mCons (mBin gIx (mBin gIx (mV 3) (mUn gNeg (mC (.int 1)))) (mC (.int 1))) mNil))))))
 (sIf (mT (mBin gNe (mBin gIx (mBin gIx (mV 3) (mUn gNeg (mC (.int 1)))) (mC (.int 0))) (mC (.str "plain"))))
 (sSet 6 (mBin gAdd (mBin gIx (mBin gIx (mV 3) (mUn gNeg (mC (.int 1)))) (mC (.int 1))) (mC (.int 1))))
 sNil))
 sNil)
 (sSeq (sSet 7 (mBin gIx (mLst (mCons (mC (.str "one")) (mCons (mC (.str "all")) (mCons (mC (.str "plain")) (mCons (mC (.str "plain")) (mCons (mC (.str "one")) mNil)))))) (mBin gMod (mV 5) (mC (.int 5)))))
 (sSeq (sIf (mT (mBin gEq (mV 2) (mC (.int 2))))
 (sSet 7 (mBin gIx (mLst (mCons (mC (.str "one")) (mCons (mC (.str "all")) mNil))) (mBin gMod (mV 5) (mC (.int 2)))))
 sNil)
 (sSeq (sIf (mAnd (mT (mBin gEq (mV 4) (mC (.int 0)))) (mAnd (mT (mBin gGt (mV 1) (mC (.int 1)))) (mT (mBin gGt (mBin gMod (mBin gDiv (mV 5) (mC (.int 5))) (mC (.int 8))) (mC (.int 0))))))
 (sSet 7 (mBin gIx (mLst (mCons (mC (.str "one")) (mCons (mC (.str "all")) mNil))) (mBin gMod (mV 5) (mC (.int 2)))))
 (sIf (mOr (mAnd (mT (mBin gEq (mV 4) (mBin gSub (mV 1) (mC (.int 1))))) (mT (mBin gGt (mBin gMod (mBin gDiv (mV 5) (mC (.int 5))) (mC (.int 6))) (mC (.int 0))))) (mAnd (mT (mBin gEq (mV 2) (mC (.int 1)))) (mAnd (mT (mBin gGt (mV 4) (mC (.int 0)))) (mT (mBin gGt (mBin gMod (mBin gDiv (mV 5) (mC (.int 5))) (mC (.int 8))) (mC (.int 1)))))))
 (sSet 7 (mC (.str "plain")))
 sNil))
 (sApp 3 (mTup (mCons (mV 7) (mCons (mV 6) mNil)))))))))))
 (sRet (mV 3))))))))
def m__law_halls : List D → Sto → Vx.R D := mDef 8 1 b__law_halls
def b__law_name : FS := (sSeq (sSet 2 (mBin gIx (mLst (mCons (mC (.str "")) (mCons (mC (.str "in")) (mCons (mC (.str "plain")) (mCons (mC (.str "keepskeeps")) mNil))))) (mBin gMod (mV 1) (mC (.int 4)))))
 (sSeq (sSet 3 (mBin gMod (mBin gDiv (mV 1) (mC (.int 4))) (mBin gAdd (mArgs gLen (mCons (mV 2) mNil)) (mC (.int 1)))))
 (sRet (mBin gAdd (mBin gAdd (mBin gAdd (mCut (mV 2) mNoO (mO (mV 3))) (mBin gIx (mC (.str "abcdefghijklmnopqrstuvwxyz")) (mBin gMod (mV 0) (mC (.int 26))))) (mBin gIx (mC (.str "mn")) (mBin gDiv (mV 0) (mC (.int 26))))) (mCut (mV 2) (mO (mV 3)) mNoO)))))
def m__law_name : List D → Sto → Vx.R D := mDef 4 2 b__law_name
def b_Draft___init__ (ca : Nat → Nat) : FS := (sSeq (sFldD (ca 3) "heads" (mV 0) (mBox (mLst mNil)))
 (sSeq (sFldD (ca 3) "boxes" (mV 0) (mBox (mLst mNil)))
 (sSeq (sFldD (ca 3) "events" (mV 0) (mBox (mLst mNil)))
 (sSeq (sFldD (ca 3) "rooms" (mV 0) (mBox (mLst mNil)))
 (sSeq (sFldD (ca 3) "doors" (mV 0) (mBox (mLst mNil)))
 (sFldD (ca 3) "last" (mV 0) (mC (.str ""))))))))
def m_Draft___init__ (ca : Nat → Nat) : List D → Sto → Vx.R D := mDef 1 1 (b_Draft___init__ ca)
def b_is_word : FS := (sSeq (sIf (mOr (mT (mBin gLt (mArgs gLen (mCons (mV 0) mNil)) (mC (.int 1)))) (mT (mBin gGt (mArgs gLen (mCons (mV 0) mNil)) (mC (.int 12)))))
 (sRet (mC (.bl false)))
 sNil)
 (sSeq (sFor (itStr (mV 0)) (tg1 1)
 (sIf (mT (mBin gNotIn (mV 1) (mC (.str "abcdefghijklmnopqrstuvwxyz"))))
 (sRet (mC (.bl false)))
 sNil))
 (sRet (mC (.bl true)))))
def m_is_word : List D → Sto → Vx.R D := mDef 2 1 b_is_word
def b_names_of : FS := (sRet (mCompO (mV 0) (tg1 1) mYes (mBin gIx (mV 1) (mC (.int 0))) [1]))
def m_names_of : List D → Sto → Vx.R D := mDef 2 1 b_names_of
def b_read_number (ca : Nat → Nat) : FS := (sSeq (sSet 1 (mV 0))
 (sSeq (sIf (mT (mSt gStarts (mV 0) (mC (.str "-"))))
 (sSet 1 (mCut (mV 0) (mO (mC (.int 1))) mNoO))
 sNil)
 (sSeq (sFor (itStr (mV 1)) (tg1 2)
 (sIf (mT (mBin gNotIn (mV 2) (mC (.str "0123456789"))))
 (sRaise0 (ca 14) 14)
 sNil))
 (sSeq (sIf (mOr (mT (mBin gEq (mV 1) (mC (.str "")))) (mAnd (mT (mSt gStarts (mV 1) (mC (.str "0")))) (mT (mBin gNe (mV 0) (mC (.str "0"))))))
 (sRaise0 (ca 14) 14)
 sNil)
 (sRet (mArgs gIntT (mCons (mV 0) mNil)))))))
def m_read_number (ca : Nat → Nat) : List D → Sto → Vx.R D := mDef 3 1 (b_read_number ca)
def b_sure (ca : Nat → Nat) : FS := (sIf (mNot (mT (mV 0)))
 (sRaise0 (ca 14) 14)
 sNil)
def m_sure (ca : Nat → Nat) : List D → Sto → Vx.R D := mDef 1 1 (b_sure ca)
def b_number_from (ca : Nat → Nat) : FS := (sSeq (sExp (mCallX (m_sure ca) (mCons (mBin gLt (mV 1) (mArgs gLen (mCons (mV 0) mNil))) mNil)))
 (sSeq (sSet 4 (mCallX (m_read_number ca) (mCons (mBin gIx (mV 0) (mV 1)) mNil)))
 (sSeq (sExp (mCallX (m_sure ca) (mCons (mChain gLe gLe (mV 2) (mV 4) (mV 3)) mNil)))
 (sRet (mV 4)))))
def m_number_from (ca : Nat → Nat) : List D → Sto → Vx.R D := mDef 5 4 (b_number_from ca)
def b_Draft_box (ca : Nat → Nat) : FS := (sSeq (sExp (mCallX (m_sure ca) (mCons (mAndV (mBin gEq (mArgsO gLen (mCons (mFld (ca 3) "events" (mV 0)) mNil)) (mC (.int 0))) (mAndV (mBin gEq (mArgsO gLen (mCons (mFld (ca 3) "rooms" (mV 0)) mNil)) (mC (.int 0))) (mBin gLt (mArgsO gLen (mCons (mFld (ca 3) "boxes" (mV 0)) mNil)) (mC (.int 6))))) mNil)))
 (sSeq (sExp (mCallX (m_sure ca) (mCons (mAndV (mBin gEq (mArgs gLen (mCons (mV 1) mNil)) (mC (.int 4))) (mAndV (mCall m_is_word (mCons (mBin gIx (mV 1) (mC (.int 1))) mNil)) (mBin gNotIn (mBin gIx (mV 1) (mC (.int 1))) (mCall m_names_of (mCons (mFld (ca 3) "boxes" (mV 0)) mNil))))) mNil)))
 (sSeq (sSet 2 (mCallX (m_number_from ca) (mCons (mV 1) (mCons (mC (.int 2)) (mCons (mC (.int 1)) (mCons (mC (.int 1000000000000000000000000000000)) mNil))))))
 (sExp (mMethO gAppend (mFld (ca 3) "boxes" (mV 0)) (mCons (mTup (mCons (mBin gIx (mV 1) (mC (.int 1))) (mCons (mV 2) (mCons (mCallX (m_number_from ca) (mCons (mV 1) (mCons (mC (.int 3)) (mCons (mC (.int 0)) (mCons (mBin gSub (mV 2) (mC (.int 1))) mNil))))) mNil)))) mNil))))))
def m_Draft_box (ca : Nat → Nat) : List D → Sto → Vx.R D := mDef 3 2 (b_Draft_box ca)
def b_Draft_whole (ca : Nat → Nat) : FS := (sRet (mAndV (mBin gGt (mArgsO gLen (mCons (mFld (ca 3) "rooms" (mV 0)) mNil)) (mC (.int 0))) (mBin gEq (mBin gIx (mBinO gIx (mFld (ca 3) "rooms" (mV 0)) (mUn gNeg (mC (.int 1)))) (mC (.int 1))) (mC (.str "plain")))))
def m_Draft_whole (ca : Nat → Nat) : List D → Sto → Vx.R D := mDef 1 1 (b_Draft_whole ca)
def b_place_from (ca : Nat → Nat) : FS := (sSeq (sExp (mCallX (m_sure ca) (mCons (mAndV (mBin gLt (mV 1) (mArgs gLen (mCons (mV 0) mNil))) (mBinO gIn (mBin gIx (mV 0) (mV 1)) (mV 2))) mNil)))
 (sRet (mIndexO (mV 2) (mBin gIx (mV 0) (mV 1)))))
def m_place_from (ca : Nat → Nat) : List D → Sto → Vx.R D := mDef 3 3 (b_place_from ca)
def b_Draft_door (ca : Nat → Nat) : FS := (sSeq (sExp (mCallX (m_sure ca) (mCons (mAndV (mMeth (ca 3) "whole" (m_Draft_whole ca) (mV 0) mNil) (mAndV (mBin gLt (mArgsO gLen (mCons (mFld (ca 3) "doors" (mV 0)) mNil)) (mC (.int 60))) (mChain gLe gLe (mC (.int 4)) (mArgs gLen (mCons (mV 1) mNil)) (mC (.int 5))))) mNil)))
 (sSeq (sSet 2 (mCall m_names_of (mCons (mFld (ca 3) "rooms" (mV 0)) mNil)))
 (sSeq (sSet 3 (mCallX (m_place_from ca) (mCons (mV 1) (mCons (mC (.int 1)) (mCons (mV 2) mNil)))))
 (sSeq (sSet 4 (mCallX (m_place_from ca) (mCons (mV 1) (mCons (mC (.int 2)) (mCons (mFld (ca 3) "events" (mV 0)) mNil)))))
 (sSeq (sSet 5 (mC .non))
 (sSeq (sIf (mT (mBin gEq (mBin gIx (mV 1) (mC (.int 3))) (mC (.str "stay"))))
 (sExp (mCallX (m_sure ca) (mCons (mBin gEq (mArgs gLen (mCons (mV 1) mNil)) (mC (.int 4))) mNil)))
 (sSeq (sSet 5 (mCallX (m_place_from ca) (mCons (mV 1) (mCons (mC (.int 4)) (mCons (mV 2) mNil)))))
 (sExp (mCallX (m_sure ca) (mCons (mOrV (mBin gEq (mBin gIx (mV 1) (mC (.int 3))) (mC (.str "to"))) (mAndV (mBin gEq (mBin gIx (mV 1) (mC (.int 3))) (mC (.str "back"))) (mBin gNe (mBin gIx (mBinO gIx (mFld (ca 3) "rooms" (mV 0)) (mV 5)) (mC (.int 3))) (mC (.str ""))))) mNil)))))
 (sExp (mMethO gAppend (mFld (ca 3) "doors" (mV 0)) (mCons (mTup (mCons (mV 3) (mCons (mV 4) (mCons (mTup (mCons (mC (.str "yes")) mNil)) (mCons (mTup mNil) (mCons (mBin gIx (mV 1) (mC (.int 3))) (mCons (mV 5) mNil))))))) mNil)))))))))
def m_Draft_door (ca : Nat → Nat) : List D → Sto → Vx.R D := mDef 6 2 (b_Draft_door ca)
def b_read_deed (ca : Nat → Nat) : FS := (sSeq (sSet 3 (mSt gSplit (mV 0) (mC (.str " "))))
 (sSeq (sSet 4 (mBin gIx (mV 3) (mC (.int 0))))
 (sSeq (sIf (mT (mBin gEq (mV 4) (mC (.str "say"))))
 (sSeq (sExp (mCallX (m_sure ca) (mCons (mAndV (mBin gEq (mArgs gLen (mCons (mV 3) mNil)) (mC (.int 2))) (mCall m_is_word (mCons (mBin gIx (mV 3) (mC (.int 1))) mNil))) mNil)))
 (sRet (mTup (mCons (mV 4) (mCons (mBin gIx (mV 3) (mC (.int 1))) mNil)))))
 sNil)
 (sSeq (sIf (mT (mBin gEq (mV 4) (mC (.str "send"))))
 (sSeq (sExp (mCallX (m_sure ca) (mCons (mBin gEq (mArgs gLen (mCons (mV 3) mNil)) (mC (.int 2))) mNil)))
 (sRet (mTup (mCons (mV 4) (mCons (mCallX (m_place_from ca) (mCons (mV 3) (mCons (mC (.int 1)) (mCons (mArgsO gList (mCons (mV 2) mNil)) mNil)))) mNil)))))
 sNil)
 (sSeq (sExp (mCallX (m_sure ca) (mCons (mAndV (mOrV (mBin gEq (mV 4) (mC (.str "set"))) (mBin gEq (mV 4) (mC (.str "add")))) (mBin gEq (mArgs gLen (mCons (mV 3) mNil)) (mC (.int 3)))) mNil)))
 (sSeq (sSet 5 (mCallX (m_place_from ca) (mCons (mV 3) (mCons (mC (.int 1)) (mCons (mCall m_names_of (mCons (mV 1) mNil)) mNil)))))
 (sSeq (sIf (mT (mBin gEq (mV 4) (mC (.str "set"))))
 (sRet (mTup (mCons (mV 4) (mCons (mV 5) (mCons (mCallX (m_number_from ca) (mCons (mV 3) (mCons (mC (.int 2)) (mCons (mC (.int 0)) (mCons (mBin gSub (mBin gIx (mBinO gIx (mV 1) (mV 5)) (mC (.int 1))) (mC (.int 1))) mNil))))) mNil)))))
 sNil)
 (sRet (mTup (mCons (mV 4) (mCons (mV 5) (mCons (mCallX (m_number_from ca) (mCons (mV 3) (mCons (mC (.int 2)) (mCons (mUn gNeg (mC (.int 1000000000000000000000000000000))) (mCons (mC (.int 1000000000000000000000000000000)) mNil))))) mNil))))))))))))
def m_read_deed (ca : Nat → Nat) : List D → Sto → Vx.R D := mDef 6 3 (b_read_deed ca)
def b_Draft_going (ca : Nat → Nat) : FS := (sSeq (sExp (mCallX (m_sure ca) (mCons (mOrV (mBin gEq (mFld (ca 3) "last" (mV 0)) (mC (.str "room"))) (mOrV (mBin gEq (mFld (ca 3) "last" (mV 0)) (mC (.str "in"))) (mAndV (mBin gEq (mFld (ca 3) "last" (mV 0)) (mC (.str "out"))) (mBin gEq (mV 1) (mC (.str "out")))))) mNil)))
 (sSeq (sSet 3 (mMethO gPop0 (mFld (ca 3) "rooms" (mV 0)) mNil))
 (sSeq (sSet 4 (mBin gIx (mV 3) (mC (.int 5))))
 (sSeq (sSet 5 (mBin gIx (mV 3) (mC (.int 6))))
 (sSeq (sSet 6 (mTup (mCons (mCallX (m_read_deed ca) (mCons (mV 2) (mCons (mFld (ca 3) "boxes" (mV 0)) (mCons (mFld (ca 3) "events" (mV 0)) mNil)))) mNil)))
 (sSeq (sIf (mT (mBin gEq (mV 1) (mC (.str "in"))))
 (sSet 4 (mBin gAdd (mV 4) (mV 6)))
 (sSet 5 (mBin gAdd (mV 5) (mV 6))))
 (sSeq (sExp (mCallX (m_sure ca) (mCons (mAndV (mBin gLe (mArgs gLen (mCons (mV 4) mNil)) (mC (.int 8))) (mBin gLe (mArgs gLen (mCons (mV 5) mNil)) (mC (.int 8)))) mNil)))
 (sExp (mMethO gAppend (mFld (ca 3) "rooms" (mV 0)) (mCons (mBin gAdd (mCut (mV 3) mNoO (mO (mC (.int 5)))) (mTup (mCons (mV 4) (mCons (mV 5) mNil)))) mNil))))))))))
def m_Draft_going (ca : Nat → Nat) : List D → Sto → Vx.R D := mDef 7 3 (b_Draft_going ca)
def b_Draft_happening (ca : Nat → Nat) : FS := (sSeq (sExp (mCallX (m_sure ca) (mCons (mAndV (mBin gEq (mArgsO gLen (mCons (mFld (ca 3) "rooms" (mV 0)) mNil)) (mC (.int 0))) (mBin gLt (mArgsO gLen (mCons (mFld (ca 3) "events" (mV 0)) mNil)) (mC (.int 8)))) mNil)))
 (sSeq (sExp (mCallX (m_sure ca) (mCons (mAndV (mBin gEq (mArgs gLen (mCons (mV 1) mNil)) (mC (.int 2))) (mAndV (mCall m_is_word (mCons (mBin gIx (mV 1) (mC (.int 1))) mNil)) (mBinO gNotIn (mBin gIx (mV 1) (mC (.int 1))) (mFld (ca 3) "events" (mV 0))))) mNil)))
 (sExp (mMethO gAppend (mFld (ca 3) "events" (mV 0)) (mCons (mBin gIx (mV 1) (mC (.int 1))) mNil)))))
def m_Draft_happening (ca : Nat → Nat) : List D → Sto → Vx.R D := mDef 2 2 (b_Draft_happening ca)
def b_Draft_head (ca : Nat → Nat) : FS := (sSeq (sExp (mCallX (m_sure ca) (mCons (mAndV (mBin gEq (mArgs gLen (mCons (mV 1) mNil)) (mC (.int 2))) (mBin gEq (mBin gIx (mV 1) (mC (.int 0))) (mBin gIx (mLst (mCons (mC (.str "order")) (mCons (mC (.str "letters")) (mCons (mC (.str "turns")) mNil)))) (mArgsO gLen (mCons (mFld (ca 3) "heads" (mV 0)) mNil))))) mNil)))
 (sIf (mT (mBin gEq (mBin gIx (mV 1) (mC (.int 0))) (mC (.str "order"))))
 (sSeq (sExp (mCallX (m_sure ca) (mCons (mOrV (mBin gEq (mBin gIx (mV 1) (mC (.int 1))) (mC (.str "inner"))) (mBin gEq (mBin gIx (mV 1) (mC (.int 1))) (mC (.str "outer")))) mNil)))
 (sExp (mMethO gAppend (mFld (ca 3) "heads" (mV 0)) (mCons (mBin gIx (mV 1) (mC (.int 1))) mNil))))
 (sIf (mT (mBin gEq (mBin gIx (mV 1) (mC (.int 0))) (mC (.str "letters"))))
 (sExp (mMethO gAppend (mFld (ca 3) "heads" (mV 0)) (mCons (mCallX (m_number_from ca) (mCons (mV 1) (mCons (mC (.int 1)) (mCons (mC (.int 0)) (mCons (mC (.int 12)) mNil))))) mNil)))
 (sExp (mMethO gAppend (mFld (ca 3) "heads" (mV 0)) (mCons (mCallX (m_number_from ca) (mCons (mV 1) (mCons (mC (.int 1)) (mCons (mC (.int 1)) (mCons (mC (.int 20)) mNil))))) mNil))))))
def m_Draft_head (ca : Nat → Nat) : List D → Sto → Vx.R D := mDef 2 2 (b_Draft_head ca)
def b_guard_from (ca : Nat → Nat) (mrec : List D → Sto → Vx.R D) : FS := (sSeq (sExp (mCallX (m_sure ca) (mCons (mAndV (mBin gGt (mV 2) (mC (.int 0))) (mBin gLt (mV 1) (mArgs gLen (mCons (mV 0) mNil)))) mNil)))
 (sSeq (sSet 5 (mBin gIx (mV 0) (mV 1)))
 (sSeq (sIf (mT (mBin gEq (mV 5) (mC (.str "yes"))))
 (sRet (mTup (mCons (mTup (mCons (mV 5) mNil)) (mCons (mBin gAdd (mV 1) (mC (.int 1))) mNil))))
 sNil)
 (sSeq (sIf (mT (mBin gEq (mV 5) (mC (.str "in"))))
 (sRet (mTup (mCons (mTup (mCons (mV 5) (mCons (mCallX (m_place_from ca) (mCons (mV 0) (mCons (mBin gAdd (mV 1) (mC (.int 1))) (mCons (mV 4) mNil)))) mNil))) (mCons (mBin gAdd (mV 1) (mC (.int 2))) mNil))))
 sNil)
 (sSeq (sIf (mOr (mT (mBin gEq (mV 5) (mC (.str "is")))) (mT (mBin gEq (mV 5) (mC (.str "under")))))
 (sSeq (sSet 6 (mCallX (m_place_from ca) (mCons (mV 0) (mCons (mBin gAdd (mV 1) (mC (.int 1))) (mCons (mV 3) mNil)))))
 (sRet (mTup (mCons (mTup (mCons (mV 5) (mCons (mV 6) (mCons (mCallX (m_number_from ca) (mCons (mV 0) (mCons (mBin gAdd (mV 1) (mC (.int 2))) (mCons (mUn gNeg (mC (.int 1000000000000000000000000000000))) (mCons (mC (.int 1000000000000000000000000000000)) mNil))))) mNil)))) (mCons (mBin gAdd (mV 1) (mC (.int 3))) mNil)))))
 sNil)
 (sSeq (sExp (mCallX (m_sure ca) (mCons (mOrV (mBin gEq (mV 5) (mC (.str "not"))) (mOrV (mBin gEq (mV 5) (mC (.str "both"))) (mBin gEq (mV 5) (mC (.str "either"))))) mNil)))
 (sSeq (sSet 7 (mCallX mrec (mCons (mV 0) (mCons (mBin gAdd (mV 1) (mC (.int 1))) (mCons (mBin gSub (mV 2) (mC (.int 1))) (mCons (mV 3) (mCons (mV 4) mNil)))))))
 (sSeq (sIf (mT (mBin gEq (mV 5) (mC (.str "not"))))
 (sRet (mTup (mCons (mTup (mCons (mV 5) (mCons (mBin gIx (mV 7) (mC (.int 0))) mNil))) (mCons (mBin gIx (mV 7) (mC (.int 1))) mNil))))
 sNil)
 (sSeq (sSet 8 (mCallX mrec (mCons (mV 0) (mCons (mBin gIx (mV 7) (mC (.int 1))) (mCons (mBin gSub (mV 2) (mC (.int 1))) (mCons (mV 3) (mCons (mV 4) mNil)))))))
 (sRet (mTup (mCons (mTup (mCons (mV 5) (mCons (mBin gIx (mV 7) (mC (.int 0))) (mCons (mBin gIx (mV 8) (mC (.int 0))) mNil)))) (mCons (mBin gIx (mV 8) (mC (.int 1))) mNil)))))))))))))
def r_guard_from (ca : Nat → Nat) : Nat → List D → Sto → Vx.R D
  | 0 => fun _ _ => .no
  | n + 1 => mDef 9 5 (b_guard_from ca (r_guard_from ca n))
def m_guard_from (ca : Nat → Nat) : List D → Sto → Vx.R D := r_guard_from ca 50
def b_read_guard (ca : Nat → Nat) : FS := (sSeq (sSet 3 (mSt gSplit (mV 0) (mC (.str " "))))
 (sSeq (sSet 4 (mCallX (m_guard_from ca) (mCons (mV 3) (mCons (mC (.int 0)) (mCons (mC (.int 6)) (mCons (mCall m_names_of (mCons (mV 1) mNil)) (mCons (mCall m_names_of (mCons (mV 2) mNil)) mNil)))))))
 (sSeq (sExp (mCallX (m_sure ca) (mCons (mBin gEq (mBin gIx (mV 4) (mC (.int 1))) (mArgs gLen (mCons (mV 3) mNil))) mNil)))
 (sRet (mBin gIx (mV 4) (mC (.int 0)))))))
def m_read_guard (ca : Nat → Nat) : List D → Sto → Vx.R D := mDef 5 3 (b_read_guard ca)
def b_Draft_passing (ca : Nat → Nat) : FS := (sSeq (sExp (mCallX (m_sure ca) (mCons (mOrV (mBin gEq (mFld (ca 3) "last" (mV 0)) (mC (.str "door"))) (mAndV (mBin gEq (mV 1) (mC (.str "do"))) (mOrV (mBin gEq (mFld (ca 3) "last" (mV 0)) (mC (.str "when"))) (mBin gEq (mFld (ca 3) "last" (mV 0)) (mC (.str "do")))))) mNil)))
 (sSeq (sSet 3 (mMethO gPop0 (mFld (ca 3) "doors" (mV 0)) mNil))
 (sSeq (sSet 4 (mBin gIx (mV 3) (mC (.int 2))))
 (sSeq (sSet 5 (mBin gIx (mV 3) (mC (.int 3))))
 (sSeq (sIf (mT (mBin gEq (mV 1) (mC (.str "when"))))
 (sSeq (sSet 4 (mCallX (m_read_guard ca) (mCons (mV 2) (mCons (mFld (ca 3) "boxes" (mV 0)) (mCons (mFld (ca 3) "rooms" (mV 0)) mNil)))))
 (sExp (mCallX (m_sure ca) (mCons (mBin gNe (mV 4) (mTup (mCons (mC (.str "yes")) mNil))) mNil))))
 (sSeq (sSet 5 (mBin gAdd (mV 5) (mTup (mCons (mCallX (m_read_deed ca) (mCons (mV 2) (mCons (mFld (ca 3) "boxes" (mV 0)) (mCons (mFld (ca 3) "events" (mV 0)) mNil)))) mNil))))
 (sExp (mCallX (m_sure ca) (mCons (mBin gLe (mArgs gLen (mCons (mV 5) mNil)) (mC (.int 8))) mNil)))))
 (sExp (mMethO gAppend (mFld (ca 3) "doors" (mV 0)) (mCons (mTup (mCons (mBin gIx (mV 3) (mC (.int 0))) (mCons (mBin gIx (mV 3) (mC (.int 1))) (mCons (mV 4) (mCons (mV 5) (mCons (mBin gIx (mV 3) (mC (.int 4))) (mCons (mBin gIx (mV 3) (mC (.int 5))) mNil))))))) mNil))))))))
def m_Draft_passing (ca : Nat → Nat) : List D → Sto → Vx.R D := mDef 6 3 (b_Draft_passing ca)
def b_Draft_fits (ca : Nat → Nat) : FS := (sSeq (sIf (mT (mBin gEq (mArgsO gLen (mCons (mFld (ca 3) "rooms" (mV 0)) mNil)) (mC (.int 0))))
 (sRet (mBin gEq (mV 1) (mC (.int 0))))
 sNil)
 (sSeq (sSet 2 (mBinO gIx (mFld (ca 3) "rooms" (mV 0)) (mUn gNeg (mC (.int 1)))))
 (sSeq (sIf (mT (mBin gEq (mBin gIx (mV 2) (mC (.int 1))) (mC (.str "plain"))))
 (sRet (mChain gLe gLe (mC (.int 1)) (mV 1) (mBin gIx (mV 2) (mC (.int 2)))))
 sNil)
 (sRet (mAndV (mBin gEq (mV 1) (mBin gAdd (mBin gIx (mV 2) (mC (.int 2))) (mC (.int 1)))) (mBin gLe (mV 1) (mC (.int 12))))))))
def m_Draft_fits (ca : Nat → Nat) : List D → Sto → Vx.R D := mDef 3 2 (b_Draft_fits ca)
def b_Draft_room (ca : Nat → Nat) : FS := (sSeq (sSet 2 (mSt gLstrip (mV 1) (mC (.str " "))))
 (sSeq (sSet 3 (mBin gDiv (mBin gSub (mArgs gLen (mCons (mV 1) mNil)) (mArgs gLen (mCons (mV 2) mNil))) (mC (.int 2))))
 (sSeq (sExp (mCallX (m_sure ca) (mCons (mAndV (mBin gEq (mBin gMul (mC (.int 2)) (mV 3)) (mBin gSub (mArgs gLen (mCons (mV 1) mNil)) (mArgs gLen (mCons (mV 2) mNil)))) (mMeth (ca 3) "fits" (m_Draft_fits ca) (mV 0) (mCons (mV 3) mNil))) mNil)))
 (sSeq (sSet 4 (mSt gSplit (mV 2) (mC (.str " "))))
 (sSeq (sExp (mCallX (m_sure ca) (mCons (mAndV (mBin gLt (mArgsO gLen (mCons (mFld (ca 3) "rooms" (mV 0)) mNil)) (mC (.int 40))) (mAndV (mBin gEq (mArgsO gLen (mCons (mFld (ca 3) "doors" (mV 0)) mNil)) (mC (.int 0))) (mBin gGt (mArgs gLen (mCons (mV 4) mNil)) (mC (.int 1))))) mNil)))
 (sSeq (sSet 5 (mBin gIx (mV 4) (mC (.int 0))))
 (sSeq (sExp (mCallX (m_sure ca) (mCons (mOrV (mBin gEq (mV 5) (mC (.str "plain"))) (mOrV (mBin gEq (mV 5) (mC (.str "one"))) (mBin gEq (mV 5) (mC (.str "all"))))) mNil)))
 (sSeq (sExp (mCallX (m_sure ca) (mCons (mAndV (mCall m_is_word (mCons (mBin gIx (mV 4) (mC (.int 1))) mNil)) (mBin gNotIn (mBin gIx (mV 4) (mC (.int 1))) (mCall m_names_of (mCons (mFld (ca 3) "rooms" (mV 0)) mNil)))) mNil)))
 (sSeq (sSet 6 (mC (.str "")))
 (sSeq (sSet 7 (mC (.str "")))
 (sSeq (sSet 8 (mCut (mV 4) (mO (mC (.int 2))) mNoO))
 (sSeq (sIf (mT (mBin gEq (mCut (mV 8) mNoO (mO (mC (.int 1)))) (mLst (mCons (mC (.str "keeps")) mNil))))
 (sSeq (sSet 6 (mSt gJoin (mC (.str "")) (mCut (mV 8) (mO (mC (.int 1))) (mO (mC (.int 2))))))
 (sSeq (sExp (mCallX (m_sure ca) (mCons (mOrV (mAndV (mBin gEq (mV 6) (mC (.str "near"))) (mBin gEq (mV 5) (mC (.str "one")))) (mAndV (mBin gEq (mV 6) (mC (.str "deep"))) (mBin gNe (mV 5) (mC (.str "plain"))))) mNil)))
 (sSet 8 (mCut (mV 8) (mO (mC (.int 2))) mNoO))))
 sNil)
 (sSeq (sIf (mT (mBin gEq (mCut (mV 8) mNoO (mO (mC (.int 1)))) (mLst (mCons (mC (.str "lamp")) mNil))))
 (sSeq (sSet 7 (mSt gJoin (mC (.str "")) (mCut (mV 8) (mO (mC (.int 1))) (mO (mC (.int 2))))))
 (sSeq (sExp (mCallX (m_sure ca) (mCons (mCall m_is_word (mCons (mV 7) mNil)) mNil)))
 (sSet 8 (mCut (mV 8) (mO (mC (.int 2))) mNoO))))
 sNil)
 (sSeq (sExp (mCallX (m_sure ca) (mCons (mBin gEq (mArgs gLen (mCons (mV 8) mNil)) (mC (.int 0))) mNil)))
 (sExp (mMethO gAppend (mFld (ca 3) "rooms" (mV 0)) (mCons (mTup (mCons (mBin gIx (mV 4) (mC (.int 1))) (mCons (mV 5) (mCons (mV 3) (mCons (mV 6) (mCons (mV 7) (mCons (mTup mNil) (mCons (mTup mNil) mNil)))))))) mNil)))))))))))))))))
def m_Draft_room (ca : Nat → Nat) : List D → Sto → Vx.R D := mDef 9 2 (b_Draft_room ca)
def b_Draft_take (ca : Nat → Nat) : FS := (sSeq (sSet 2 (mSt gSplit (mV 1) (mC (.str " "))))
 (sSeq (sSet 3 (mBin gIx (mV 2) (mC (.int 0))))
 (sSeq (sIf (mT (mBin gLt (mArgsO gLen (mCons (mFld (ca 3) "heads" (mV 0)) mNil)) (mC (.int 3))))
 (sExp (mMethX (ca 3) "head" (m_Draft_head ca) (mV 0) (mCons (mV 2) mNil)))
 (sIf (mT (mBin gEq (mV 3) (mC (.str "box"))))
 (sExp (mMethX (ca 3) "box" (m_Draft_box ca) (mV 0) (mCons (mV 2) mNil)))
 (sIf (mT (mBin gEq (mV 3) (mC (.str "event"))))
 (sExp (mMethX (ca 3) "happening" (m_Draft_happening ca) (mV 0) (mCons (mV 2) mNil)))
 (sIf (mOr (mT (mBin gEq (mV 3) (mC (.str "in")))) (mT (mBin gEq (mV 3) (mC (.str "out")))))
 (sExp (mMethX (ca 3) "going" (m_Draft_going ca) (mV 0) (mCons (mV 3) (mCons (mBin gIx (mSt gPart (mV 1) (mC (.str " "))) (mC (.int 2))) mNil))))
 (sIf (mT (mBin gEq (mV 3) (mC (.str "door"))))
 (sExp (mMethX (ca 3) "door" (m_Draft_door ca) (mV 0) (mCons (mV 2) mNil)))
 (sIf (mOr (mT (mBin gEq (mV 3) (mC (.str "when")))) (mT (mBin gEq (mV 3) (mC (.str "do")))))
 (sExp (mMethX (ca 3) "passing" (m_Draft_passing ca) (mV 0) (mCons (mV 3) (mCons (mBin gIx (mSt gPart (mV 1) (mC (.str " "))) (mC (.int 2))) mNil))))
 (sSeq (sExp (mMethX (ca 3) "room" (m_Draft_room ca) (mV 0) (mCons (mV 1) mNil)))
 (sSet 3 (mC (.str "room"))))))))))
 (sFldD (ca 3) "last" (mV 0) (mV 3)))))
def m_Draft_take (ca : Nat → Nat) : List D → Sto → Vx.R D := mDef 4 2 (b_Draft_take ca)
def b_Draft_told (ca : Nat → Nat) : FS := (sSeq (sSet 1 (mTup (mCons (mArgsO gTuple (mCons (mFld (ca 3) "boxes" (mV 0)) mNil)) (mCons (mArgsO gTuple (mCons (mFld (ca 3) "events" (mV 0)) mNil)) (mCons (mArgsO gTuple (mCons (mFld (ca 3) "rooms" (mV 0)) mNil)) (mCons (mArgsO gTuple (mCons (mFld (ca 3) "doors" (mV 0)) mNil)) mNil))))))
 (sRet (mBin gAdd (mArgsO gTuple (mCons (mFld (ca 3) "heads" (mV 0)) mNil)) (mV 1))))
def m_Draft_told (ca : Nat → Nat) : List D → Sto → Vx.R D := mDef 2 1 (b_Draft_told ca)
def b_read (ca : Nat → Nat) : FS := (sSeq (sSet 1 (mSt gSplit (mV 0) (mC (.str "\n"))))
 (sSeq (sSet 2 (mMake (ca 3) (m_Draft___init__ ca) mNil))
 (sSeq (sFor (itRg1 (mCons (mArgs gLen (mCons (mV 1) mNil)) mNil)) (tg1 3)
 (sTryX ca (tabL [(14, true)])
 (sExp (mMethX (ca 3) "take" (m_Draft_take ca) (mV 2) (mCons (mBin gIx (mV 1) (mV 3)) mNil)))
 (sRaiseF (ca 15) 15 "row" (mBin gAdd (mV 3) (mC (.int 1))))))
 (sSeq (sIf (mNot (mT (mMeth (ca 3) "whole" (m_Draft_whole ca) (mV 2) mNil)))
 (sRaiseF (ca 15) 15 "row" (mBin gAdd (mArgs gLen (mCons (mV 1) mNil)) (mC (.int 1))))
 sNil)
 (sRet (mMeth (ca 3) "told" (m_Draft_told ca) (mV 2) mNil))))))
def m_read (ca : Nat → Nat) : List D → Sto → Vx.R D := mDef 4 1 (b_read ca)
def b__law_read (ca : Nat → Nat) : FS := (sSeq (sSet 1 (mC .non))
 (sSeq (sSet 2 (mC (.int 0)))
 (sSeq (sTryAs 3 ca (tabL [(15, true)])
 (sSet 1 (mCallX (m_read ca) (mCons (mV 0) mNil)))
 (fun x => (sSeq (sSet 2 (mXf (ca 15) "row" x)) sNil)))
 (sRet (mTup (mCons (mV 1) (mCons (mV 2) mNil)))))))
def m__law_read (ca : Nat → Nat) : List D → Sto → Vx.R D := mDef 4 1 (b__law_read ca)
def b__law_right : FS := (sSeq (sIf (mOr (mNot (mT (mUn (gIsi "tuple") (mV 0)))) (mOr (mT (mBin gNe (mArgs gLen (mCons (mV 0) mNil)) (mC (.int 7)))) (mOr (mT (mBin gNe (mBin gIx (mV 0) (mC (.int 4))) (mTup (mCons (mC (.str "knock")) mNil)))) (mT (mBin gNe (mArgs gLen (mCons (mBin gIx (mV 0) (mC (.int 5))) mNil)) (mArgs gLen (mCons (mV 1) mNil)))))))
 (sRet (mC (.bl false)))
 sNil)
 (sSeq (sFor (itRg1 (mCons (mArgs gLen (mCons (mV 1) mNil)) mNil)) (tg1 4)
 (sIf (mT (mBin gNe (mBin gIx (mBin gIx (mV 0) (mC (.int 5))) (mV 4)) (mTup (mCons (mBin gIx (mV 3) (mV 4)) (mCons (mBin gIx (mBin gIx (mV 1) (mV 4)) (mC (.int 0))) (mCons (mBin gIx (mBin gIx (mV 1) (mV 4)) (mC (.int 1))) (mCons (mC (.str "")) (mCons (mC (.str "")) (mCons (mTup mNil) (mCons (mTup mNil) mNil))))))))))
 (sRet (mC (.bl false)))
 sNil))
 (sSeq (sSetF 5 (mComp (itSeq (mV 2)) (tg1 6) (mT (mBin gEq (mBin gIx (mV 6) (mC (.int 0))) (mC (.str "door")))) (mTup (mCons (mBin gIx (mV 6) (mC (.int 1))) (mCons (mC (.int 0)) (mCons (mTup (mCons (mC (.str "yes")) mNil)) (mCons (mTup mNil) (mCons (mC (.str "stay")) (mCons (mC .non) mNil))))))) [6]))
 (sRet (mAndV (mBin gEq (mCut (mV 0) mNoO (mO (mC (.int 4)))) (mTup (mCons (mC (.str "outer")) (mCons (mC (.int 1)) (mCons (mC (.int 2)) (mCons (mTup mNil) mNil)))))) (mBin gEq (mBin gIx (mV 0) (mC (.int 6))) (mArgs gTuple (mCons (mV 5) mNil))))))))
def m__law_right : List D → Sto → Vx.R D := mDef 7 4 b__law_right
def b_law (ca : Nat → Nat) : FS := (sSeq (sSet 1 (mCall m__law_halls (mCons (mV 0) mNil)))
 (sSeq (sSet 2 (mCall m__law_entries (mCons (mV 0) (mCons (mV 1) mNil))))
 (sSeq (sSet 3 (mCall m__law_mixed (mCons (mV 0) (mCons (mC (.int 1)) (mCons (mC (.int 12)) mNil)))))
 (sSeq (sSetF 4 (mComp (itRg1 (mCons (mArgs gLen (mCons (mV 1) mNil)) mNil)) (tg1 5) mYes (mCall m__law_name (mCons (mV 5) (mCons (mV 3) mNil))) [5]))
 (sSeq (sSetF 6 (mLst (mCons (mC (.str "order outer")) (mCons (mC (.str "letters 1")) (mCons (mC (.str "turns 2")) (mCons (mC (.str "event knock")) mNil))))))
 (sSeq (sFor (itSeq (mV 2)) (tg2 7 5)
 (sIf (mT (mBin gEq (mV 7) (mC (.str "room"))))
 (sApp 6 (mBin gAdd (mBin gAdd (mBin gAdd (mBin gMulS (mC (.str "  ")) (mBin gIx (mBin gIx (mV 1) (mV 5)) (mC (.int 1)))) (mBin gIx (mBin gIx (mV 1) (mV 5)) (mC (.int 0)))) (mC (.str " "))) (mBin gIx (mV 4) (mV 5))))
 (sApp 6 (mBin gAdd (mBin gAdd (mC (.str "door ")) (mBin gIx (mV 4) (mV 5))) (mC (.str " knock stay"))))))
 (sSeq (sSet 8 (mCall m__law_due (mCons (mV 1) (mCons (mV 2) mNil))))
 (sSeq (sSet 9 (mCall (m__law_read ca) (mCons (mSt gJoin (mC (.str "\n")) (mV 6)) mNil)))
 (sSeq (sIf (mT (mBin gGt (mV 8) (mC (.int 0))))
 (sRet (mAndV (mUn (gIsi "int") (mBin gIx (mV 9) (mC (.int 1)))) (mAndV (mUn gNot (mUn (gIsi "bool") (mBin gIx (mV 9) (mC (.int 1))))) (mBin gEq (mBin gIx (mV 9) (mC (.int 1))) (mBin gAdd (mC (.int 4)) (mV 8))))))
 sNil)
 (sRet (mAndV (mBin gEq (mBin gIx (mV 9) (mC (.int 1))) (mC (.int 0))) (mCall m__law_right (mCons (mBin gIx (mV 9) (mC (.int 0))) (mCons (mV 1) (mCons (mV 2) (mCons (mV 4) mNil))))))))))))))))
def m_law (ca : Nat → Nat) : List D → Sto → Vx.R D := mDef 10 1 (b_law ca)
end Law

/-! Base: what must hold ahead of an expression or statement on values, so that something holds behind it. Plain Lean. -/
namespace Vx
open PySem

/-- as R.Sat, kept shut -/
@[irreducible] def R.S {α : Type} (r : R α) (P : α → Sto → Prop) (E : Ex → Sto → Prop) : Prop := r.Sat P E
theorem s_bind {α β : Type} {r : R α} {k : α → Sto → R β} {P : β → Sto → Prop} {E : Ex → Sto → Prop} : (r.bind k).S P E ↔ r.S (fun a s => (k a s).S P E) E := by cases r <;> with_unfolding_all exact Iff.rfl
theorem R.S.imp {α : Type} {r : R α} {P P' : α → Sto → Prop} {E E' : Ex → Sto → Prop} (h : r.S P E) (hP : ∀ a s, P a s → P' a s) (hE : ∀ e s, E e s → E' e s) : r.S P' E' := by
  cases r with
  | ok a s => with_unfolding_all exact hP a s h
  | ex e s => with_unfolding_all exact hE e s h
  | no => with_unfolding_all exact h

@[irreducible] def Fl.W (f : Fl) (N : Sl → Sto → Prop) (R : D → Sto → Prop) (B C : Sl → Sto → Prop) (X : Ex → Sl → Sto → Prop) : Prop := match f with
  | .nx l s => N l s
  | .rt d s => R d s
  | .bk l s => B l s
  | .ct l s => C l s
  | .ex e l s => X e l s
  | .no => False
theorem Fl.W.imp {f : Fl} {N N' : Sl → Sto → Prop} {R R' : D → Sto → Prop} {B C B' C' : Sl → Sto → Prop} {X X' : Ex → Sl → Sto → Prop} (h : f.W N R B C X) (hN : ∀ l s, N l s → N' l s) (hR : ∀ d s, R d s → R' d s) (hB : ∀ l s, B l s → B' l s) (hC : ∀ l s, C l s → C' l s) (hX : ∀ e l s, X e l s → X' e l s) : f.W N' R' B' C' X' := by
  cases f with
  | nx l s => with_unfolding_all exact hN l s h
  | rt d s => with_unfolding_all exact hR d s h
  | bk l s => with_unfolding_all exact hB l s h
  | ct l s => with_unfolding_all exact hC l s h
  | ex e l s => with_unfolding_all exact hX e l s h
  | no => with_unfolding_all exact h
theorem sat_congr {α : Type} {r : R α} {P P' : α → Sto → Prop} {E : Ex → Sto → Prop} (h : ∀ a s, P a s ↔ P' a s) : r.S P E ↔ r.S P' E := by
  cases r with
  | ok a s => with_unfolding_all exact h a s
  | ex e s => with_unfolding_all exact Iff.rfl
  | no => with_unfolding_all exact Iff.rfl
/-- of a partial step -/
@[irreducible] def OW {α : Type} (o : Option α) (P : α → Prop) : Prop := match o with
  | some a => P a
  | none => False
@[simp] theorem OW_some {α : Type} (a : α) (P : α → Prop) : OW (some a) P ↔ P a := by with_unfolding_all exact Iff.rfl
@[simp] theorem OW_none {α : Type} (P : α → Prop) : OW (none : Option α) P ↔ False := by with_unfolding_all exact Iff.rfl
theorem OW_iff {α : Type} (o : Option α) (P : α → Prop) : OW o P ↔ ∃ a, o = some a ∧ P a := by
  cases o with
  | none => simp [OW]
  | some a => simp [OW]
theorem OW_of {α : Type} {o : Option α} {a : α} {P : α → Prop} (h : o = some a) (hp : P a) : OW o P := by subst h; with_unfolding_all exact hp

abbrev NoE : Ex → Sto → Prop := fun _ _ => False
abbrev NoX : Ex → Sl → Sto → Prop := fun _ _ _ => False

section
variable {P : D → Sto → Prop} {PB : Bool → Sto → Prop} {PA : List D → Sto → Prop} {PO : Option Int → Sto → Prop} {E : Ex → Sto → Prop} {l : Sl} {s : Sto}
@[simp] theorem w_ok {α : Type} {Q : α → Sto → Prop} (a : α) : (R.ok a s).S Q E ↔ Q a s := by with_unfolding_all exact Iff.rfl
@[simp] theorem w_ex {α : Type} {Q : α → Sto → Prop} (e : Ex) : (R.ex e s : R α).S Q E ↔ E e s := by with_unfolding_all exact Iff.rfl
@[simp] theorem w_no {α : Type} {Q : α → Sto → Prop} : (R.no : R α).S Q E ↔ False := by with_unfolding_all exact Iff.rfl
@[simp] theorem w_bind {α β : Type} {r : R α} {k : α → Sto → R β} {Q : β → Sto → Prop} : (r.bind k).S Q E ↔ r.S (fun a s => (k a s).S Q E) E := s_bind
@[simp] theorem w_nox {α : Type} {r : R α} {Q : α → Sto → Prop} : r.nox.S Q E ↔ r.S Q NoE := by cases r <;> with_unfolding_all exact Iff.rfl
@[simp] theorem w_lift {α : Type} (o : Option α) {Q : α → Sto → Prop} : (liftO o s).S Q E ↔ OW o (fun a => Q a s) := by cases o <;> with_unfolding_all exact Iff.rfl
@[simp] theorem w_mC (d : D) : (mC d l s).S P E ↔ P d s := by with_unfolding_all exact Iff.rfl
/-- the name at slot i is bound -/
def atW (l : Sl) (i : Nat) (P : D → Prop) : Prop := match l[i]? with
  | some (some d) => P d
  | _ => False
@[simp] theorem w_mV (i : Nat) : (mV i l s).S P E ↔ atW l i (fun d => P d s) := by
  unfold mV atW
  cases l[i]? with
  | none => with_unfolding_all exact Iff.rfl
  | some o => cases o <;> with_unfolding_all exact Iff.rfl
@[simp] theorem atW_zero (d : D) (l : Sl) (P : D → Prop) : atW (some d :: l) 0 P ↔ P d := by with_unfolding_all exact Iff.rfl
@[simp] theorem atW_succ (o : Option D) (l : Sl) (n : Nat) (P : D → Prop) : atW (o :: l) (n + 1) P ↔ atW l n P := by with_unfolding_all exact Iff.rfl
@[simp] theorem w_mUn (g : D → Option D) (a : FE) : (mUn g a l s).S P E ↔ (a l s).S (fun x s => OW (g x) (fun z => P z s)) E := by
  unfold mUn; rw [w_bind]; simp only [w_lift]
@[simp] theorem w_mBin (g : D → D → Option D) (a b : FE) : (mBin g a b l s).S P E ↔ (a l s).S (fun x s => (b l s).S (fun y s => OW (g x y) (fun z => P z s)) E) E := by
  unfold mBin; simp only [w_bind, w_lift]
@[simp] theorem w_mNil : (mNil l s).S PA E ↔ PA [] s := by with_unfolding_all exact Iff.rfl
@[simp] theorem w_mCons (a : FE) (r : FA) : (mCons a r l s).S PA E ↔ (a l s).S (fun x s => (r l s).S (fun xs s => PA (x :: xs) s) E) E := by
  unfold mCons; simp only [w_bind, w_ok]
@[simp] theorem w_mArgs (g : List D → Option D) (a : FA) : (mArgs g a l s).S P E ↔ (a l s).S (fun xs s => OW (g xs) (fun z => P z s)) E := by
  unfold mArgs; simp only [w_bind, w_lift]
@[simp] theorem w_mCall (m : List D → Sto → R D) (a : FA) : (mCall m a l s).S P E ↔ (a l s).S (fun xs s => (m xs s).S P NoE) E := by
  unfold mCall; simp only [w_bind, w_nox]
@[simp] theorem w_mCallF (m : List D → Sto → R D) (a : FA) : (mCallF m a l s).S P E ↔ (a l s).S (fun xs s => (m xs s).S (fun d s => d.isMut = true ∧ P d s) NoE) E := by
  unfold mCallF; rw [w_bind]
  refine sat_congr fun xs s => ?_
  cases m xs s with
  | ok d s =>
    with_unfolding_all show (if d.isMut = true then R.ok d s else R.no).S P E ↔ d.isMut = true ∧ P d s
    by_cases h : d.isMut = true <;> simp [h, w_ok, w_no]
  | ex e s => with_unfolding_all exact Iff.rfl
  | no => with_unfolding_all exact Iff.rfl
@[simp] theorem w_mT (a : FE) : (mT a l s).S PB E ↔ (a l s).S (fun x s => OW (gBl x) (fun b => PB b s)) E := by
  unfold mT; simp only [w_bind, w_lift]
@[simp] theorem w_mNot (a : FT) : (mNot a l s).S PB E ↔ (a l s).S (fun b s => PB (!b) s) E := by
  unfold mNot; simp only [w_bind, w_ok]
theorem sat_ite {α : Type} {c : Prop} [Decidable c] {r1 r2 : R α} {Q : α → Sto → Prop} : (if c then r1 else r2).S Q E ↔ (if c then r1.S Q E else r2.S Q E) := by
  by_cases h : c <;> simp [h]
@[simp] theorem w_mAnd (a b : FT) : (mAnd a b l s).S PB E ↔ (a l s).S (fun x s => if x = true then (b l s).S PB E else PB false s) E := by
  unfold mAnd; simp only [w_bind, sat_ite, w_ok]
@[simp] theorem w_mOr (a b : FT) : (mOr a b l s).S PB E ↔ (a l s).S (fun x s => if x = true then PB true s else (b l s).S PB E) E := by
  unfold mOr; simp only [w_bind, sat_ite, w_ok]
@[simp] theorem w_mAndV (a b : FE) : (mAndV a b l s).S P E ↔ (a l s).S (fun x s => OW (gBl x) fun c => if c = true then (b l s).S P E else P (.bl false) s) E := by
  unfold mAndV; simp only [w_bind, w_lift, sat_ite, w_ok]
@[simp] theorem w_mOrV (a b : FE) : (mOrV a b l s).S P E ↔ (a l s).S (fun x s => OW (gBl x) fun c => if c = true then P (.bl true) s else (b l s).S P E) E := by
  unfold mOrV; simp only [w_bind, w_lift, sat_ite, w_ok]
@[simp] theorem w_mChain (g g' : D → D → Option D) (a b c : FE) : (mChain g g' a b c l s).S P E ↔ (a l s).S (fun x s => (b l s).S (fun y s => OW ((g x y).bind gBl) fun k => if k = true then (c l s).S (fun z s => OW (g' y z) (fun d => P d s)) E else P (.bl false) s) E) E := by
  unfold mChain; simp only [w_bind, w_lift, sat_ite, w_ok]
@[simp] theorem w_mNoO : (mNoO l s).S PO E ↔ PO none s := by with_unfolding_all exact Iff.rfl
/-- an int -/
def intW (d : D) (P : Int → Prop) : Prop := match d with
  | .int i => P i
  | _ => False
@[simp] theorem intW_int (i : Int) (P : Int → Prop) : intW (.int i) P ↔ P i := by with_unfolding_all exact Iff.rfl
@[simp] theorem w_mO (a : FE) : (mO a l s).S PO E ↔ (a l s).S (fun x s => intW x fun i => PO (some i) s) E := by
  unfold mO; rw [w_bind]
  have e : ∀ (x : D) (s : Sto), (match x with | .int i => R.ok (some i) s | _ => R.no).S PO E ↔ intW x fun i => PO (some i) s := by
    intro x s; cases x <;> with_unfolding_all exact Iff.rfl
  exact sat_congr e
@[simp] theorem w_mCut (a : FE) (lo hi : FO) : (mCut a lo hi l s).S P E ↔ (a l s).S (fun x s => (lo l s).S (fun i s => (hi l s).S (fun j s => OW (gCut x i j) (fun z => P z s)) E) E) E := by
  unfold mCut; simp only [w_bind, w_lift]
@[simp] theorem w_mCutL (a : FE) (lo hi : FO) : (mCutL a lo hi l s).S P E ↔ (a l s).S (fun x s => (lo l s).S (fun i s => (hi l s).S (fun j s => OW (gCutL x i j) (fun z => P z s)) E) E) E := by
  unfold mCutL; simp only [w_bind, w_lift]
@[simp] theorem w_mTup (a : FA) : (mTup a l s).S P E ↔ (a l s).S (fun xs s => szOk xs.length = true ∧ P (.tup xs) s) E := by
  unfold mTup; rw [w_bind]
  have e : ∀ (xs : List D) (s : Sto), (if szOk xs.length = true then R.ok (D.tup xs) s else R.no).S P E ↔ szOk xs.length = true ∧ P (.tup xs) s := by
    intro d s
    by_cases h : szOk d.length = true <;> simp [h, w_ok, w_no]
  exact sat_congr e
@[simp] theorem w_mLst (a : FA) : (mLst a l s).S P E ↔ (a l s).S (fun xs s => szOk xs.length = true ∧ P (.lst xs) s) E := by
  unfold mLst; rw [w_bind]
  have e : ∀ (xs : List D) (s : Sto), (if szOk xs.length = true then R.ok (D.lst xs) s else R.no).S P E ↔ szOk xs.length = true ∧ P (.lst xs) s := by
    intro d s
    by_cases h : szOk d.length = true <;> simp [h, w_ok, w_no]
  exact sat_congr e
/-- what is walked -/
def seqW (d : D) (P : List D → Prop) : Prop := match d with
  | .lst xs => P xs
  | .tup xs => P xs
  | _ => False
@[simp] theorem seqW_lst (xs : List D) (P : List D → Prop) : seqW (.lst xs) P ↔ P xs := by with_unfolding_all exact Iff.rfl
@[simp] theorem seqW_tup (xs : List D) (P : List D → Prop) : seqW (.tup xs) P ↔ P xs := by with_unfolding_all exact Iff.rfl
@[simp] theorem w_itSeq (a : FE) : (itSeq a l s).S PA E ↔ (a l s).S (fun x s => seqW x fun xs => PA xs s) E := by
  unfold itSeq; rw [w_bind]
  have e : ∀ (x : D) (s : Sto), (match x with | .lst xs => R.ok xs s | .tup xs => .ok xs s | _ => .no).S PA E ↔ seqW x fun xs => PA xs s := by
    intro x s; cases x <;> with_unfolding_all exact Iff.rfl
  exact sat_congr e
@[simp] theorem w_itRev (a : FE) : (itRev a l s).S PA E ↔ (a l s).S (fun x s => seqW x fun xs => PA xs.reverse s) E := by
  unfold itRev; rw [w_bind]
  have e : ∀ (x : D) (s : Sto), (match x with | .lst xs => R.ok xs.reverse s | .tup xs => .ok xs.reverse s | _ => .no).S PA E ↔ seqW x fun xs => PA xs.reverse s := by
    intro x s; cases x <;> with_unfolding_all exact Iff.rfl
  exact sat_congr e
@[simp] theorem w_itEnum (a : FE) : (itEnum a l s).S PA E ↔ (a l s).S (fun x s => seqW x fun xs => PA (enumD xs) s) E := by
  unfold itEnum; rw [w_bind]
  have e : ∀ (x : D) (s : Sto), (match x with | .lst xs => R.ok (enumD xs) s | .tup xs => .ok (enumD xs) s | _ => .no).S PA E ↔ seqW x fun xs => PA (enumD xs) s := by
    intro x s; cases x <;> with_unfolding_all exact Iff.rfl
  exact sat_congr e
def strW (d : D) (P : Str → Prop) : Prop := match d with
  | .str x => P x
  | _ => False
@[simp] theorem strW_str (x : Str) (P : Str → Prop) : strW (.str x) P ↔ P x := by with_unfolding_all exact Iff.rfl
/-- a text's signs -/
def signsD (x : Str) : List D := x.cps.toList.map fun c => .str ⟨#[c]⟩
@[simp] theorem w_itStr (a : FE) : (itStr a l s).S PA E ↔ (a l s).S (fun x s => strW x fun x => PA (signsD x) s) E := by
  unfold itStr; rw [w_bind]
  have e : ∀ (x : D) (s : Sto), (match x with | .str x => R.ok (x.cps.toList.map fun c => D.str ⟨#[c]⟩) s | _ => .no).S PA E ↔ strW x fun x => PA (signsD x) s := by
    intro x s; cases x <;> with_unfolding_all exact Iff.rfl
  exact sat_congr e
def rg1W (d : List D) (P : List D → Prop) : Prop := match d with
  | [.int j] => rgOk j = true ∧ P (rgD 0 j.toNat)
  | _ => False
@[simp] theorem rg1W_int (j : Int) (P : List D → Prop) : rg1W [.int j] P ↔ rgOk j = true ∧ P (rgD 0 j.toNat) := by with_unfolding_all exact Iff.rfl
@[simp] theorem w_itRg1 (a : FA) : (itRg1 a l s).S PA E ↔ (a l s).S (fun x s => rg1W x fun xs => PA xs s) E := by
  unfold itRg1; rw [w_bind]
  have e : ∀ (x : List D) (s : Sto), (match x with | [.int j] => (if rgOk j = true then R.ok (rgD 0 j.toNat) s else .no) | _ => .no).S PA E ↔ rg1W x fun xs => PA xs s := by
    intro x s
    unfold rg1W
    split
    · rename_i j
      by_cases h : rgOk j = true <;> simp [h, w_ok, w_no]
    · with_unfolding_all exact Iff.rfl
  exact sat_congr e
def rg2W (d : List D) (P : List D → Prop) : Prop := match d with
  | [.int i, .int j] => (rgOk i && rgOk j) = true ∧ P (rgD i (j - i).toNat)
  | _ => False
@[simp] theorem rg2W_int (i j : Int) (P : List D → Prop) : rg2W [.int i, .int j] P ↔ (rgOk i && rgOk j) = true ∧ P (rgD i (j - i).toNat) := by with_unfolding_all exact Iff.rfl
@[simp] theorem w_itRg2 (a : FA) : (itRg2 a l s).S PA E ↔ (a l s).S (fun x s => rg2W x fun xs => PA xs s) E := by
  unfold itRg2; rw [w_bind]
  have e : ∀ (x : List D) (s : Sto), (match x with | [.int i, .int j] => (if (rgOk i && rgOk j) = true then R.ok (rgD i (j - i).toNat) s else .no) | _ => .no).S PA E ↔ rg2W x fun xs => PA xs s := by
    intro x s
    unfold rg2W
    split
    · rename_i i j
      by_cases h : (rgOk i && rgOk j) = true
      · rw [if_pos h]; simp [h, w_ok]
      · rw [if_neg h]; simp [h, w_no]
    · with_unfolding_all exact Iff.rfl
  exact sat_congr e
@[simp] theorem w_mYes : (mYes l s).S PB E ↔ PB true s := by with_unfolding_all exact Iff.rfl
@[simp] theorem w_mComp (it : FA) (g : D → Sl → Option Sl) (t : FT) (e : FE) (vs : List Nat) : (mComp it g t e vs l s).S P E ↔ (it l s).S (fun xs s => (compD g t e (wipeD l vs) xs [] s).S P E) E := by
  unfold mComp; simp only [w_bind]
/-- a def -/
@[simp] theorem w_mDef (n p : Nat) (b : FS) (ds : List D) : (mDef n p b ds s).S P E ↔ ds.length = p ∧ (b (startD n ds) s).W (fun _ s => P .non s) P (fun _ _ => False) (fun _ _ => False) (fun e _ s => E e s) := by
  unfold mDef
  by_cases h : ds.length = p
  · simp only [h, if_true, true_and]
    cases b (startD n ds) s <;> with_unfolding_all exact Iff.rfl
  · simp only [h, if_false, false_and]
    with_unfolding_all exact Iff.rfl
end

section
variable {N : Sl → Sto → Prop} {R : D → Sto → Prop} {B C : Sl → Sto → Prop} {X : Ex → Sl → Sto → Prop} {l : Sl} {s : Sto}
@[simp] theorem W_nx : (Fl.nx l s).W N R B C X ↔ N l s := by with_unfolding_all exact Iff.rfl
@[simp] theorem W_rt (d : D) : (Fl.rt d s).W N R B C X ↔ R d s := by with_unfolding_all exact Iff.rfl
@[simp] theorem W_no : Fl.no.W N R B C X ↔ False := by with_unfolding_all exact Iff.rfl
@[simp] theorem W_fl {α : Type} (r : Vx.R α) (k : α → Sto → Fl) : (r.fl l k).W N R B C X ↔ r.S (fun a s => (k a s).W N R B C X) (fun e s => X e l s) := by cases r <;> with_unfolding_all exact Iff.rfl
@[simp] theorem W_sNil : (sNil l s).W N R B C X ↔ N l s := by with_unfolding_all exact Iff.rfl
@[simp] theorem W_sPass : (sPass l s).W N R B C X ↔ N l s := by with_unfolding_all exact Iff.rfl
@[simp] theorem W_sBrk : (sBrk l s).W N R B C X ↔ B l s := by with_unfolding_all exact Iff.rfl
@[simp] theorem W_sCnt : (sCnt l s).W N R B C X ↔ C l s := by with_unfolding_all exact Iff.rfl
@[simp] theorem W_sSeq (a b : FS) : (sSeq a b l s).W N R B C X ↔ (a l s).W (fun l s => (b l s).W N R B C X) R B C X := by
  unfold sSeq
  cases a l s <;> with_unfolding_all exact Iff.rfl
@[simp] theorem W_sSet (i : Nat) (a : FE) : (sSet i a l s).W N R B C X ↔ (a l s).S (fun x s => N (l.set i (some x)) s) (fun e s => X e l s) := by
  unfold sSet; rw [W_fl]; with_unfolding_all exact Iff.rfl
@[simp] theorem W_sSetF (i : Nat) (a : FE) : (sSetF i a l s).W N R B C X ↔ (a l s).S (fun x s => i < l.length ∧ N (l.set i (some x)) s) (fun e s => X e l s) := by
  unfold sSetF; rw [W_fl]
  have e : ∀ (x : D) (s : Sto), (if i < l.length then Fl.nx (l.set i (some x)) s else .no).W N R B C X ↔ i < l.length ∧ N (l.set i (some x)) s := by
    intro x s
    by_cases h : i < l.length <;> simp [h, W_nx, W_no]
  exact sat_congr e
@[simp] theorem W_sTg (g : D → Sl → Option Sl) (a : FE) : (sTg g a l s).W N R B C X ↔ (a l s).S (fun x s => OW (g x l) fun l1 => N l1 s) (fun e s => X e l s) := by
  unfold sTg; rw [W_fl]
  have e : ∀ (x : D) (s : Sto), (match g x l with | some l1 => Fl.nx l1 s | none => .no).W N R B C X ↔ OW (g x l) fun l1 => N l1 s := by
    intro x s
    cases g x l <;> with_unfolding_all exact Iff.rfl
  exact sat_congr e
@[simp] theorem W_sAug (g : D → D → Option D) (i : Nat) (a : FE) : (sAug g i a l s).W N R B C X ↔ atW l i fun x => (a l s).S (fun y s => OW (g x y) fun z => N (l.set i (some z)) s) (fun e s => X e l s) := by
  unfold sAug atW
  have e : ∀ (x y : D) (s : Sto), (match g x y with | some z => Fl.nx (l.set i (some z)) s | none => .no).W N R B C X ↔ OW (g x y) fun z => N (l.set i (some z)) s := by
    intro x y s
    cases g x y <;> with_unfolding_all exact Iff.rfl
  cases l[i]? with
  | none => with_unfolding_all exact Iff.rfl
  | some o => cases o with
    | none => with_unfolding_all exact Iff.rfl
    | some x =>
      simp only [W_fl]
      exact sat_congr (e x)
@[simp] theorem W_sExp (a : FE) : (sExp a l s).W N R B C X ↔ (a l s).S (fun _ s => N l s) (fun e s => X e l s) := by
  unfold sExp; rw [W_fl]; with_unfolding_all exact Iff.rfl
@[simp] theorem W_sRet (a : FE) : (sRet a l s).W N R B C X ↔ (a l s).S (fun x s => R x s) (fun e s => X e l s) := by
  unfold sRet; rw [W_fl]; with_unfolding_all exact Iff.rfl
@[simp] theorem W_sRetN' (a : FE) : (sRetN' a l s).W N R B C X ↔ (a l s).S (fun x s => x.isMut = false ∧ R x s) (fun e s => X e l s) := by
  unfold sRetN'; rw [W_fl]
  have e : ∀ (x : D) (s : Sto), (if x.isMut = true then Fl.no else .rt x s).W N R B C X ↔ x.isMut = false ∧ R x s := by
    intro x s
    by_cases h : x.isMut = true <;> simp [h, W_rt, W_no]
  exact sat_congr e
@[simp] theorem W_sRetN : (sRetN l s).W N R B C X ↔ R .non s := by with_unfolding_all exact Iff.rfl
@[simp] theorem W_ite {c : Prop} [Decidable c] {f g : Fl} : (if c then f else g).W N R B C X ↔ (if c then f.W N R B C X else g.W N R B C X) := by
  by_cases h : c <;> simp [h]
@[simp] theorem W_sIf (c : FT) (a b : FS) : (sIf c a b l s).W N R B C X ↔ (c l s).S (fun k s => if k = true then (a l s).W N R B C X else (b l s).W N R B C X) (fun e s => X e l s) := by
  unfold sIf; rw [W_fl]; simp only [W_ite]
@[simp] theorem W_sFor (it : FA) (g : D → Sl → Option Sl) (b : FS) : (sFor it g b l s).W N R B C X ↔ (it l s).S (fun xs s => (forD g b xs l s).W N R B C X) (fun e s => X e l s) := by
  unfold sFor; rw [W_fl]
@[simp] theorem W_sWhile (n : Nat) (c : FT) (b : FS) : (sWhile n c b l s).W N R B C X ↔ (whileD c b n l s).W N R B C X := by with_unfolding_all exact Iff.rfl
/-- an own list at slot i -/
def lstW (d : D) (P : List D → Prop) : Prop := match d with
  | .lst xs => P xs
  | _ => False
@[simp] theorem lstW_lst (xs : List D) (P : List D → Prop) : lstW (.lst xs) P ↔ P xs := by with_unfolding_all exact Iff.rfl
@[simp] theorem W_sApp (i : Nat) (a : FE) : (sApp i a l s).W N R B C X ↔ atW l i fun x => lstW x fun xs => (a l s).S (fun y s => xs.length < 16777216 ∧ N (l.set i (some (.lst (xs ++ [y])))) s) (fun e s => X e l s) := by
  unfold sApp atW
  cases l[i]? with
  | none => with_unfolding_all exact Iff.rfl
  | some o => cases o with
    | none => with_unfolding_all exact Iff.rfl
    | some x => cases x with
      | lst xs =>
        simp only [W_fl, lstW]
        have e : ∀ (y : D) (s : Sto), (if xs.length < 16777216 then Fl.nx (l.set i (some (.lst (xs ++ [y])))) s else .no).W N R B C X ↔ xs.length < 16777216 ∧ N (l.set i (some (.lst (xs ++ [y])))) s := by
          intro y s
          by_cases h : xs.length < 16777216 <;> simp [h, W_nx, W_no]
        exact sat_congr e
      | _ => with_unfolding_all exact Iff.rfl
@[simp] theorem W_sExt (i : Nat) (a : FE) : (sExt i a l s).W N R B C X ↔ atW l i fun x => lstW x fun xs => (a l s).S (fun y s => lstW y fun ys => szOk (xs.length + ys.length) = true ∧ N (l.set i (some (.lst (xs ++ ys)))) s) (fun e s => X e l s) := by
  unfold sExt atW
  cases l[i]? with
  | none => with_unfolding_all exact Iff.rfl
  | some o => cases o with
    | none => with_unfolding_all exact Iff.rfl
    | some x => cases x with
      | lst xs =>
        simp only [W_fl, lstW]
        have e : ∀ (y : D) (s : Sto), (match y with | .lst ys => (if szOk (xs.length + ys.length) = true then Fl.nx (l.set i (some (.lst (xs ++ ys)))) s else .no) | _ => .no).W N R B C X ↔ lstW y fun ys => szOk (xs.length + ys.length) = true ∧ N (l.set i (some (.lst (xs ++ ys)))) s := by
          intro y s
          cases y with
          | lst ys => by_cases h : szOk (xs.length + ys.length) = true <;> simp [h, W_nx, W_no, lstW]
          | _ => with_unfolding_all exact Iff.rfl
        exact sat_congr e
      | _ => with_unfolding_all exact Iff.rfl
@[simp] theorem W_sPut (i : Nat) (a k : FE) : (sPut i a k l s).W N R B C X ↔ atW l i fun x => lstW x fun xs => (a l s).S (fun y s => (k l s).S (fun z s => intW z fun n => OW (ixI xs.length n) fun j => N (l.set i (some (.lst (xs.set j y)))) s) (fun e s => X e l s)) (fun e s => X e l s) := by
  unfold sPut atW
  cases l[i]? with
  | none => with_unfolding_all exact Iff.rfl
  | some o => cases o with
    | none => with_unfolding_all exact Iff.rfl
    | some x => cases x with
      | lst xs =>
        simp only [W_fl, lstW]
        have e : ∀ (y z : D) (s : Sto), (match z with | .int n => (match ixI xs.length n with | some j => Fl.nx (l.set i (some (.lst (xs.set j y)))) s | none => .no) | _ => .no).W N R B C X ↔ intW z fun n => OW (ixI xs.length n) fun j => N (l.set i (some (.lst (xs.set j y)))) s := by
          intro y z s
          cases z with
          | int n => unfold intW; simp only []; cases ixI xs.length n <;> with_unfolding_all exact Iff.rfl
          | _ => with_unfolding_all exact Iff.rfl
        exact sat_congr fun y s => sat_congr (e y)
      | _ => with_unfolding_all exact Iff.rfl
end

@[simp] theorem tg1W (v : Nat) (x : D) (l : Sl) (P : Sl → Prop) : OW (tg1 v x l) P ↔ P (l.set v (some x)) := by with_unfolding_all exact Iff.rfl

section
variable {P : D → Sto → Prop} {E : Ex → Sto → Prop} {l : Sl} {s : Sto}
@[simp] theorem w_mSt (g : Str → D → Option D) (a b : FE) : (mSt g a b l s).S P E ↔ (a l s).S (fun x s => strW x fun z => (b l s).S (fun y s => OW (g z y) fun d => P d s) E) E := by
  unfold mSt; rw [w_bind]
  have e : ∀ (x : D) (s : Sto), (match x with | .str z => ((b l s).bind fun y s => liftO (g z y) s) | _ => .no).S P E ↔ strW x fun z => (b l s).S (fun y s => OW (g z y) fun d => P d s) E := by
    intro x s
    cases x with
    | str z => simp only [strW, w_bind, w_lift]
    | _ => with_unfolding_all exact Iff.rfl
  exact sat_congr e
@[simp] theorem w_mSt0 (g : Str → Option D) (a : FE) : (mSt0 g a l s).S P E ↔ (a l s).S (fun x s => strW x fun z => OW (g z) fun d => P d s) E := by
  unfold mSt0; rw [w_bind]
  have e : ∀ (x : D) (s : Sto), (match x with | .str z => (liftO (g z) s) | _ => .no).S P E ↔ strW x fun z => OW (g z) fun d => P d s := by
    intro x s
    cases x with
    | str z => simp only [strW, w_lift]
    | _ => with_unfolding_all exact Iff.rfl
  exact sat_congr e
@[simp] theorem w_mCallL (m : List D → Sto → R D) (a : FA) : (mCallL m a l s).S P E ↔ (a l s).S (fun xs s => (m xs s).S (fun d s => (D.noMut d = true ∧ stoNo s = true) ∧ P d s) NoE) E := by
  unfold mCallL; rw [w_bind]
  refine sat_congr fun xs s => ?_
  cases m xs s with
  | ok d s =>
    with_unfolding_all show (if (D.noMut d && stoNo s) = true then R.ok d s else R.no).S P E ↔ (D.noMut d = true ∧ stoNo s = true) ∧ P d s
    by_cases h : (D.noMut d && stoNo s) = true
    · rw [if_pos h, w_ok]
      rw [Bool.and_eq_true] at h
      simp [h]
    · rw [if_neg h, w_no]
      rw [Bool.and_eq_true] at h
      simp [h]
  | ex e s => with_unfolding_all exact Iff.rfl
  | no => with_unfolding_all exact Iff.rfl
end
section
variable {N : Sl → Sto → Prop} {R : D → Sto → Prop} {B C : Sl → Sto → Prop} {X : Ex → Sl → Sto → Prop} {l : Sl} {s : Sto}
@[simp] theorem W_sMeth (g : List D → List D → Option (D × List D)) (i : Nat) (a : FA) : (sMeth g i a l s).W N R B C X ↔ atW l i fun x => lstW x fun xs => (a l s).S (fun ys s => OW (g xs ys) fun p => N (l.set i (some (.lst p.2))) s) (fun e s => X e l s) := by
  unfold sMeth atW
  cases l[i]? with
  | none => with_unfolding_all exact Iff.rfl
  | some o => cases o with
    | none => with_unfolding_all exact Iff.rfl
    | some x => cases x with
      | lst xs =>
        simp only [W_fl, lstW]
        refine sat_congr fun ys s => ?_
        cases g xs ys with
        | none => with_unfolding_all exact Iff.rfl
        | some w => with_unfolding_all exact Iff.rfl
      | _ => with_unfolding_all exact Iff.rfl
@[simp] theorem W_sMethTo (g : List D → List D → Option (D × List D)) (j i : Nat) (a : FA) : (sMethTo g j i a l s).W N R B C X ↔ atW l i fun x => lstW x fun xs => (a l s).S (fun ys s => OW (g xs ys) fun p => N ((l.set i (some (.lst p.2))).set j (some p.1)) s) (fun e s => X e l s) := by
  unfold sMethTo atW
  cases l[i]? with
  | none => with_unfolding_all exact Iff.rfl
  | some o => cases o with
    | none => with_unfolding_all exact Iff.rfl
    | some x => cases x with
      | lst xs =>
        simp only [W_fl, lstW]
        refine sat_congr fun ys s => ?_
        cases g xs ys with
        | none => with_unfolding_all exact Iff.rfl
        | some w => with_unfolding_all exact Iff.rfl
      | _ => with_unfolding_all exact Iff.rfl
end
@[simp] theorem intsD_map (ns : List Int) : intsD (ns.map .int) = some ns := by
  induction ns with
  | nil => rfl
  | cons n r ih => simp [intsD, ih]
@[simp] theorem noMut_int (i : Int) : D.noMut (.int i) = true := rfl
@[simp] theorem noMut_bl (i : Bool) : D.noMut (.bl i) = true := rfl
@[simp] theorem noMut_str (i : Str) : D.noMut (.str i) = true := rfl
@[simp] theorem noMut_non : D.noMut .non = true := rfl
@[simp] theorem stoNo_nil : stoNo [] = true := rfl
/-! ### loops -/
theorem W_for {g : D → Sl → Option Sl} {b : FS} {R : D → Sto → Prop} {N B C : Sl → Sto → Prop} {X : Ex → Sl → Sto → Prop} (I : List D → List D → Sl → Sto → Prop)
    (step : ∀ (dn : List D) (x : D) (rest : List D) (l : Sl) (s : Sto), I dn (x :: rest) l s → OW (g x l) fun l1 => (b l1 s).W (I (dn ++ [x]) rest) R N (I (dn ++ [x]) rest) X)
    (fin : ∀ (dn : List D) (l : Sl) (s : Sto), I dn [] l s → N l s) :
    ∀ (xs dn : List D) (l : Sl) (s : Sto), I dn xs l s → (forD g b xs l s).W N R B C X := by
  intro xs
  induction xs with
  | nil => intro dn l s h; with_unfolding_all exact fin dn l s h
  | cons x xs ih =>
    intro dn l s h
    have h1 := step dn x xs l s h
    unfold forD
    cases hg : g x l with
    | none => rw [hg] at h1; with_unfolding_all exact False.elim h1
    | some l1 =>
      rw [hg] at h1
      have h2 : (b l1 s).W (I (dn ++ [x]) xs) R N (I (dn ++ [x]) xs) X := by with_unfolding_all exact h1
      show Fl.W (match b l1 s with | .nx l2 s2 => forD g b xs l2 s2 | .ct l2 s2 => forD g b xs l2 s2 | .bk l2 s2 => .nx l2 s2 | f => f) N R B C X
      revert h2
      cases b l1 s with
      | nx l2 s2 => intro h2; with_unfolding_all exact ih _ _ _ h2
      | ct l2 s2 => intro h2; with_unfolding_all exact ih _ _ _ h2
      | bk l2 s2 => intro h2; with_unfolding_all exact h2
      | rt d s2 => intro h2; with_unfolding_all exact h2
      | ex e l2 s2 => intro h2; with_unfolding_all exact h2
      | no => intro h2; with_unfolding_all exact h2
theorem rgD_cons (i : Int) (n : Nat) : rgD i (n + 1) = .int i :: rgD (i + 1) n := by
  unfold rgD
  rw [List.range_succ_eq_map]
  simp only [List.map_cons, List.map_map, Int.natCast_zero, Int.add_zero]
  congr 1
  apply List.map_congr_left
  intro k _
  simp only [Function.comp]
  congr 1
  omega
/-- for k in range: the invariant tells of the turn ahead -/
theorem W_rg {v : Nat} {b : FS} {R : D → Sto → Prop} {N B C : Sl → Sto → Prop} {X : Ex → Sl → Sto → Prop} (i : Int) (n : Nat) (I : Nat → Sl → Sto → Prop) {l : Sl} {s : Sto}
    (h0 : I 0 l s)
    (step : ∀ (k : Nat) (l : Sl) (s : Sto), k < n → I k l s → (b (l.set v (some (.int (i + (k : Int))))) s).W (I (k + 1)) R N (I (k + 1)) X)
    (fin : ∀ (l : Sl) (s : Sto), I n l s → N l s) : (forD (tg1 v) b (rgD i n) l s).W N R B C X := by
  have key := W_for (g := tg1 v) (b := b) (R := R) (N := N) (B := B) (C := C) (X := X) (fun dn rest l s => rest = rgD (i + (dn.length : Int)) (n - dn.length) ∧ dn.length ≤ n ∧ I dn.length l s)
    (by
      intro dn x rest l s ⟨h1, h2, h3⟩
      rw [tg1W]
      by_cases hl : dn.length = n
      · rw [hl] at h1
        simp [rgD] at h1
      · have e : n - dn.length = (n - dn.length - 1) + 1 := by omega
        rw [e, rgD_cons] at h1
        have hx : x = .int (i + (dn.length : Int)) := (List.cons.inj h1).1
        have hr : rest = rgD (i + (dn.length : Int) + 1) (n - dn.length - 1) := (List.cons.inj h1).2
        subst hx
        have q : ∀ (l : Sl) (s : Sto), I (dn.length + 1) l s → (rest = rgD (i + ((dn ++ [D.int (i + (dn.length : Int))]).length : Int)) (n - (dn ++ [D.int (i + (dn.length : Int))]).length) ∧ (dn ++ [D.int (i + (dn.length : Int))]).length ≤ n ∧ I (dn ++ [D.int (i + (dn.length : Int))]).length l s) := by
          intro l s hI
          have e2 : (dn ++ [D.int (i + (dn.length : Int))]).length = dn.length + 1 := by simp
          rw [e2]
          refine ⟨?_, by omega, hI⟩
          rw [hr]
          have e3 : i + (dn.length : Int) + 1 = i + ((dn.length + 1 : Nat) : Int) := by omega
          have e4 : n - dn.length - 1 = n - (dn.length + 1) := by omega
          rw [e3, e4]
        exact (step dn.length l s (by omega) h3).imp q (fun _ _ h => h) (fun _ _ h => h) q (fun _ _ _ h => h))
    (by
      intro dn l s ⟨h1, h2, h3⟩
      by_cases hl : dn.length = n
      · rw [hl] at h3; exact fin l s h3
      · have e : n - dn.length = (n - dn.length - 1) + 1 := by omega
        rw [e, rgD_cons] at h1
        exact absurd h1 (by simp))
  exact key (rgD i n) [] l s ⟨by simp, by simp, h0⟩
/-- .. each item being the value of one of as -/
theorem W_forM {α : Type} {g : D → Sl → Option Sl} {b : FS} {R : D → Sto → Prop} {N B C : Sl → Sto → Prop} {X : Ex → Sl → Sto → Prop} (enc : α → D) (as : List α) (I : List α → Sl → Sto → Prop) {l : Sl} {s : Sto}
    (h0 : I [] l s)
    (step : ∀ (dn : List α) (x : α) (rest : List α) (l : Sl) (s : Sto), as = dn ++ x :: rest → I dn l s → OW (g (enc x) l) fun l1 => (b l1 s).W (I (dn ++ [x])) R N (I (dn ++ [x])) X)
    (fin : ∀ (l : Sl) (s : Sto), I as l s → N l s) : (forD g b (as.map enc) l s).W N R B C X := by
  have key := W_for (g := g) (b := b) (R := R) (N := N) (B := B) (C := C) (X := X) (fun _ rest l s => ∃ dn rs, as = dn ++ rs ∧ rest = rs.map enc ∧ I dn l s)
    (by
      rintro d0 x rest l s ⟨dn, rs, e1, e2, hI⟩
      cases rs with
      | nil => exact absurd e2 (by simp)
      | cons a rs =>
        rw [List.map_cons] at e2
        obtain ⟨rfl, rfl⟩ := List.cons.inj e2
        have h := step dn a rs l s e1 hI
        rw [OW_iff] at h ⊢
        obtain ⟨l1, h1, h2⟩ := h
        refine ⟨l1, h1, ?_⟩
        have q : ∀ (l : Sl) (s : Sto), I (dn ++ [a]) l s → ∃ dn' rs', as = dn' ++ rs' ∧ rs.map enc = rs'.map enc ∧ I dn' l s := fun l s hi => ⟨dn ++ [a], rs, by rw [e1]; simp, rfl, hi⟩
        exact h2.imp q (fun _ _ h => h) (fun _ _ h => h) q (fun _ _ _ h => h))
    (by
      rintro d0 l s ⟨dn, rs, e1, e2, hI⟩
      cases rs with
      | nil => rw [List.append_nil] at e1; exact fin l s (e1 ▸ hI)
      | cons a rs => exact absurd e2 (by simp))
  exact key (as.map enc) [] l s ⟨[], as, rfl, rfl, h0⟩
/-- while: I with a measure -/
theorem W_while {c : FT} {b : FS} {R : D → Sto → Prop} {N B C : Sl → Sto → Prop} {X : Ex → Sl → Sto → Prop} (I : Nat → Sl → Sto → Prop)
    (step : ∀ (m : Nat) (l : Sl) (s : Sto), I m l s → (c l s).S (fun k s => if k = true then (b l s).W (fun l s => ∃ m', m' < m ∧ I m' l s) R N (fun l s => ∃ m', m' < m ∧ I m' l s) X else N l s) (fun e s => X e l s)) :
    ∀ (n m : Nat) (l : Sl) (s : Sto), m < n → I m l s → (whileD c b n l s).W N R B C X := by
  intro n
  induction n with
  | zero => intro m l s h; omega
  | succ n ih =>
    intro m l s hm h
    unfold whileD
    rw [W_fl]
    refine (step m l s h).imp (fun k s h => ?_) (fun _ _ h => h)
    cases k with
    | false => with_unfolding_all exact h
    | true =>
      simp only [if_true] at h ⊢
      revert h
      cases b l s with
      | nx l2 s2 => intro h2; unfold Fl.W at h2; obtain ⟨m', h3, h4⟩ := h2; exact ih m' _ _ (by omega) h4
      | ct l2 s2 => intro h2; unfold Fl.W at h2; obtain ⟨m', h3, h4⟩ := h2; exact ih m' _ _ (by omega) h4
      | bk l2 s2 => intro h2; with_unfolding_all exact h2
      | rt d s2 => intro h2; with_unfolding_all exact h2
      | ex e l2 s2 => intro h2; with_unfolding_all exact h2
      | no => intro h2; with_unfolding_all exact h2
/-- [e for x in xs if t] where each is known -/
theorem compD_eq {g : D → Sl → Option Sl} {t : FT} {e : FE} {l : Sl} {s : Sto} (p : D → Bool) (f : D → D) : ∀ (xs acc : List D), acc.length + xs.length ≤ 16777216 →
    (∀ x ∈ xs, OW (g x l) fun l1 => (t l1 s).S (fun b s' => s' = s ∧ b = p x ∧ (b = true → (e l1 s).S (fun y s' => s' = s ∧ y = f x) NoE)) NoE) →
    compD g t e l xs acc s = .ok (.lst (acc ++ (xs.filter p).map f)) s := by
  intro xs
  induction xs with
  | nil => intro acc _ _; simp [compD]
  | cons x xs ih =>
    intro acc hl h
    have h1 := h x List.mem_cons_self
    unfold compD
    cases hg : g x l with
    | none => rw [hg] at h1; with_unfolding_all exact False.elim h1
    | some l1 =>
      rw [hg] at h1
      have h2 : (t l1 s).S (fun b s' => s' = s ∧ b = p x ∧ (b = true → (e l1 s).S (fun y s' => s' = s ∧ y = f x) NoE)) NoE := by with_unfolding_all exact h1
      simp only [List.length_cons] at hl
      have ih' := fun acc hl => ih acc hl (fun x hx => h x (List.mem_cons_of_mem _ hx))
      simp only []
      revert h2
      cases t l1 s with
      | no => intro h2; with_unfolding_all exact False.elim h2
      | ex _ _ => intro h2; with_unfolding_all exact False.elim h2
      | ok b s1 =>
        intro h2
        unfold R.S at h2
        obtain ⟨rfl, rfl, h3⟩ := h2
        simp only [R.nox_ok, R.bind_ok]
        cases hp : p x with
        | false => 
          simp only [Bool.false_eq_true, if_false, List.filter_cons, hp]
          exact ih' acc (by omega)
        | true =>
          have h4 := h3 hp
          simp only [if_true, List.filter_cons, hp, List.map_cons]
          revert h4
          cases e l1 s1 with
          | no => intro h2; with_unfolding_all exact False.elim h2
          | ex _ _ => intro h2; with_unfolding_all exact False.elim h2
          | ok y s2 =>
            intro h4
            have h4 := h4
            obtain ⟨rfl, rfl⟩ := h4
            simp only [R.nox_ok, R.bind_ok]
            rw [if_pos (by omega), ih' (acc ++ [f x]) (by simp; omega)]
            simp
theorem W_comp {g : D → Sl → Option Sl} {t : FT} {e : FE} {l : Sl} {s : Sto} {P : D → Sto → Prop} {E : Ex → Sto → Prop} {xs : List D} (p : D → Bool) (f : D → D) (hl : xs.length ≤ 16777216)
    (h : ∀ x ∈ xs, OW (g x l) fun l1 => (t l1 s).S (fun b s' => s' = s ∧ b = p x ∧ (b = true → (e l1 s).S (fun y s' => s' = s ∧ y = f x) NoE)) NoE)
    (hP : P (.lst ((xs.filter p).map f)) s) : (compD g t e l xs [] s).S P E := by
  rw [compD_eq p f xs [] (by simpa using hl) h]
  with_unfolding_all exact hP
/-- .. each item being the value of one of as -/
theorem W_compG {α : Type} {g : D → Sl → Option Sl} {t : FT} {e : FE} {l : Sl} {s : Sto} {P : D → Sto → Prop} {E : Ex → Sto → Prop} (as : List α) (enc f : α → D) (p : α → Bool) (hl : as.length ≤ 16777216)
    (h : ∀ a ∈ as, OW (g (enc a) l) fun l1 => (t l1 s).S (fun b s' => s = s' ∧ b = p a ∧ (p a = true → (e l1 s).S (fun y s' => s = s' ∧ y = f a) NoE)) NoE)
    (hP : P (.lst ((as.filter p).map f)) s) : (compD g t e l (as.map enc) [] s).S P E := by
  have key : ∀ (as : List α) (acc : List D), acc.length + as.length ≤ 16777216 → (∀ a ∈ as, OW (g (enc a) l) fun l1 => (t l1 s).S (fun b s' => s = s' ∧ b = p a ∧ (p a = true → (e l1 s).S (fun y s' => s = s' ∧ y = f a) NoE)) NoE) →
      compD g t e l (as.map enc) acc s = .ok (.lst (acc ++ (as.filter p).map f)) s := by
    intro as
    induction as with
    | nil => intro acc _ _; simp [compD]
    | cons a as ih =>
      intro acc hl h
      have h1 := h a List.mem_cons_self
      simp only [List.length_cons] at hl
      have ih' := fun acc hl => ih acc hl (fun x hx => h x (List.mem_cons_of_mem _ hx))
      rw [OW_iff] at h1
      obtain ⟨l1, e1, h2⟩ := h1
      show compD g t e l (enc a :: as.map enc) acc s = _
      unfold compD
      rw [e1]
      simp only []
      revert h2
      cases t l1 s with
      | no => intro h2; with_unfolding_all exact False.elim h2
      | ex _ _ => intro h2; with_unfolding_all exact False.elim h2
      | ok b s1 =>
        intro h2
        unfold R.S at h2
        obtain ⟨e2, e3, h3⟩ := h2
        subst e2
        subst e3
        simp only [R.nox_ok, R.bind_ok]
        cases hp : p a with
        | false =>
          simp only [Bool.false_eq_true, if_false, List.filter_cons, hp]
          exact ih' acc (by omega)
        | true =>
          have h4 := h3 hp
          simp only [if_true, List.filter_cons, hp, List.map_cons]
          revert h4
          cases e l1 s with
          | no => intro h2; with_unfolding_all exact False.elim h2
          | ex _ _ => intro h2; with_unfolding_all exact False.elim h2
          | ok y s2 =>
            intro h4
            have h4 := h4
            obtain ⟨e4, e5⟩ := h4
            subst e4
            subst e5
            simp only [R.nox_ok, R.bind_ok]
            rw [if_pos (by omega), ih' (acc ++ [f a]) (by simp; omega)]
            simp
  rw [key as [] (by simpa using hl) h]
  with_unfolding_all exact hP
theorem W_compM {α : Type} {g : D → Sl → Option Sl} {e : FE} {l : Sl} {s : Sto} {P : D → Sto → Prop} {E : Ex → Sto → Prop} (as : List α) (enc f : α → D) (hl : as.length ≤ 16777216)
    (h : ∀ a ∈ as, OW (g (enc a) l) fun l1 => (e l1 s).S (fun y s' => s = s' ∧ y = f a) NoE)
    (hP : P (.lst (as.map f)) s) : (compD g mYes e l (as.map enc) [] s).S P E := by
  refine W_compG as enc f (fun _ => true) hl (fun a ha => ?_) (by rw [List.filter_eq_self.mpr (by simp)]; exact hP)
  rw [OW_iff]
  obtain ⟨l1, e1, h1⟩ := (OW_iff _ _).mp (h a ha)
  exact ⟨l1, e1, (w_mYes).mpr ⟨rfl, rfl, fun _ => h1⟩⟩
theorem W_compR {g : D → Sl → Option Sl} {t : FT} {e : FE} {l : Sl} {s : Sto} {P : D → Sto → Prop} {E : Ex → Sto → Prop} (n : Nat) (f : Nat → D) (p : Nat → Bool) (hl : n ≤ 16777216)
    (h : ∀ k, k < n → OW (g (.int (k : Int)) l) fun l1 => (t l1 s).S (fun b s' => s = s' ∧ b = p k ∧ (p k = true → (e l1 s).S (fun y s' => s = s' ∧ y = f k) NoE)) NoE)
    (hP : P (.lst (((List.range n).filter p).map f)) s) : (compD g t e l (rgD 0 n) [] s).S P E := by
  have e : rgD 0 n = (List.range n).map (fun k : Nat => D.int (k : Int)) := by simp [rgD]
  rw [e]
  exact W_compG _ _ f p (by simpa using hl) (fun a ha => h a (by simpa using ha)) hP
/-- item by item -/
inductive All2 {α β : Type} (Q : α → β → Prop) : List α → List β → Prop where
  | nil : All2 Q [] []
  | cons {x : α} {y : β} {xs : List α} {ys : List β} (h : Q x y) (t : All2 Q xs ys) : All2 Q (x :: xs) (y :: ys)
theorem All2.len {α β : Type} {Q : α → β → Prop} {xs : List α} {ys : List β} (h : All2 Q xs ys) : ys.length = xs.length := by
  induction h with
  | nil => rfl
  | cons _ _ ih => simp [ih]
/-- the same, one fact of each item -/
theorem W_compQ {g : D → Sl → Option Sl} {e : FE} {l : Sl} {s : Sto} {P : D → Sto → Prop} {E : Ex → Sto → Prop} {xs : List D} (Q : D → D → Prop) (hl : xs.length ≤ 16777216)
    (h : ∀ x ∈ xs, OW (g x l) fun l1 => (e l1 s).S (fun y s' => s' = s ∧ Q x y) NoE)
    (hP : ∀ ys : List D, All2 Q xs ys → P (.lst ys) s) : (compD g mYes e l xs [] s).S P E := by
  have key : ∀ (xs acc : List D), acc.length + xs.length ≤ 16777216 → (∀ x ∈ xs, OW (g x l) fun l1 => (e l1 s).S (fun y s' => s' = s ∧ Q x y) NoE) → ∃ ys, All2 Q xs ys ∧ compD g mYes e l xs acc s = .ok (.lst (acc ++ ys)) s := by
    intro xs
    induction xs with
    | nil => intro acc _ _; exact ⟨[], .nil, by simp [compD]⟩
    | cons x xs ih =>
      intro acc hl h
      have h1 := h x List.mem_cons_self
      simp only [List.length_cons] at hl
      cases hg : g x l with
      | none => rw [hg] at h1; with_unfolding_all exact False.elim h1
      | some l1 =>
        rw [hg] at h1
        have h2 : (e l1 s).S (fun y s' => s' = s ∧ Q x y) NoE := by with_unfolding_all exact h1
        cases he : e l1 s with
        | no => rw [he] at h2; with_unfolding_all exact False.elim h2
        | ex _ _ => rw [he] at h2; with_unfolding_all exact False.elim h2
        | ok y s2 =>
          rw [he] at h2
          unfold R.S at h2
          obtain ⟨e1, e2⟩ := h2
          rw [e1] at he
          obtain ⟨ys, hy, e3⟩ := ih (acc ++ [y]) (by simp; omega) (fun x hx => h x (List.mem_cons_of_mem _ hx))
          refine ⟨y :: ys, .cons e2 hy, ?_⟩
          unfold compD
          simp only [hg, mYes, R.nox_ok, R.bind_ok, if_true, he]
          rw [if_pos (by omega), e3]
          simp
  obtain ⟨ys, h1, h2⟩ := key xs [] (by simpa using hl) h
  rw [h2]
  with_unfolding_all exact hP ys h1

theorem mem_rgD {x : D} {i : Int} {n : Nat} : x ∈ rgD i n ↔ ∃ k : Nat, k < n ∧ x = .int (i + (k : Int)) := by
  unfold rgD
  simp only [List.mem_map, List.mem_range]
  constructor
  · rintro ⟨k, h, rfl⟩; exact ⟨k, h, rfl⟩
  · rintro ⟨k, h, rfl⟩; exact ⟨k, h, rfl⟩
@[simp] theorem rgD_len (i : Int) (n : Nat) : (rgD i n).length = n := by simp [rgD]
theorem All2.ints {xs ys : List D} (h : All2 (fun _ y => ∃ i : Int, y = .int i) xs ys) : ∃ vs : List Int, ys = vs.map .int ∧ vs.length = xs.length := by
  induction h with
  | nil => exact ⟨[], rfl, rfl⟩
  | cons h _ ih =>
    obtain ⟨i, rfl⟩ := h
    obtain ⟨vs, rfl, hl⟩ := ih
    exact ⟨i :: vs, rfl, by simp [hl]⟩
theorem W_compI {g : D → Sl → Option Sl} {e : FE} {l : Sl} {s : Sto} {P : D → Sto → Prop} {E : Ex → Sto → Prop} {xs : List D} (hl : xs.length ≤ 16777216)
    (h : ∀ x ∈ xs, OW (g x l) fun l1 => (e l1 s).S (fun y s' => s' = s ∧ ∃ i : Int, y = .int i) NoE)
    (hP : ∀ vs : List Int, vs.length = xs.length → P (.lst (vs.map .int)) s) : (compD g mYes e l xs [] s).S P E :=
  W_compQ (fun _ y => ∃ i : Int, y = .int i) hl h fun ys hy => by
    obtain ⟨vs, rfl, hv⟩ := hy.ints
    exact hP vs hv
/-- statement by statement -/
theorem W_seq {N : Sl → Sto → Prop} {R : D → Sto → Prop} {B C : Sl → Sto → Prop} {X : Ex → Sl → Sto → Prop} {l : Sl} {s : Sto} {a b : FS} (Q : Sl → Sto → Prop) (h1 : (a l s).W Q R B C X) (h2 : ∀ l s, Q l s → (b l s).W N R B C X) : (sSeq a b l s).W N R B C X :=
  W_sSeq a b |>.mpr (h1.imp h2 (fun _ _ h => h) (fun _ _ h => h) (fun _ _ h => h) (fun _ _ _ h => h))
/-- an if whose test is known -/
theorem W_ifD {N : Sl → Sto → Prop} {R : D → Sto → Prop} {B C : Sl → Sto → Prop} {X : Ex → Sl → Sto → Prop} {l : Sl} {s : Sto} {c : FT} {f g : FS} (b : Bool) (hc : (c l s).S (fun k s' => s = s' ∧ k = b) NoE)
    (h : if b = true then (f l s).W N R B C X else (g l s).W N R B C X) : (sIf c f g l s).W N R B C X := by
  rw [W_sIf]
  refine Vx.R.S.imp hc (fun k s' hk => ?_) (fun _ _ h => h.elim)
  obtain ⟨rfl, rfl⟩ := hk
  exact h
theorem W_cut {N : Sl → Sto → Prop} {R : D → Sto → Prop} {B C : Sl → Sto → Prop} {X : Ex → Sl → Sto → Prop} {f : Fl} (Q : Sl → Sto → Prop) (h1 : f.W Q R B C X) (h2 : ∀ l s, Q l s → N l s) : f.W N R B C X :=
  h1.imp h2 (fun _ _ h => h) (fun _ _ h => h) (fun _ _ h => h) (fun _ _ _ h => h)
section
variable {N R' : Sl → Sto → Prop} {R : D → Sto → Prop} {B C : Sl → Sto → Prop} {X : Ex → Sl → Sto → Prop} {l : Sl} {s : Sto} {a b c d e : FS} (Q : Sl → Sto → Prop)
theorem W_seq2 (h1 : (sSeq a b l s).W Q R B C X) (h2 : ∀ l s, Q l s → (c l s).W N R B C X) : (sSeq a (sSeq b c) l s).W N R B C X :=
  (W_sSeq a _).mpr (((W_sSeq a b).mp h1).imp (fun _ _ h => W_seq Q h h2) (fun _ _ h => h) (fun _ _ h => h) (fun _ _ h => h) (fun _ _ _ h => h))
theorem W_seq3 (h1 : (sSeq a (sSeq b c) l s).W Q R B C X) (h2 : ∀ l s, Q l s → (d l s).W N R B C X) : (sSeq a (sSeq b (sSeq c d)) l s).W N R B C X :=
  (W_sSeq a _).mpr (((W_sSeq a _).mp h1).imp (fun _ _ h => W_seq2 Q h h2) (fun _ _ h => h) (fun _ _ h => h) (fun _ _ h => h) (fun _ _ _ h => h))
theorem W_seq4 (h1 : (sSeq a (sSeq b (sSeq c d)) l s).W Q R B C X) (h2 : ∀ l s, Q l s → (e l s).W N R B C X) : (sSeq a (sSeq b (sSeq c (sSeq d e))) l s).W N R B C X :=
  (W_sSeq a _).mpr (((W_sSeq a _).mp h1).imp (fun _ _ h => W_seq3 Q h h2) (fun _ _ h => h) (fun _ _ h => h) (fun _ _ h => h) (fun _ _ _ h => h))
end
theorem cut_to {α : Type} (xs : List α) (j : Int) (h : 0 ≤ j) : cutD xs none (some j) = xs.take j.toNat := by
  unfold cutD sIx
  simp
  rw [if_neg (by omega)]
  by_cases h : j.toNat ≤ xs.length
  · congr 1; omega
  · omega
theorem cut_from {α : Type} (xs : List α) (j : Int) (h : 0 ≤ j) : cutD xs (some j) none = xs.drop j.toNat := by
  unfold cutD sIx
  simp
  rw [if_neg (by omega)]
  by_cases h : j.toNat ≤ xs.length
  · have e : min j.toNat xs.length = j.toNat := by omega
    rw [e]
    exact List.take_of_length_le (by simp)
  · have e : min j.toNat xs.length = xs.length := by omega
    rw [e, List.drop_of_length_le (i := xs.length) (by omega), List.drop_of_length_le (by omega)]
    simp
@[simp] theorem cutD_map {α β : Type} (f : α → β) (xs : List α) (i j : Option Int) : cutD (xs.map f) i j = (cutD xs i j).map f := by
  unfold cutD
  simp [List.map_take, List.map_drop]
theorem ofS (s : String) : (Str.ofString s).cps.toList = s.toList.map Char.toNat := by rw [Str.ofString_eq_toList]
@[simp] theorem ofS_inj (a b : String) : Str.ofString a = Str.ofString b ↔ a = b := by
  constructor
  · intro h
    have h1 := ofS a
    rw [h, ofS b] at h1
    have inj : ∀ (x y : List Char), x.map Char.toNat = y.map Char.toNat → x = y := by
      intro x
      induction x with
      | nil => intro y h; cases y with
        | nil => rfl
        | cons _ _ => simp at h
      | cons c x ih => intro y h; cases y with
        | nil => simp at h
        | cons d y =>
          simp only [List.map_cons, List.cons.injEq] at h
          have : c = d := Char.toNat_inj.mp h.1
          rw [this, ih y h.2]
    exact (String.toList_inj.mp (inj _ _ h1)).symm
  · intro h; rw [h]

/-! ### operators -/
section
variable {P : D → Prop}
@[simp] theorem o_add (i j : Int) : OW (gAdd (.int i) (.int j)) P ↔ P (.int (i + j)) := by with_unfolding_all exact Iff.rfl
@[simp] theorem o_addI (i j : Int) : OW (gAddI (.int i) (.int j)) P ↔ P (.int (i + j)) := by with_unfolding_all exact Iff.rfl
@[simp] theorem o_sub (i j : Int) : OW (gSub (.int i) (.int j)) P ↔ P (.int (i - j)) := by with_unfolding_all exact Iff.rfl
theorem OW_ite {α : Type} {c : Prop} [Decidable c] {a : α} {Q : α → Prop} : OW (if c then some a else none) Q ↔ c ∧ Q a := by
  by_cases h : c <;> simp [h, OW]
@[simp] theorem o_addT (xs ys : List D) : OW (gAdd (.tup xs) (.tup ys)) P ↔ xs.length + ys.length ≤ 16777216 ∧ P (.tup (xs ++ ys)) := by
  unfold gAdd; simp only [OW_ite, szOk, decide_eq_true_eq]
@[simp] theorem o_addL (xs ys : List D) : OW (gAddL (.lst xs) (.lst ys)) P ↔ xs.length + ys.length ≤ 16777216 ∧ P (.lst (xs ++ ys)) := by
  unfold gAddL; simp only [OW_ite, szOk, decide_eq_true_eq]
@[simp] theorem o_addLL (xs ys : List D) : OW (gAdd (.lst xs) (.lst ys)) P ↔ xs.length + ys.length ≤ 16777216 ∧ P (.lst (xs ++ ys)) := by
  unfold gAdd; simp only [OW_ite, szOk, decide_eq_true_eq]
@[simp] theorem o_addS (x y : Str) : OW (gAdd (.str x) (.str y)) P ↔ x.length + y.length ≤ 16777216 ∧ P (.str (x ++ y)) := by
  unfold gAdd; simp only [OW_ite, szOk, decide_eq_true_eq]
@[simp] theorem o_mul (i j : Int) : OW (gMul (.int i) (.int j)) P ↔ (i.natAbs < 2 ^ 64 ∨ j.natAbs < 2 ^ 64) ∧ P (.int (i * j)) := by
  unfold gMul; simp only [OW_ite, Bool.or_eq_true, decide_eq_true_eq]
@[simp] theorem o_div (i j : Int) : OW (gDiv (.int i) (.int j)) P ↔ (0 < j ∧ j < 1073741824) ∧ P (.int (i / j)) := by
  unfold gDiv; simp only [OW_ite, Bool.and_eq_true, decide_eq_true_eq]
@[simp] theorem o_mod (i j : Int) : OW (gMod (.int i) (.int j)) P ↔ 0 < j ∧ P (.int (i % j)) := by
  unfold gMod; simp only [OW_ite]
@[simp] theorem o_pow (i j : Int) : OW (gPow (.int i) (.int j)) P ↔ ((0 ≤ j ∧ j ≤ 1000000) ∧ i.natAbs < 2 ^ 64) ∧ P (.int (i ^ j.toNat)) := by
  unfold gPow; simp only [OW_ite, Bool.and_eq_true, decide_eq_true_eq]
@[simp] theorem o_shr (i j : Int) : OW (gShr (.int i) (.int j)) P ↔ 0 ≤ j ∧ P (.int (i / 2 ^ j.toNat)) := by
  unfold gShr; simp only [OW_ite]
@[simp] theorem o_mask (i : Int) : OW (gMask (.int i) (.int 2147483647)) P ↔ P (.int (i % 2147483648)) := by with_unfolding_all exact Iff.rfl
@[simp] theorem o_neg (i : Int) : OW (gNeg (.int i)) P ↔ P (.int (-i)) := by with_unfolding_all exact Iff.rfl
@[simp] theorem o_lt (i j : Int) : OW (gLt (.int i) (.int j)) P ↔ P (.bl (decide (i < j))) := by with_unfolding_all exact Iff.rfl
@[simp] theorem o_le (i j : Int) : OW (gLe (.int i) (.int j)) P ↔ P (.bl (decide (i ≤ j))) := by with_unfolding_all exact Iff.rfl
@[simp] theorem o_gt (i j : Int) : OW (gGt (.int i) (.int j)) P ↔ P (.bl (decide (j < i))) := by with_unfolding_all exact Iff.rfl
@[simp] theorem o_ge (i j : Int) : OW (gGe (.int i) (.int j)) P ↔ P (.bl (decide (j ≤ i))) := by with_unfolding_all exact Iff.rfl
@[simp] theorem ch_lt (i j : Int) : (gLt (.int i) (.int j)).bind gBl = some (decide (i < j)) := rfl
@[simp] theorem ch_le (i j : Int) : (gLe (.int i) (.int j)).bind gBl = some (decide (i ≤ j)) := rfl
@[simp] theorem ch_gt (i j : Int) : (gGt (.int i) (.int j)).bind gBl = some (decide (j < i)) := rfl
@[simp] theorem ch_ge (i j : Int) : (gGe (.int i) (.int j)).bind gBl = some (decide (j ≤ i)) := rfl
@[simp] theorem o_not (b : Bool) : OW (gNot (.bl b)) P ↔ P (.bl !b) := by with_unfolding_all exact Iff.rfl
@[simp] theorem o_bl (b : Bool) {Q : Bool → Prop} : OW (gBl (.bl b)) Q ↔ Q b := by with_unfolding_all exact Iff.rfl
@[simp] theorem shp_int (i : Int) : D.shp (.int i) = true := by simp [D.shp, D.pl, D.dep]
@[simp] theorem shp_non : D.shp .non = true := by simp [D.shp, D.pl, D.dep]
@[simp] theorem shp_bl (b : Bool) : D.shp (.bl b) = true := by simp [D.shp, D.pl, D.dep]
theorem eqOk_shp {x y : D} (hx : x.shp = true) (hy : y.shp = true) : D.eqOk x y = true := by simp [D.eqOk, hx, hy]
@[simp] theorem eqOk_str (x y : Str) : D.eqOk (.str x) (.str y) = true := by simp [D.eqOk, D.isStr]
theorem o_eq {x y : D} (h : D.eqOk x y = true) : OW (gEq x y) P ↔ P (.bl (D.eqv x y)) := by
  unfold gEq; simp [h, OW_some]
theorem o_ne {x y : D} (h : D.eqOk x y = true) : OW (gNe x y) P ↔ P (.bl (!D.eqv x y)) := by
  unfold gNe; simp [h, OW_some]
@[simp] theorem o_eqI (i j : Int) : OW (gEq (.int i) (.int j)) P ↔ P (.bl (decide (i = j))) := by
  rw [o_eq (eqOk_shp (shp_int i) (shp_int j))]
  have e : D.eqv (.int i) (.int j) = decide (i = j) := by
    unfold D.eqv
    by_cases h : i = j <;> simp [h]
  rw [e]
@[simp] theorem o_neI (i j : Int) : OW (gNe (.int i) (.int j)) P ↔ P (.bl (decide (i ≠ j))) := by
  rw [o_ne (eqOk_shp (shp_int i) (shp_int j))]
  have e : (!D.eqv (.int i) (.int j)) = decide (i ≠ j) := by
    unfold D.eqv
    by_cases h : i = j <;> simp [h]
  rw [e]
@[simp] theorem o_eqB (i j : Bool) : OW (gEq (.bl i) (.bl j)) P ↔ P (.bl (i == j)) := by
  rw [o_eq (eqOk_shp (shp_bl i) (shp_bl j))]; simp [D.eqv]
@[simp] theorem o_neB (i j : Bool) : OW (gNe (.bl i) (.bl j)) P ↔ P (.bl (!(i == j))) := by
  rw [o_ne (eqOk_shp (shp_bl i) (shp_bl j))]; simp [D.eqv]
@[simp] theorem o_eqNI (j : Int) : OW (gEq .non (.int j)) P ↔ P (.bl false) := by
  rw [o_eq (eqOk_shp shp_non (shp_int j))]; simp [D.eqv]
@[simp] theorem o_eqIN (j : Int) : OW (gEq (.int j) .non) P ↔ P (.bl false) := by
  rw [o_eq (eqOk_shp (shp_int j) shp_non)]; simp [D.eqv]
@[simp] theorem o_eqS (x y : Str) : OW (gEq (.str x) (.str y)) P ↔ P (.bl (x == y)) := by
  rw [o_eq (eqOk_str x y)]; simp [D.eqv]
@[simp] theorem o_neS (x y : Str) : OW (gNe (.str x) (.str y)) P ↔ P (.bl (!(x == y))) := by
  rw [o_ne (eqOk_str x y)]; simp [D.eqv]
@[simp] theorem o_isN (x : D) : OW (gIs x .non) P ↔ P (.bl x.isNon) := by unfold gIs; cases x <;> with_unfolding_all exact Iff.rfl
@[simp] theorem o_isnN (x : D) : OW (gIsNot x .non) P ↔ P (.bl !x.isNon) := by unfold gIsNot; cases x <;> with_unfolding_all exact Iff.rfl
@[simp] theorem o_isB (b c : Bool) : OW (gIs (.bl b) (.bl c)) P ↔ P (.bl (b == c)) := by with_unfolding_all exact Iff.rfl
@[simp] theorem o_isnB (b c : Bool) : OW (gIsNot (.bl b) (.bl c)) P ↔ P (.bl !(b == c)) := by with_unfolding_all exact Iff.rfl
/-- the item at i, from the end if below nought -/
def getI {α : Type} (xs : List α) (i : Int) : Option α := (ixI xs.length i).bind fun j => xs[j]?
@[simp] theorem o_ixL (xs : List D) (i : Int) : OW (gIx (.lst xs) (.int i)) P ↔ OW (getI xs i) P := by with_unfolding_all exact Iff.rfl
@[simp] theorem o_ixT (xs : List D) (i : Int) : OW (gIx (.tup xs) (.int i)) P ↔ OW (getI xs i) P := by with_unfolding_all exact Iff.rfl
@[simp] theorem getI_map {α β : Type} (f : α → β) (xs : List α) (i : Int) : getI (xs.map f) i = (getI xs i).map f := by
  unfold getI
  rw [List.length_map]
  cases ixI xs.length i <;> simp
@[simp] theorem OW_map {α β : Type} (f : α → β) (o : Option α) (Q : β → Prop) : OW (o.map f) Q ↔ OW o (fun a => Q (f a)) := by cases o <;> with_unfolding_all exact Iff.rfl
@[simp] theorem getI_0 {α : Type} (a : α) (xs : List α) : getI (a :: xs) 0 = some a := by simp [getI, ixI]
theorem getI_suc {α : Type} (a : α) (xs : List α) (n : Nat) : getI (a :: xs) ((n : Int) + 1) = getI xs n := by
  have e1 : (0 : Int) ≤ (n : Int) + 1 := by omega
  have e2 : (0 : Int) ≤ (n : Int) := by omega
  unfold getI ixI
  rw [if_pos e1, if_pos e2]
  by_cases h : n < xs.length
  · have h1 : (n : Int) + 1 < ((a :: xs).length : Int) := by simp; omega
    have h2 : (n : Int) < (xs.length : Int) := by omega
    have e3 : ((n : Int) + 1).toNat = n + 1 := by omega
    have e4 : (n : Int).toNat = n := by omega
    rw [if_pos h1, if_pos h2, e3, e4]
    simp
  · have h1 : ¬ (n : Int) + 1 < ((a :: xs).length : Int) := by simp; omega
    have h2 : ¬ (n : Int) < (xs.length : Int) := by omega
    rw [if_neg h1, if_neg h2]
    rfl
@[simp] theorem getI_1 {α : Type} (a : α) (xs : List α) : getI (a :: xs) 1 = getI xs 0 := getI_suc a xs 0
@[simp] theorem getI_2 {α : Type} (a : α) (xs : List α) : getI (a :: xs) 2 = getI xs 1 := getI_suc a xs 1
@[simp] theorem getI_3 {α : Type} (a : α) (xs : List α) : getI (a :: xs) 3 = getI xs 2 := getI_suc a xs 2
@[simp] theorem getI_4 {α : Type} (a : α) (xs : List α) : getI (a :: xs) 4 = getI xs 3 := getI_suc a xs 3
@[simp] theorem getI_5 {α : Type} (a : α) (xs : List α) : getI (a :: xs) 5 = getI xs 4 := getI_suc a xs 4
@[simp] theorem getI_6 {α : Type} (a : α) (xs : List α) : getI (a :: xs) 6 = getI xs 5 := getI_suc a xs 5
@[simp] theorem getI_7 {α : Type} (a : α) (xs : List α) : getI (a :: xs) 7 = getI xs 6 := getI_suc a xs 6
theorem getI_nat {α : Type} (xs : List α) (i : Int) (h0 : 0 ≤ i) (h1 : i < xs.length) : getI xs i = xs[i.toNat]? := by
  unfold getI ixI; simp [h0, h1]
theorem getI_ok {α : Type} {xs : List α} {i : Int} {Q : α → Prop} (h0 : 0 ≤ i) (h1 : i < xs.length) (h : ∀ (h : i.toNat < xs.length), Q xs[i.toNat]) : OW (getI xs i) Q := by
  rw [getI_nat xs i h0 h1]
  have hl : i.toNat < xs.length := by omega
  rw [List.getElem?_eq_getElem hl]
  with_unfolding_all exact h hl
@[simp] theorem o_lenL (xs : List D) : OW (gLen [.lst xs]) P ↔ P (.int xs.length) := by with_unfolding_all exact Iff.rfl
@[simp] theorem o_lenT (xs : List D) : OW (gLen [.tup xs]) P ↔ P (.int xs.length) := by with_unfolding_all exact Iff.rfl
@[simp] theorem o_lenS (x : Str) : OW (gLen [.str x]) P ↔ x.length ≤ 16777216 ∧ P (.int x.length) := by
  unfold gLen; simp only [OW_ite, szOk, decide_eq_true_eq]
@[simp] theorem o_max (i j : Int) : OW (gMax2 [.int i, .int j]) P ↔ P (.int (if j > i then j else i)) := by with_unfolding_all exact Iff.rfl
@[simp] theorem o_min (i j : Int) : OW (gMin2 [.int i, .int j]) P ↔ P (.int (if j < i then j else i)) := by with_unfolding_all exact Iff.rfl
@[simp] theorem o_int (i : Int) : OW (gInt1 [.int i]) P ↔ P (.int i) := by with_unfolding_all exact Iff.rfl
@[simp] theorem o_intB (b : Bool) : OW (gInt1 [.bl b]) P ↔ P (.int (if b then 1 else 0)) := by with_unfolding_all exact Iff.rfl
@[simp] theorem o_tupL (xs : List D) : OW (gTuple [.lst xs]) P ↔ P (.tup xs) := by with_unfolding_all exact Iff.rfl
@[simp] theorem o_tupT (xs : List D) : OW (gTuple [.tup xs]) P ↔ P (.tup xs) := by with_unfolding_all exact Iff.rfl
@[simp] theorem o_lstL (xs : List D) : OW (gList [.lst xs]) P ↔ P (.lst xs) := by with_unfolding_all exact Iff.rfl
@[simp] theorem o_lstT (xs : List D) : OW (gList [.tup xs]) P ↔ P (.lst xs) := by with_unfolding_all exact Iff.rfl
@[simp] theorem o_isiN (T : String) : OW (gIsi T .non) P ↔ P (.bl false) := by with_unfolding_all exact Iff.rfl
@[simp] theorem o_isiB (T : String) (b : Bool) : OW (gIsi T (.bl b)) P ↔ P (.bl (T == "bool" || T == "int")) := by with_unfolding_all exact Iff.rfl
@[simp] theorem o_isiI (T : String) (i : Int) : OW (gIsi T (.int i)) P ↔ P (.bl (T == "int")) := by with_unfolding_all exact Iff.rfl
@[simp] theorem o_isiS (T : String) (x : Str) : OW (gIsi T (.str x)) P ↔ P (.bl (T == "str")) := by with_unfolding_all exact Iff.rfl
@[simp] theorem o_isiT (T : String) (xs : List D) : OW (gIsi T (.tup xs)) P ↔ P (.bl (T == "tuple")) := by with_unfolding_all exact Iff.rfl
@[simp] theorem o_isiL (T : String) (xs : List D) : OW (gIsi T (.lst xs)) P ↔ P (.bl (T == "list")) := by with_unfolding_all exact Iff.rfl
@[simp] theorem o_cutL (xs : List D) (i j : Option Int) : OW (gCut (.lst xs) i j) P ↔ P (.lst (cutD xs i j)) := by with_unfolding_all exact Iff.rfl
@[simp] theorem o_cutT (xs : List D) (i j : Option Int) : OW (gCut (.tup xs) i j) P ↔ P (.tup (cutD xs i j)) := by with_unfolding_all exact Iff.rfl
@[simp] theorem o_cutLL (xs : List D) (i j : Option Int) : OW (gCutL (.lst xs) i j) P ↔ P (.lst (cutD xs i j)) := by with_unfolding_all exact Iff.rfl
/-- a text's part -/
def cutS (x : Str) (i j : Option Int) : Str := ⟨(cutD x.cps.toList i j).toArray⟩
@[simp] theorem o_cutS (x : Str) (i j : Option Int) : OW (gCut (.str x) i j) P ↔ x.length ≤ 16777216 ∧ P (.str (cutS x i j)) := by
  unfold gCut; simp only [OW_ite, szOk, decide_eq_true_eq, cutS]
/-- a text's sign -/
def sgnS (c : Nat) : Str := ⟨#[c]⟩
@[simp] theorem o_ixS (x : Str) (i : Int) : OW (gIx (.str x) (.int i)) P ↔ x.length ≤ 16777216 ∧ OW (getI x.cps.toList i) (fun c => P (.str (sgnS c))) := by
  unfold gIx
  by_cases h : x.length ≤ 16777216
  · simp only [szOk, h, decide_true, if_true, true_and, getI]
    have e : ixI x.cps.toList.length i = ixI x.length i := rfl
    rw [e]
    cases ixI x.length i with
    | none => with_unfolding_all exact Iff.rfl
    | some j =>
      simp only [Option.bind_some, Array.getElem?_toList]
      cases x.cps[j]? <;> with_unfolding_all exact Iff.rfl
  · simp [szOk, h, OW]
@[simp] theorem isNon_non : D.isNon .non = true := rfl
@[simp] theorem isNon_int (i : Int) : D.isNon (.int i) = false := rfl
@[simp] theorem isNon_str (x : Str) : D.isNon (.str x) = false := rfl
@[simp] theorem isNon_tup (x : List D) : D.isNon (.tup x) = false := rfl
end
@[simp] theorem szOk_i (n : Nat) : szOk n = true ↔ n ≤ 16777216 := by simp [szOk]
@[simp] theorem rgOk_i (i : Int) : rgOk i = true ↔ -4611686018427387904 ≤ i ∧ i < 4611686018427387904 := by simp [rgOk]
theorem R.S.ok {r : R D} {P : D → Sto → Prop} (h : r.S P NoE) : ∃ d s, r = .ok d s ∧ P d s := by
  cases r with
  | ok a s => exact ⟨a, s, rfl, by with_unfolding_all exact h⟩
  | ex e s => with_unfolding_all exact False.elim h
  | no => with_unfolding_all exact False.elim h
theorem sat_of_eq {α : Type} {r : R α} {a : α} {s : Sto} {P : α → Sto → Prop} {E : Ex → Sto → Prop} (h : r = .ok a s) : r.S P E ↔ P a s := by rw [h]; with_unfolding_all exact Iff.rfl
end Vx


namespace Vx
open PySem
section
variable {P : D → Sto → Prop} {E : Ex → Sto → Prop} {N : Sl → Sto → Prop} {R : D → Sto → Prop} {B C : Sl → Sto → Prop} {X : Ex → Sl → Sto → Prop} {l : Sl} {s : Sto}
@[simp] theorem w_mCallX (m : List D → Sto → Vx.R D) (a : FA) : (mCallX m a l s).S P E ↔ (a l s).S (fun xs s => (m xs s).S P E) E := by
  unfold mCallX; simp only [w_bind]
@[simp] theorem W_exl (e : Ex) : (Fl.ex e l s).W N R B C X ↔ X e l s := by with_unfolding_all exact Iff.rfl
@[simp] theorem W_sRaise0 (c n : Nat) : (sRaise0 c n l s).W N R B C X ↔ X ⟨c, n, []⟩ l s := by with_unfolding_all exact Iff.rfl
@[simp] theorem w_mIs (b : Option Bool) : (mIs b l s).S P E ↔ OW b fun b => P (.bl b) s := by
  cases b <;> with_unfolding_all exact Iff.rfl
@[simp] theorem hit_same (ca : Nat → Nat) (tab : Nat → Option Bool) (n : Nat) (fs : List (Str × D)) : hit ca tab ⟨ca n, n, fs⟩ = tab n := by unfold hit; simp
theorem W_noxl {f : Fl} : f.nox.W N R B C X ↔ f.W N R B C NoX := by cases f <;> with_unfolding_all exact Iff.rfl
theorem W_sTry (ca : Nat → Nat) (tab : Nat → Option Bool) (fb fs : FS) : (sTry ca tab fb fs l s).W N R B C X ↔ (fb l s).W N R B C (fun x l' s' => OW (hit ca tab x) fun b => if b = true then (fs l' s').W N R B C NoX else X x l' s') := by
  unfold sTry
  cases fb l s with
  | ex x l' s' =>
    simp only [W_exl]
    cases hit ca tab x with
    | none => simp only [W_no, OW_none]
    | some b => cases b <;> simp [W_noxl]
  | _ => with_unfolding_all exact Iff.rfl
theorem W_sTryE (ca : Nat → Nat) (tab : Nat → Option Bool) (fb fs fe : FS) : (sTryE ca tab fb fs fe l s).W N R B C X ↔ (fb l s).W (fun l s => (fe l s).W N R B C X) R B C (fun x l' s' => OW (hit ca tab x) fun b => if b = true then (fs l' s').W N R B C NoX else X x l' s') := by
  unfold sTryE
  cases fb l s with
  | ex x l' s' =>
    simp only [W_exl]
    cases hit ca tab x with
    | none => simp only [W_no, OW_none]
    | some b => cases b <;> simp [W_noxl]
  | _ => with_unfolding_all exact Iff.rfl
theorem W_sTryAs (i : Nat) (ca : Nat → Nat) (tab : Nat → Option Bool) (fb : FS) (fs : Ex → FS) : (sTryAs i ca tab fb fs l s).W N R B C X ↔ (fb l s).W N R B C (fun x l' s' => OW (hit ca tab x) fun b => if b = true then i < l'.length ∧ (fs x (l'.set i none) s').W (fun l2 s2 => N (l2.set i none) s2) R (fun _ _ => False) (fun _ _ => False) NoX else X x l' s') := by
  unfold sTryAs
  cases fb l s with
  | ex x l' s' =>
    simp only [W_exl]
    cases hit ca tab x with
    | none => simp only [W_no, OW_none]
    | some b =>
      cases b
      · simp
      · simp only [OW_some, if_true]
        by_cases h : i < l'.length
        · simp only [h, if_true, true_and]
          cases fs x (l'.set i none) s' <;> with_unfolding_all exact Iff.rfl
        · simp only [h, if_false, false_and, W_no]
  | _ => with_unfolding_all exact Iff.rfl
end
section
variable {P : D → Sto → Prop} {E : Ex → Sto → Prop} {l : Sl} {s : Sto}
@[simp] theorem w_mIndexL (a b : FE) : (mIndexL a b l s).S P E ↔ (a l s).S (fun x s => lstW x fun xs => (b l s).S (fun y s => OW (gIndexL xs y) fun d => P d s) E) E := by
  unfold mIndexL; rw [w_bind]
  have e : ∀ (x : D) (s : Sto), (match x with | .lst xs => ((b l s).bind fun y s => liftO (gIndexL xs y) s) | _ => .no).S P E ↔ lstW x fun xs => (b l s).S (fun y s => OW (gIndexL xs y) fun d => P d s) E := by
    intro x s
    cases x with
    | lst z => simp only [lstW, w_bind, w_lift]
    | _ => with_unfolding_all exact Iff.rfl
  exact sat_congr e
end
end Vx

namespace Law
open PySem Vx
theorem mod_in {α : Type} (xs : List α) (k : Int) (h : xs ≠ []) : 0 ≤ k % (xs.length : Int) ∧ k % (xs.length : Int) < xs.length := by
  have h1 : 0 < xs.length := List.length_pos_iff.mpr h
  exact ⟨Int.emod_nonneg _ (by omega), Int.emod_lt_of_pos _ (by omega)⟩
/-- the script's cell -/
def cel (ns : List Int) (k : Int) : Int := if ns = [] then 0 else (ns[(k % (ns.length : Int)).toNat]?).getD 0
theorem cell_at (ns : List Int) (k : Int) (s : Sto) : m__law_cell_at [.lst (ns.map .int), .int k] s = .ok (.int (cel ns k)) s := by
  have h : (m__law_cell_at [.lst (ns.map .int), .int k] s).S (fun d s' => d = .int (cel ns k) ∧ s' = s) NoE := by
    unfold m__law_cell_at b__law_cell_at cel
    simp [startD]
    by_cases h : ns = []
    · simp [h]
    · have hl : 0 < ns.length := List.length_pos_iff.mpr h
      have := mod_in ns k h
      simp only [h, if_false]
      refine ⟨by omega, getI_ok this.1 this.2 fun h => ?_⟩
      rw [List.getElem?_eq_getElem h]
      rfl
  obtain ⟨d, s', h1, h2, h3⟩ := h.ok
  rw [h1, h2, h3]
/-- the drawn number -/
def mx (ns : List Int) (k t : Int) : Nat := ((cel ns k / 2 ^ (31 * (t + 128 * (k / (if (1 : Int) < ns.length then (ns.length : Int) else 1)))).toNat
  + (let n := ((cel ns k % 2147483648 + 4001 * k * k + 9001 * t * t + 17) * 16807 % 2147483647); n * n % 2147483579)) % 2147483648).toNat
theorem mixed (ns : List Int) (hn : ns.length ≤ 63) (k t : Int) (hk : 0 ≤ k) (hk' : k < 18446744073709551616) (ht : 0 ≤ t) (ht' : t < 18446744073709551616) (s : Sto) :
    m__law_mixed [.lst (ns.map .int), .int k, .int t] s = .ok (.int (mx ns k t : Nat)) s := by
  have h : (m__law_mixed [.lst (ns.map .int), .int k, .int t] s).S (fun d s' => d = .int (mx ns k t : Nat) ∧ s' = s) NoE := by
    unfold m__law_mixed b__law_mixed mx
    simp [startD, cell_at]
    have q1 : (0 : Int) < (if (1 : Int) < ns.length then (ns.length : Int) else 1) ∧ (if (1 : Int) < ns.length then (ns.length : Int) else 1) < 1073741824 := by
      split <;> omega
    generalize (if (1 : Int) < ns.length then (ns.length : Int) else 1) = q at q1 ⊢
    have q2 : 0 ≤ k / q := Int.ediv_nonneg hk (by omega)
    generalize (cel ns k % 2147483648 + 4001 * k * k + 9001 * t * t + 17) * 16807 = z
    generalize hz : z % 2147483647 = y
    have q3 : 0 ≤ y ∧ y < 2147483647 := by omega
    generalize (cel ns k / 2 ^ (31 * (t + 128 * (k / q))).toNat + y * y % 2147483579) = x
    refine ⟨q1, by omega, by omega, by omega, by omega, by omega⟩
  obtain ⟨d, s', h1, h2, h3⟩ := h.ok
  rw [h1, h2, h3]
theorem mx_lt (ns : List Int) (k t : Int) : mx ns k t < 2147483648 := by
  unfold mx
  have := Int.emod_lt_of_pos (cel ns k / 2 ^ (31 * (t + 128 * (k / (if (1 : Int) < ns.length then (ns.length : Int) else 1)))).toNat
    + (let n := ((cel ns k % 2147483648 + 4001 * k * k + 9001 * t * t + 17) * 16807 % 2147483647); n * n % 2147483579)) (show (0 : Int) < 2147483648 by decide)
  omega
end Law

namespace Law
open PySem Vx
/-- a whole number from nought on, as a value -/
abbrev nD (n : Nat) : D := .int (n : Int)
def att (xs : List Nat) (i : Nat) : Nat := xs[i]?.getD 0
theorem att_get (xs : List Nat) (i : Nat) (h : i < xs.length) : xs[i] = att xs i := by
  unfold att; rw [List.getElem?_eq_getElem h]; rfl
theorem getI_g {α : Type} {xs : List α} {k : Nat} {Q : α → Prop} (h : k < xs.length) : OW (getI xs (k : Int)) Q ↔ Q xs[k] := by
  rw [getI_nat xs k (by omega) (by omega), Int.toNat_natCast, List.getElem?_eq_getElem h, OW_some]
theorem getI_n {xs : List Nat} {k : Nat} {Q : Nat → Prop} (h : k < xs.length) : OW (getI xs (k : Int)) Q ↔ Q (att xs k) := by
  rw [getI_g h, att_get]
theorem getI_i {xs : List Nat} {i : Int} {k : Nat} {Q : Nat → Prop} (e : i = (k : Int)) (h : k < xs.length) : OW (getI xs i) Q ↔ Q (att xs k) := by
  rw [e, getI_n h]
theorem getI_gi {α : Type} {xs : List α} {i : Int} {k : Nat} {Q : α → Prop} (e : i = (k : Int)) (h : k < xs.length) : OW (getI xs i) Q ↔ Q xs[k] := by
  rw [e, getI_g h]
theorem att_app (xs : List Nat) (x k : Nat) : att (xs ++ [x]) k = if k < xs.length then att xs k else if k = xs.length then x else 0 := by
  unfold att
  by_cases h : k < xs.length
  · rw [if_pos h, List.getElem?_append_left h]
  · rw [if_neg h, List.getElem?_append_right (by omega)]
    by_cases h1 : k = xs.length
    · subst h1; simp
    · rw [if_neg h1]
      have : 1 ≤ k - xs.length := by omega
      simp [List.getElem?_eq_none, this]
theorem getI_neg {α : Type} {xs : List α} {j : Int} {Q : α → Prop} (h0 : j < 0) (h1 : -(xs.length : Int) ≤ j) (h : ∀ (h : (j + xs.length).toNat < xs.length), Q (xs[(j + xs.length).toNat])) : OW (getI xs j) Q := by
  have e : getI xs j = some (xs[(j + xs.length).toNat]'(by omega)) := by
    unfold getI ixI
    rw [if_neg (by omega), if_pos h1]
    simp only [Option.bind_some]
    exact List.getElem?_eq_getElem (by omega)
  rw [e, OW_some]
  exact h (by omega)
theorem flat_nD (xs : List Nat) : (xs.map nD).all D.flat = true := by simp [D.flat]
theorem o_inN (a : Nat) (xs : List Nat) {P : D → Prop} : OW (gIn (nD a) (.lst (xs.map nD))) P ↔ P (.bl (decide (a ∈ xs))) := by
  unfold gIn
  have e1 : D.flat (nD a) = true := rfl
  simp only [e1, flat_nD, Bool.and_self, Bool.true_or, if_true, OW_some]
  have e2 : ((xs.map nD).any fun y => D.eqv y (nD a)) = decide (a ∈ xs) := by
    rw [Bool.eq_iff_iff]
    simp [D.eqv]
    constructor
    · rintro ⟨x, hx, e⟩
      have : x = a := by omega
      exact this ▸ hx
    · intro h
      exact ⟨a, h, rfl⟩
  rw [e2]
theorem o_inT (a : Nat) (xs : List Nat) {P : D → Prop} : OW (gIn (nD a) (.tup (xs.map nD))) P ↔ P (.bl (decide (a ∈ xs))) := by
  unfold gIn
  have e1 : D.flat (nD a) = true := rfl
  simp only [e1, flat_nD, Bool.and_self, if_true, OW_some]
  have e2 : ((xs.map nD).any fun y => D.eqv y (nD a)) = decide (a ∈ xs) := by
    rw [Bool.eq_iff_iff]
    simp [D.eqv]
    constructor
    · rintro ⟨x, hx, e⟩
      have : x = a := by omega
      exact this ▸ hx
    · intro h
      exact ⟨a, h, rfl⟩
  rw [e2]
theorem shp_nD (us : List Nat) : D.shp (.lst (us.map nD)) = true := by
  have h1 : ∀ us : List Nat, D.plAll (us.map nD) = true := by
    intro us
    induction us with
    | nil => rfl
    | cons x r ih => simp [D.plAll, D.pl, ih]
  have h2 : ∀ us : List Nat, D.depAll (us.map nD) = 0 := by
    intro us
    induction us with
    | nil => rfl
    | cons x r ih => simp [D.depAll, D.dep, ih]
  simp [D.shp, D.pl, D.dep, h1, h2]
theorem eqv_nD (us : List Nat) : D.eqv (.lst (us.map nD)) (.lst (us.map nD)) = true := by
  have h1 : ∀ us : List Nat, D.eqvAll (us.map nD) (us.map nD) = true := by
    intro us
    induction us with
    | nil => rfl
    | cons x r ih => simp [D.eqvAll, D.eqv, ih]
  simp [D.eqv, h1]
theorem intsD_nD : ∀ xs : List Nat, intsD (xs.map nD) = some (xs.map fun x : Nat => (x : Int))
  | [] => rfl
  | x :: xs => by
    show (intsD (xs.map nD)).map (_ :: ·) = _
    rw [intsD_nD xs]
    rfl
theorem o_max1N (h : Nat) (r : List Nat) {P : D → Prop} : OW (gMax1 [.lst (nD h :: r.map nD)]) P ↔ P (.int (maxI h (r.map fun x : Nat => (x : Int)))) := by
  have e : intsD (nD h :: r.map nD) = some ((h : Int) :: r.map fun x : Nat => (x : Int)) := intsD_nD (h :: r)
  unfold gMax1
  simp only [e, Option.bind_some, OW_some]
@[simp] theorem o_inS (c : Nat) (y : Str) {P : D → Prop} : OW (gIn (.str (sgnS c)) (.str y)) P ↔ P (.bl (decide (c ∈ y.cps.toList))) := by
  unfold gIn sgnS
  simp only [OW_some]
@[simp] theorem o_notInS (c : Nat) (y : Str) {P : D → Prop} : OW (gNotIn (.str (sgnS c)) (.str y)) P ↔ P (.bl (!decide (c ∈ y.cps.toList))) := by
  unfold gNotIn gIn sgnS
  simp only [Option.bind_some, gNot, OW_some]
/-- a room or None -/
def uD : Option Nat → D
  | none => .non
  | some u => nD u
theorem isNon_uD (u : Option Nat) : D.isNon (uD u) = u.isNone := by cases u <;> rfl
/-- depths as they may stand -/
structure Tree (ds : List Nat) : Prop where
  pos : 0 < ds.length
  le : ds.length ≤ 40
  zero : att ds 0 = 0
  one : ∀ k, 0 < k → k < ds.length → 1 ≤ att ds k
  step : ∀ k, k + 1 < ds.length → att ds (k + 1) ≤ att ds k + 1
theorem Tree.app {ds : List Nat} (T : Tree ds) {x : Nat} (h1 : 1 ≤ x) (h2 : x ≤ att ds (ds.length - 1) + 1) (h3 : ds.length < 40) : Tree (ds ++ [x]) := by
  have hp := T.pos
  refine ⟨by simp, by simp; omega, ?_, ?_, ?_⟩
  · rw [att_app, if_pos hp, T.zero]
  · intro k hk hl
    simp at hl
    rw [att_app]
    by_cases h : k < ds.length
    · rw [if_pos h]; exact T.one k hk h
    · rw [if_neg h, if_pos (by omega)]; exact h1
  · intro k hl
    simp at hl
    rw [att_app, att_app]
    by_cases h : k + 1 < ds.length
    · rw [if_pos h, if_pos (by omega)]; exact T.step k h
    · rw [if_neg h, if_pos (by omega), if_pos (by omega)]
      have : k = ds.length - 1 := by omega
      rw [this]; exact h2
theorem Tree.single : Tree [0] := ⟨by simp, by simp, rfl, fun k h1 h2 => by simp at h2; omega, fun k h => by simp at h⟩
end Law

/-! TxtL: texts as lists of codes. -/
namespace Law
open PySem Vx
/-- the text of the codes -/
@[irreducible] def tx (l : List Nat) : Str := ⟨l.toArray⟩
@[simp] theorem tx_cps (l : List Nat) : (tx l).cps.toList = l := by with_unfolding_all rfl
@[simp] theorem tx_size (l : List Nat) : (tx l).cps.size = l.length := by with_unfolding_all simp [tx]
theorem tx_of (x : Str) : tx x.cps.toList = x := by with_unfolding_all exact TL.mk_tl x
theorem tx_lit (s : String) : Str.ofString s = tx (s.toList.map Char.toNat) := by rw [← ofS, tx_of]
@[simp] theorem tx_len (l : List Nat) : (tx l).length = l.length := by
  have : (tx l).length = (tx l).cps.toList.length := TL.len_tl _
  rw [this, tx_cps]
@[simp] theorem tx_app (l m : List Nat) : tx l ++ tx m = tx (l ++ m) := by
  refine TL.ext_tl ?_
  rw [TL.tl_append]
  show (tx l).cps.toList ++ (tx m).cps.toList = (tx (l ++ m)).cps.toList
  simp only [tx_cps]
@[simp] theorem tx_inj (l m : List Nat) : tx l = tx m ↔ l = m := by
  constructor
  · intro h
    have := congrArg (fun x : Str => x.cps.toList) h
    simpa only [tx_cps] using this
  · intro h; rw [h]
@[simp] theorem tx_cut (l : List Nat) (i j : Option Int) : cutS (tx l) i j = tx (cutD l i j) := by
  unfold cutS
  rw [tx_cps]
  with_unfolding_all rfl
@[simp] theorem tx_sgn (c : Nat) : sgnS c = tx [c] := by with_unfolding_all rfl
theorem tx_mk (c : Nat) : (⟨#[c]⟩ : Str) = tx [c] := by with_unfolding_all rfl
theorem tx_signs (l : List Nat) : signsD (tx l) = l.map fun c => .str (tx [c]) := by
  unfold signsD
  rw [tx_cps]
  simp only [tx_mk]
theorem tx_beq (l m : List Nat) : (tx l == tx m) = decide (l = m) := by
  by_cases h : l = m
  · subst h; simp
  · simp [h]
@[simp] theorem o_eqX {P : D → Prop} (l m : List Nat) : OW (gEq (.str (tx l)) (.str (tx m))) P ↔ P (.bl (decide (l = m))) := by rw [o_eqS, tx_beq]
@[simp] theorem o_neX {P : D → Prop} (l m : List Nat) : OW (gNe (.str (tx l)) (.str (tx m))) P ↔ P (.bl (!decide (l = m))) := by rw [o_neS, tx_beq]
@[simp] theorem o_ixX {P : D → Prop} (l : List Nat) (i : Int) : OW (gIx (.str (tx l)) (.int i)) P ↔ l.length ≤ 16777216 ∧ OW (getI l i) (fun c => P (.str (tx [c]))) := by
  rw [o_ixS, tx_len, tx_cps]; simp only [tx_sgn]
theorem tx_starts (l : List Nat) (c : Nat) : Txt.startswith (tx l) (tx [c]) = decide (l.head? = some c) := by
  have h := StrLaws.subAt_one (tx l) c 0
  rw [tx_mk, tx_cps, tx_len, tx_len] at h
  unfold Txt.startswith
  rw [tx_len, tx_len, List.head?_eq_getElem?]
  by_cases h2 : l[0]? = some c
  · have h1 := h.mpr h2
    simp [h1.1, h1.2, h2]
    exact h1.1
  · have h1 : ¬ (0 + [c].length ≤ l.length ∧ Builtin.Str.subAt (tx l) (tx [c]) 0 = true) := fun q => h2 (h.mp q)
    simp only [h2, decide_false]
    simpa using h1
@[simp] theorem o_starts {P : D → Prop} (l : List Nat) (c : Nat) : OW (gStarts (tx l) (.str (tx [c]))) P ↔ P (.bl (decide (l.head? = some c))) := by
  rw [← tx_starts]; with_unfolding_all exact Iff.rfl
open NumText in
@[simp] theorem o_abs {P : D → Prop} (i : Int) : OW (gAbs [.int i]) P ↔ P (.int (i.natAbs : Nat)) := by
  have : (if i < 0 then -i else i) = ((i.natAbs : Nat) : Int) := by split <;> omega
  rw [← this]; with_unfolding_all exact Iff.rfl
/-- a number's figures -/
def figL (i : Int) : List Nat := if i < 0 then 45 :: TL.numL i.natAbs else TL.numL i.natAbs
theorem str_int (i : Int) : Str.ofString (toString i) = tx (figL i) := by
  have e : ∀ x y : Str, x.cps.toList = y.cps.toList → x = y := fun x y h => TL.ext_tl h
  refine e _ _ ?_
  rw [tx_cps]
  unfold figL
  by_cases h : i < 0
  · obtain ⟨n, rfl⟩ : ∃ n : Nat, i = Int.negSucc n := ⟨(-i - 1).toNat, by omega⟩
    rw [if_pos h]
    have e1 : toString (Int.negSucc n) = "-" ++ toString ((n + 1 : Nat) : Int) := rfl
    rw [e1, ofS, String.toList_append, List.map_append, ← ofS (toString ((n + 1 : Nat) : Int))]
    have e2 := TL.tl_num (n + 1)
    show _ ++ TL.tl (Str.ofString (toString ((n + 1 : Nat) : Int))) = _
    rw [e2]
    rfl
  · rw [if_neg h]
    obtain ⟨n, rfl⟩ := Int.eq_ofNat_of_zero_le (by omega : 0 ≤ i)
    exact TL.tl_num n
theorem o_strI {P : D → Prop} (i : Int) : OW (gStrI [.int i]) P ↔ i.natAbs.log2 < 1920 ∧ P (.str (tx (figL i))) := by
  rw [← str_int]
  unfold gStrI
  simp only [OW_ite, decide_eq_true_eq]
theorem log2_small {n k : Nat} (h : n < 10 ^ k) (hk : k ≤ 500) : n.log2 < 1920 := by
  by_cases h0 : n = 0
  · subst h0; decide
  · rw [Nat.log2_lt h0]
    have h1 : (10 : Nat) ^ k ≤ 10 ^ 500 := Nat.pow_le_pow_right (by decide) hk
    have h2 : (10 : Nat) ^ 500 < 2 ^ 1920 := by decide +kernel
    omega
/-- what int(text) reads -/
def fgL (l : List Nat) : List Nat := if l.head? = some 45 then l.drop 1 else l
def numOk (l : List Nat) : Prop := fgL l ≠ [] ∧ NumText.AllDigits (fgL l) ∧ ¬ ((fgL l).head? = some 48 ∧ l ≠ [48])
def numV (l : List Nat) : Int := if l.head? = some 45 then -((NumText.digitsVal (fgL l) : Nat) : Int) else ((NumText.digitsVal (fgL l) : Nat) : Int)
theorem intText_numV {l : List Nat} (h : numOk l) (hl : l.length ≤ 4300) : intText? (tx l) = some (numV l) := by
  obtain ⟨h1, h2, _⟩ := h
  unfold numV
  unfold fgL at h1 h2 ⊢
  by_cases hh : l.head? = some 45
  · simp only [hh, if_true] at h1 h2 ⊢
    cases l with
    | nil => cases hh
    | cons c r =>
      cases hh
      exact intText_neg (by rw [tx_cps]; rfl) h2 h1 (by rw [tx_len]; exact hl)
  · simp only [hh, if_false] at h1 h2 ⊢
    have := intText_digits (x := tx l) (by rw [tx_cps]; exact h2) (by rw [tx_cps]; exact h1) (by rw [tx_len]; exact hl)
    rw [this, tx_cps]
theorem o_intT {P : D → Prop} {l : List Nat} (h : numOk l) (hl : l.length ≤ 640) (hp : P (.int (numV l))) : OW (gIntT [.str (tx l)]) P := by
  unfold gIntT
  simp only [tx_len, hl, decide_true, if_true, intText_numV h (by omega), Option.map_some, OW_some]
  exact hp
theorem fig_mem (c : Nat) : c ∈ [48, 49, 50, 51, 52, 53, 54, 55, 56, 57] ↔ 48 ≤ c ∧ c ≤ 57 := by
  simp; omega
theorem gIn_X (c : Nat) (l : List Nat) : gIn (.str (tx [c])) (.str (tx l)) = some (.bl (decide (c ∈ l))) := by
  unfold gIn
  simp only [tx_cps]
@[simp] theorem o_inX {P : D → Prop} (c : Nat) (l : List Nat) : OW (gIn (.str (tx [c])) (.str (tx l))) P ↔ P (.bl (decide (c ∈ l))) := by
  rw [gIn_X, OW_some]
@[simp] theorem o_notInX {P : D → Prop} (c : Nat) (l : List Nat) : OW (gNotIn (.str (tx [c])) (.str (tx l))) P ↔ P (.bl (!decide (c ∈ l))) := by
  unfold gNotIn
  rw [gIn_X, Option.bind_some, o_not]
theorem foldl_arr0 : ∀ (k : Nat) (a x : Array Nat), ((List.replicate k x).foldl (· ++ ·) a).toList = a.toList ++ (List.replicate k x.toList).flatten
  | 0, a, x => by simp
  | k + 1, a, x => by
    rw [List.replicate_succ, List.foldl_cons, foldl_arr0 k (a ++ x) x, List.replicate_succ, List.flatten_cons, Array.toList_append, List.append_assoc]
theorem repT_list0 (x : Str) (k : Nat) : (repT x k).cps.toList = (List.replicate k x.cps.toList).flatten := by
  unfold repT
  rw [foldl_arr0]
  rfl
theorem repT_tx (l : List Nat) (k : Nat) : repT (tx l) k = tx (List.replicate k l).flatten := by
  refine TL.ext_tl ?_
  show (repT (tx l) k).cps.toList = (tx _).cps.toList
  rw [repT_list0, tx_cps, tx_cps]
theorem o_mulX {P : D → Prop} (l : List Nat) (k : Nat) (hk : k ≤ 1000) (hl : l.length ≤ 1000) : OW (gMulS (.str (tx l)) (.int (k : Int))) P ↔ P (.str (tx (List.replicate k l).flatten)) := by
  unfold gMulS
  have hm : l.length * k ≤ 1000 * 1000 := Nat.mul_le_mul hl hk
  simp only [Int.toNat_natCast, tx_len, repT_tx]
  rw [if_pos, OW_some]
  simp
  omega
end Law

/-! TxtW: words, joined and cut. -/
namespace Law
open PySem Vx
/-- a text as a value -/
def dT (w : List Nat) : D := .str (tx w)
@[simp] theorem dT_eq (w : List Nat) : dT w = .str (tx w) := rfl
/-- l cut at each c -/
def wds (c : Nat) (l : List Nat) : List (List Nat) := TL.spl [c] 0 [] l
theorem wds_cons {c : Nat} {p r : List Nat} (h : c ∉ p) : wds c (p ++ c :: r) = p :: wds c r := TL.spl_part1 (S := []) (acc := []) h
theorem wds_one {c : Nat} {p : List Nat} (h : c ∉ p) : wds c p = [p] := TL.spl_last1 (S := []) (acc := []) h
theorem wds_join {c : Nat} {ps : List (List Nat)} (hne : ps ≠ []) (h : ∀ p ∈ ps, c ∉ p) : wds c (TL.joinL [c] ps) = ps := TL.spl_join hne h
theorem joinL_cons (c : Nat) (p q : List Nat) (r : List (List Nat)) : TL.joinL [c] (p :: q :: r) = p ++ c :: TL.joinL [c] (q :: r) := rfl
theorem joinL_one (c : Nat) (p : List Nat) : TL.joinL [c] [p] = p := rfl
theorem map_tx {xs : List Str} {ys : List (List Nat)} (h : xs.map TL.tl = ys) : xs = ys.map tx := by
  subst h
  rw [List.map_map]
  have : (tx ∘ TL.tl) = id := by funext x; exact tx_of x
  rw [this, List.map_id]
theorem split_tx (l : List Nat) {c : Nat} (hc : c < 256) : Txt.split (tx l) (tx [c]) = (wds c l).map tx := by
  refine map_tx ?_
  have e : TL.tl (tx [c]) = [c] := tx_cps [c]
  have := TL.split_spl (tx l) (tx [c]) (by rw [e]; simp) (TL.kind_ok (by
    have : (tx [c]).cps = #[c] := by with_unfolding_all rfl
    rw [this]; simp [hc]))
  rw [this, e]
  show TL.spl [c] 0 [] (tx l).cps.toList = _
  rw [tx_cps]; rfl
theorem o_split {P : D → Prop} (l : List Nat) {c : Nat} (hc : c < 256) : OW (gSplit (tx l) (.str (tx [c]))) P ↔ l.length ≤ 16777214 ∧ P (.lst ((wds c l).map dT)) := by
  unfold gSplit
  simp only []
  rw [split_tx l hc, OW_ite, tx_len, tx_len, List.map_map]
  have e : (D.str ∘ tx) = dT := rfl
  rw [e]
  simp
theorem strsJ_T (ws : List (List Nat)) : strsJ (ws.map dT) = some (ws.map tx) := by
  induction ws with
  | nil => rfl
  | cons w ws ih =>
    show strsJ (.str (tx w) :: ws.map dT) = _
    simp only [strsJ, ih]
    rfl
theorem join_tx (c : Nat) (ws : List (List Nat)) : Txt.join (tx [c]) (ws.map tx) = tx (TL.joinL [c] ws) := by
  refine TL.ext_tl ?_
  rw [TL.join_eq, TL.tl_join]
  have e : TL.tl (tx [c]) = [c] := tx_cps [c]
  have e2 : TL.tl (tx (TL.joinL [c] ws)) = TL.joinL [c] ws := tx_cps _
  rw [e, e2, List.map_map]
  have : (TL.tl ∘ tx) = id := by funext x; exact tx_cps x
  rw [this, List.map_id]
theorem o_join {P : D → Prop} (c : Nat) (ws : List (List Nat)) : OW (gJoin (tx [c]) (.lst (ws.map dT))) P ↔ (ws.map List.length).sum + ws.length ≤ 16777216 ∧ P (.str (tx (TL.joinL [c] ws))) := by
  unfold gJoin
  simp only [strsJ_T, Option.bind_some, OW_ite, join_tx, szOk_i, tx_len, List.length_map, List.map_map]
  have e : (Str.length ∘ tx) = List.length := by funext l; exact tx_len l
  have e2 : ((fun x : Str => x.length) ∘ tx) = List.length := by funext l; exact tx_len l
  rw [e2]
  simp
theorem flat_T (ws : List (List Nat)) : (ws.map dT).all D.flat = true := by
  rw [List.all_eq_true]
  intro x hx
  obtain ⟨w, _, rfl⟩ := List.mem_map.mp hx
  rfl
theorem eqv_T (a b : List Nat) : D.eqv (dT a) (dT b) = decide (a = b) := by
  show D.eqv (.str (tx a)) (.str (tx b)) = _
  unfold D.eqv
  exact tx_beq a b
theorem gIn_T (w : List Nat) (ws : List (List Nat)) : gIn (.str (tx w)) (.lst (ws.map dT)) = some (.bl (decide (w ∈ ws))) := by
  unfold gIn
  have h1 : D.flat (.str (tx w)) = true := rfl
  simp only [h1, flat_T, Bool.and_self, Bool.true_or, if_true]
  congr 2
  rw [Bool.eq_iff_iff, List.any_eq_true, decide_eq_true_eq]
  constructor
  · rintro ⟨x, hx, he⟩
    obtain ⟨v, hv, rfl⟩ := List.mem_map.mp hx
    have := eqv_T v w
    rw [dT_eq w] at this
    rw [this] at he
    have := of_decide_eq_true he
    rw [← this]; exact hv
  · intro h
    refine ⟨dT w, List.mem_map.mpr ⟨w, h, rfl⟩, ?_⟩
    have := eqv_T w w
    rw [dT_eq w] at this ⊢
    rw [this]
    simp
@[simp] theorem o_inT' {P : D → Prop} (w : List Nat) (ws : List (List Nat)) : OW (gIn (.str (tx w)) (.lst (ws.map dT))) P ↔ P (.bl (decide (w ∈ ws))) := by
  rw [gIn_T, OW_some]
@[simp] theorem o_notInT' {P : D → Prop} (w : List Nat) (ws : List (List Nat)) : OW (gNotIn (.str (tx w)) (.lst (ws.map dT))) P ↔ P (.bl (!decide (w ∈ ws))) := by
  unfold gNotIn
  rw [gIn_T, Option.bind_some, o_not]
/-- the place of w -/
def plc (ws : List (List Nat)) (w : List Nat) : Option Nat := ws.findIdx? fun v => decide (v = w)
theorem plc_none {ws : List (List Nat)} {w : List Nat} : plc ws w = none ↔ w ∉ ws := by
  unfold plc
  rw [List.findIdx?_eq_none_iff]
  simp
  constructor
  · intro h hm; exact h w hm rfl
  · rintro h x hx rfl; exact h hx
theorem plc_lt {ws : List (List Nat)} {w : List Nat} {j : Nat} (h : plc ws w = some j) : j < ws.length ∧ ws[j]? = some w := by
  unfold plc at h
  obtain ⟨h1, h2, _⟩ := List.findIdx?_eq_some_iff_getElem.mp h
  exact ⟨h1, by rw [List.getElem?_eq_getElem h1, of_decide_eq_true h2]⟩
theorem plc_nodup {ws : List (List Nat)} {w : List Nat} {j : Nat} (hn : ws.Nodup) (h : ws[j]? = some w) : plc ws w = some j := by
  unfold plc
  obtain ⟨h1, h2⟩ := List.getElem?_eq_some_iff.mp h
  refine List.findIdx?_eq_some_iff_getElem.mpr ⟨h1, by simp [h2], fun i hi => ?_⟩
  simp
  intro q
  rw [← h2] at q
  have := (List.getElem_inj hn).mp q
  omega
theorem o_indexT {P : D → Prop} (w : List Nat) (ws : List (List Nat)) : OW (gIndexL (ws.map dT) (.str (tx w))) P ↔ OW (plc ws w) fun j => P (.int (j : Nat)) := by
  unfold gIndexL
  have h1 : D.flat (.str (tx w)) = true := rfl
  simp only [h1, flat_T, Bool.and_self, if_true, OW_map]
  have e : ((ws.map dT).findIdx? fun x => D.eqv x (.str (tx w))) = plc ws w := by
    unfold plc
    rw [List.findIdx?_map]
    congr 1
    funext v
    have := eqv_T v w
    rw [dT_eq w] at this
    exact this
  rw [e]
end Law

/-! WdL: words, numbers as texts: plain. -/
namespace Law
open PySem Vx
/-- a word: one to twelve small letters -/
def isWd (l : List Nat) : Bool := decide (1 ≤ l.length) && decide (l.length ≤ 12) && l.all fun c => decide (97 ≤ c ∧ c ≤ 122)
theorem isWd_iff (l : List Nat) : isWd l = true ↔ 1 ≤ l.length ∧ l.length ≤ 12 ∧ ∀ c ∈ l, 97 ≤ c ∧ c ≤ 122 := by
  unfold isWd
  simp [and_assoc]
theorem wd_free {w : List Nat} (h : isWd w = true) : 32 ∉ w ∧ 10 ∉ w := by
  obtain ⟨_, _, h3⟩ := (isWd_iff w).mp h
  exact ⟨fun hm => by have := h3 _ hm; omega, fun hm => by have := h3 _ hm; omega⟩
structure Bx where
  nm : List Nat
  sz : Int
  st : Int
def bxD (b : Bx) : D := .tup [dT b.nm, .int b.sz, .int b.st]
/-- a thing whose first item is its name -/
def thD (p : List Nat × List D) : D := .tup (dT p.1 :: p.2)
def wt (ws : List (List Nat)) (k : Nat) : List Nat := (ws[k]?).getD []
theorem spl_len (c : Nat) : ∀ (l acc : List Nat), ∀ w ∈ TL.spl [c] 0 acc l, w.length ≤ acc.length + l.length
  | [], acc, w, h => by rw [TL.spl_nil] at h; rw [List.mem_singleton.mp h]; simp
  | a :: r, acc, w, h => by
    by_cases hp : TL.pre [c] (a :: r) = true
    · rw [TL.spl_hit hp] at h
      rcases List.mem_cons.mp h with rfl | h
      · simp
      · have := spl_len c r [] w h
        simp at this ⊢; omega
    · rw [TL.spl_miss (by simpa using hp)] at h
      have := spl_len c r (acc ++ [a]) w h
      simp at this ⊢; omega
theorem wds_len {c : Nat} {l w : List Nat} (h : w ∈ wds c l) : w.length ≤ l.length := by
  have := spl_len c l [] w h
  simpa using this
theorem spl_ne (c : Nat) : ∀ (l acc : List Nat), TL.spl [c] 0 acc l ≠ []
  | [], acc => by rw [TL.spl_nil]; simp
  | a :: r, acc => by
    by_cases hp : TL.pre [c] (a :: r) = true
    · rw [TL.spl_hit hp]; simp
    · rw [TL.spl_miss (by simpa using hp)]; exact spl_ne c r _
theorem wds_pos (c : Nat) (l : List Nat) : 0 < (wds c l).length := List.length_pos_iff.mpr (spl_ne c l [])
def far : Int := 1000000000000000000000000000000
def szAt (bs : List Bx) (b : Nat) : Int := ((bs[b]?).map Bx.sz).getD 0
def nmAt (bs : List Bx) (b : Nat) : List Nat := ((bs[b]?).map Bx.nm).getD []
theorem far_log {v : Int} (h1 : -far ≤ v) (h2 : v ≤ far) : v.natAbs < 10 ^ 31 := by
  unfold far at h1 h2
  have : (10 : Nat) ^ 31 = 10000000000000000000000000000000 := by decide
  omega
theorem fig_len {v : Int} (h1 : -far ≤ v) (h2 : v ≤ far) : (figL v).length ≤ 32 := by
  have := TL.numL_len (by decide : 0 < 31) (far_log h1 h2)
  unfold figL
  split
  · rw [List.length_cons]; omega
  · omega
theorem fig_chars (v : Int) : ∀ c ∈ figL v, c = 45 ∨ (48 ≤ c ∧ c ≤ 57) := by
  intro c hc
  unfold figL at hc
  split at hc
  · rcases List.mem_cons.mp hc with h | h
    · exact .inl h
    · exact .inr (TL.numL_digits _ c h)
  · exact .inr (TL.numL_digits _ c hc)
theorem fig_free (v : Int) : 32 ∉ figL v ∧ 10 ∉ figL v := ⟨fun hm => by have := fig_chars v _ hm; omega, fun hm => by have := fig_chars v _ hm; omega⟩
open Classical in
/-- the number that a text is -/
noncomputable def num? (l : List Nat) : Option Int := if numOk l then some (numV l) else none
theorem numL_head {n : Nat} (h : 0 < n) : (TL.numL n).head? ≠ some 48 := by
  induction n using Nat.strongRecOn with
  | _ n ih =>
    by_cases h10 : n < 10
    · rw [TL.numL_lt h10]; simp; omega
    · rw [TL.numL_step (by omega)]
      have := ih (n / 10) (by omega) (by omega)
      rw [List.head?_append]
      cases e : (TL.numL (n / 10)).head? with
      | none => exact absurd (List.head?_eq_none_iff.mp e) (TL.numL_ne _)
      | some c => rw [e] at this; simpa using this
theorem num_fig (v : Int) : num? (figL v) = some v := by
  have hh : ∀ n : Nat, (TL.numL n).head? ≠ some 45 := by
    intro n q
    have : 45 ∈ TL.numL n := List.mem_of_mem_head? q
    have := TL.numL_digits n _ this
    omega
  have hok : numOk (figL v) ∧ numV (figL v) = v := by
    unfold figL
    by_cases h : v < 0
    · rw [if_pos h]
      have hf : fgL (45 :: TL.numL v.natAbs) = TL.numL v.natAbs := by simp [fgL]
      refine ⟨⟨by rw [hf]; exact TL.numL_ne _, by rw [hf]; exact TL.numL_digits _, ?_⟩, ?_⟩
      · rw [hf]
        exact fun q => numL_head (by omega) q.1
      · unfold numV
        rw [hf, if_pos (by simp), TL.numL_val]
        omega
    · rw [if_neg h]
      have hf : fgL (TL.numL v.natAbs) = TL.numL v.natAbs := by unfold fgL; rw [if_neg (hh _)]
      refine ⟨⟨by rw [hf]; exact TL.numL_ne _, by rw [hf]; exact TL.numL_digits _, ?_⟩, ?_⟩
      · rw [hf]
        rintro ⟨q1, q2⟩
        by_cases h0 : v.natAbs = 0
        · rw [h0, TL.numL_lt (by decide)] at q2; exact q2 rfl
        · exact numL_head (by omega) q1
      · unfold numV
        rw [hf, if_neg (hh _), TL.numL_val]
        omega
  unfold num?
  rw [if_pos hok.1, hok.2]
theorem join_len' (ws : List (List Nat)) : (TL.joinL [32] ws).length ≤ (ws.map List.length).sum + ws.length := by
  induction ws with
  | nil => simp [TL.joinL]
  | cons p r ih =>
    cases r with
    | nil => simp [TL.joinL]
    | cons q r =>
      rw [joinL_cons]
      simp at ih ⊢
      omega
theorem sum_len' {ws : List (List Nat)} {m : Nat} (h : ∀ w ∈ ws, w.length ≤ m) : (ws.map List.length).sum ≤ m * ws.length := by
  induction ws with
  | nil => simp
  | cons p r ih =>
    have h1 := h p List.mem_cons_self
    have h2 := ih fun w hw => h w (List.mem_cons_of_mem _ hw)
    simp only [List.map_cons, List.sum_cons, List.length_cons, Nat.mul_succ]
    omega
theorem joinL_app {a b : List (List Nat)} (ha : a ≠ []) (hb : b ≠ []) : TL.joinL [32] (a ++ b) = TL.joinL [32] a ++ 32 :: TL.joinL [32] b := by
  induction a with
  | nil => exact absurd rfl ha
  | cons p r ih =>
    cases r with
    | nil =>
      cases b with
      | nil => exact absurd rfl hb
      | cons q b => rfl
    | cons q r =>
      have := ih (by simp)
      show TL.joinL [32] (p :: q :: (r ++ b)) = _
      rw [joinL_cons, joinL_cons]
      show p ++ 32 :: TL.joinL [32] (q :: r ++ b) = _
      rw [this]
      simp
end Law

namespace Vx
open PySem
/-! the store: what must hold ahead -/
def boxW (d : D) (P : Ob → Prop) : Prop := match d with
  | .lst xs => P (.lst xs)
  | .dic k => P (.dic k)
  | _ => False
@[simp] theorem boxW_lst (xs : List D) (P : Ob → Prop) : boxW (.lst xs) P ↔ P (.lst xs) := Iff.rfl
@[simp] theorem boxW_dic (xs : List (D × D)) (P : Ob → Prop) : boxW (.dic xs) P ↔ P (.dic xs) := Iff.rfl
section
variable {P : D → Sto → Prop} {E : Ex → Sto → Prop} {N : Sl → Sto → Prop} {R : D → Sto → Prop} {B C' : Sl → Sto → Prop} {X : Ex → Sl → Sto → Prop} {l : Sl} {s : Sto}
@[simp] theorem w_mBox (f : FE) : (mBox f l s).S P E ↔ (f l s).S (fun d s => boxW d fun ob => P (.obj s.length) (s ++ [ob])) E := by
  unfold mBox; rw [w_bind]
  refine sat_congr fun d s => ?_
  cases d <;> simp [obOf, boxW]
@[simp] theorem w_mBinO (g : D → D → Option D) (a b : FE) : (mBinO g a b l s).S P E ↔ (a l s).S (fun x s => (b l s).S (fun y s => OW (g (drf s x) (drf s y)) fun z => P z s) E) E := by
  unfold mBinO; simp only [w_bind, w_lift]
@[simp] theorem w_mUnO (g : D → Option D) (a : FE) : (mUnO g a l s).S P E ↔ (a l s).S (fun x s => OW (g (drf s x)) fun z => P z s) E := by
  unfold mUnO; simp only [w_bind, w_lift]
@[simp] theorem w_mArgsO (g : List D → Option D) (a : FA) : (mArgsO g a l s).S P E ↔ (a l s).S (fun xs s => OW (g (xs.map (drf s))) fun z => P z s) E := by
  unfold mArgsO; simp only [w_bind, w_lift]
@[simp] theorem w_mCutO (a : FE) (lo hi : FO) : (mCutO a lo hi l s).S P E ↔ (a l s).S (fun x s => (lo l s).S (fun i s => (hi l s).S (fun j s => OW (gCut (drf s x) i j) (fun z => P z s)) E) E) E := by
  unfold mCutO; simp only [w_bind, w_lift]
@[simp] theorem w_mMethO (g : List D → List D → Option (D × List D)) (o : FE) (a : FA) : (mMethO g o a l s).S P E ↔ (o l s).S (fun x s => OW (lstAt s x) fun _ => (a l s).S (fun ys s => OW (lstAt s x) fun p => OW (g p.2 ys) fun q => P q.1 (s.set p.1 (.lst q.2))) E) E := by
  unfold mMethO; rw [w_bind]
  refine sat_congr fun x s => ?_
  cases e : lstAt s x with
  | none => simp
  | some w =>
    simp only [OW_some, w_bind]
    refine sat_congr fun ys s => ?_
    cases e : lstAt s x with
    | none => simp
    | some w =>
      obtain ⟨n, xs⟩ := w
      simp only [OW_some]
      cases g xs ys with
      | none => simp
      | some q => obtain ⟨y, zs⟩ := q; simp
@[simp] theorem W_sPutO (o a k : FE) : (sPutO o a k l s).W N R B C' X ↔ (a l s).S (fun y s => (o l s).S (fun x s => (k l s).S (fun z s => OW (lstAt s x) fun p => intW z fun i => OW (ixI p.2.length i) fun j => N l (s.set p.1 (.lst (p.2.set j y)))) (fun e s => X e l s)) (fun e s => X e l s)) (fun e s => X e l s) := by
  unfold sPutO
  simp only [W_fl]
  refine sat_congr fun y s => sat_congr fun x s => sat_congr fun z s => ?_
  cases e : lstAt s x with
  | none => simp
  | some w =>
    obtain ⟨n, xs⟩ := w
    simp only [OW_some]
    cases z with
    | int i =>
      simp only [intW]
      cases ixI xs.length i <;> simp
    | _ => simp [intW]
@[simp] theorem w_mFld (C : Nat) (f : Str) (o : FE) : (mFld C f o l s).S P E ↔ (o l s).S (fun x s => OW (insAt C s x) fun p => OW (p.2.lookup f) fun d => P d s) E := by
  unfold mFld; rw [w_bind]
  refine sat_congr fun x s => ?_
  cases e : insAt C s x with
  | none => simp
  | some w => obtain ⟨n, fs⟩ := w; simp
@[simp] theorem W_sFldD (C : Nat) (f : Str) (o a : FE) : (sFldD C f o a l s).W N R B C' X ↔ (a l s).S (fun y s => (o l s).S (fun x s => OW (insAt C s x) fun p => p.2.length < 1000 ∧ N l (s.set p.1 (.ins C (putFD f y p.2)))) (fun e s => X e l s)) (fun e s => X e l s) := by
  unfold sFldD
  simp only [W_fl]
  refine sat_congr fun y s => sat_congr fun x s => ?_
  cases e : insAt C s x with
  | none => simp
  | some w =>
    obtain ⟨n, fs⟩ := w
    simp only [OW_some]
    by_cases h : fs.length < 1000 <;> simp [h]
@[simp] theorem w_mMake (C : Nat) (m : List D → Sto → Vx.R D) (a : FA) : (mMake C m a l s).S P E ↔ (a l s).S (fun xs s => (m (.obj s.length :: xs) (s ++ [.ins C []])).S (fun d s' => d = .non ∧ P (.obj s.length) s') NoE) E := by
  unfold mMake; rw [w_bind]
  refine sat_congr fun xs s => ?_
  rw [w_bind, w_nox]
  refine sat_congr fun d s' => ?_
  cases d <;> simp
def noAt (f : Str) (fs : List (Str × D)) : Prop := fs.lookup f = none
@[simp] theorem noAt_nil (f : Str) : noAt f [] ↔ True := by simp [noAt]
@[simp] theorem noAt_cons (f g : Str) (v : D) (r : List (Str × D)) : noAt f ((g, v) :: r) ↔ f ≠ g ∧ noAt f r := by
  unfold noAt
  rw [List.lookup_cons]
  by_cases h : f = g
  · subst h; simp
  · have : (f == g) = false := by simpa using h
    rw [this]
    exact ⟨fun q => ⟨h, q⟩, fun q => q.2⟩
@[simp] theorem w_mMeth (C : Nat) (nm : Str) (m : List D → Sto → Vx.R D) (o : FE) (a : FA) : (mMeth C nm m o a l s).S P E ↔ (o l s).S (fun x s => OW (insAt C s x) fun p => noAt nm p.2 ∧ (a l s).S (fun xs s => (m (x :: xs) s).S P NoE) E) E := by
  unfold mMeth; rw [w_bind]
  refine sat_congr fun x s => ?_
  cases e : insAt C s x with
  | none => simp
  | some w =>
    obtain ⟨n, fs⟩ := w
    simp only [OW_some]
    unfold noAt
    cases h : fs.lookup nm <;> simp
@[simp] theorem w_mMethF (C : Nat) (nm : Str) (m : List D → Sto → Vx.R D) (o : FE) (a : FA) : (mMethF C nm m o a l s).S P E ↔ (mMeth C nm m o a l s).S (fun d s => d.isMut = true ∧ P d s) E := by
  unfold mMethF; rw [w_bind]
  refine sat_congr fun d s => ?_
  by_cases h : d.isMut = true <;> simp [h]
end
@[simp] theorem drf_int (s : Sto) (i : Int) : drf s (.int i) = .int i := rfl
@[simp] theorem drf_non (s : Sto) : drf s .non = .non := rfl
@[simp] theorem drf_bl (s : Sto) (i : Bool) : drf s (.bl i) = .bl i := rfl
@[simp] theorem drf_str (s : Sto) (i : Str) : drf s (.str i) = .str i := rfl
@[simp] theorem drf_tup (s : Sto) (i : List D) : drf s (.tup i) = .tup i := rfl
@[simp] theorem drf_lst (s : Sto) (i : List D) : drf s (.lst i) = .lst i := rfl
theorem drf_o {s : Sto} {n : Nat} {xs : List D} (h : s[n]? = some (.lst xs)) : drf s (.obj n) = .lst xs := by unfold drf; simp only [h]
theorem lstAt_o {s : Sto} {n : Nat} {xs : List D} (h : s[n]? = some (.lst xs)) : lstAt s (.obj n) = some (n, xs) := by unfold lstAt; simp only [h]
theorem insAt_o {s : Sto} {n C : Nat} {fs : List (Str × D)} (h : s[n]? = some (.ins C fs)) : insAt C s (.obj n) = some (n, fs) := by unfold insAt; simp only [h, if_true]
@[simp] theorem lookup_c (f g : Str) (v : D) (r : List (Str × D)) : List.lookup f ((g, v) :: r) = if f = g then some v else List.lookup f r := by
  rw [List.lookup_cons]
  by_cases h : f = g
  · subst h; simp
  · have : (f == g) = false := by simpa using h
    rw [this, if_neg h]
@[simp] theorem putFD_nil (f : Str) (v : D) : putFD f v [] = [(f, v)] := rfl
@[simp] theorem putFD_cons (f g : Str) (v w : D) (r : List (Str × D)) : putFD f v ((g, w) :: r) = if g = f then (g, v) :: r else (g, w) :: putFD f v r := rfl
@[simp] theorem gAppend_1 (xs : List D) (y : D) (P : D × List D → Prop) : OW (gAppend xs [y]) P ↔ xs.length < 16777216 ∧ P (.non, xs ++ [y]) := by
  unfold gAppend; simp only [OW_ite]
theorem set_same {α : Type} {s : List α} {j : Nat} {x : α} (h : s[j]? = some x) : s.set j x = s := by
  obtain ⟨hl, rfl⟩ := List.getElem?_eq_some_iff.mp h
  exact List.set_getElem_self hl
end Vx
namespace Vx
open PySem
section
variable {s : Sto} {n k C : Nat} {xs : List D} {ob : Ob}
theorem drf_set_self (h : n < s.length) : drf (s.set n (.lst xs)) (.obj n) = .lst xs := drf_o (by rw [List.getElem?_set, if_pos rfl, if_pos h])
theorem drf_set_ne (h : n ≠ k) : drf (s.set n ob) (.obj k) = drf s (.obj k) := by unfold drf; simp only [List.getElem?_set_ne h]
theorem lstAt_set_self (h : n < s.length) : lstAt (s.set n (.lst xs)) (.obj n) = some (n, xs) := lstAt_o (by rw [List.getElem?_set, if_pos rfl, if_pos h])
theorem lstAt_set_ne (h : n ≠ k) : lstAt (s.set n ob) (.obj k) = lstAt s (.obj k) := by unfold lstAt; simp only [List.getElem?_set_ne h]
theorem insAt_set_ne (h : n ≠ k) : insAt C (s.set n ob) (.obj k) = insAt C s (.obj k) := by unfold insAt; simp only [List.getElem?_set_ne h]
end
theorem ixI_nat {n b : Nat} (h : b < n) : ixI n (b : Int) = some b := by
  unfold ixI
  rw [if_pos (by omega), if_pos (by omega)]
  simp
end Vx

namespace Vx
open PySem
/-! loops and comprehensions over a list of the store, + of such lists -/
@[simp] theorem W_sForO {N : Sl → Sto → Prop} {R : D → Sto → Prop} {B C : Sl → Sto → Prop} {X : Ex → Sl → Sto → Prop} {l : Sl} {s : Sto} (o : FE) (g : D → Sl → Option Sl) (b : FS) : (sForO o g b l s).W N R B C X ↔ (o l s).S (fun x s => (forO g b x bigN 0 l s).W N R B C X) (fun e s => X e l s) := by
  unfold sForO; rw [W_fl]
@[simp] theorem w_mCompO {P : D → Sto → Prop} {E : Ex → Sto → Prop} {l : Sl} {s : Sto} (o : FE) (g : D → Sl → Option Sl) (t : FT) (e : FE) (vs : List Nat) : (mCompO o g t e vs l s).S P E ↔ (o l s).S (fun x s => (compO g t e (wipeD l vs) x bigN 0 [] s).S P E) E := by
  unfold mCompO; rw [w_bind]
/-- the list stays as it is -/
theorem W_forO {α : Type} {g : D → Sl → Option Sl} {b : FS} {R : D → Sto → Prop} {N B C : Sl → Sto → Prop} {X : Ex → Sl → Sto → Prop} {x : D} {m : Nat} (enc : α → D) (as : List α) (I : List α → Sl → Sto → Prop) {l : Sl} {s : Sto} (hl : as.length ≤ 5000000)
    (hx : ∀ dn l s, I dn l s → lstAt s x = some (m, as.map enc))
    (h0 : I [] l s)
    (step : ∀ (dn : List α) (y : α) (rest : List α) (l : Sl) (s : Sto), as = dn ++ y :: rest → I dn l s → OW (g (enc y) l) fun l1 => (b l1 s).W (I (dn ++ [y])) R N (I (dn ++ [y])) X)
    (fin : ∀ (l : Sl) (s : Sto), I as l s → N l s) : (forO g b x bigN 0 l s).W N R B C X := by
  have key : ∀ (n i : Nat) (l : Sl) (s : Sto), i ≤ as.length → as.length - i < n → I (as.take i) l s → (forO g b x n i l s).W N R B C X := by
    intro n
    induction n with
    | zero => intro i _ _ _ h; omega
    | succ n ih =>
      intro i l s hi hn hI
      unfold forO
      rw [hx _ _ _ hI]
      by_cases hlt : i < as.length
      · have e1 : (as.map enc)[i]? = some (enc as[i]) := by rw [List.getElem?_map, List.getElem?_eq_getElem hlt]; rfl
        simp only [e1]
        have ed : as = as.take i ++ as[i] :: as.drop (i + 1) := by
          conv => lhs; rw [← List.take_append_drop i as, List.drop_eq_getElem_cons hlt]
        have e2 : as.take i ++ [as[i]] = as.take (i + 1) := by
          rw [List.take_add_one, List.getElem?_eq_getElem hlt]; rfl
        obtain ⟨l1, hg, hb⟩ := (OW_iff _ _).mp (step _ _ _ l s ed hI)
        rw [e2] at hb
        simp only [hg]
        cases hbb : b l1 s with
        | nx l2 s2 =>
          rw [hbb] at hb
          simp only [W_nx] at hb ⊢
          exact ih (i + 1) l2 s2 (by omega) (by omega) hb
        | ct l2 s2 =>
          rw [hbb] at hb
          have hb : I (as.take (i + 1)) l2 s2 := by with_unfolding_all exact hb
          exact ih (i + 1) l2 s2 (by omega) (by omega) hb
        | bk l2 s2 =>
          rw [hbb] at hb
          have hb : N l2 s2 := by with_unfolding_all exact hb
          simp only [W_nx]
          exact hb
        | rt d2 s2 =>
          rw [hbb] at hb
          simp only [W_rt] at hb ⊢
          exact hb
        | ex e l2 s2 =>
          rw [hbb] at hb
          with_unfolding_all exact hb
        | no =>
          rw [hbb] at hb
          simp only [W_no] at hb
      · have e1 : (as.map enc)[i]? = none := by rw [List.getElem?_eq_none_iff]; simp; omega
        simp only [e1]
        rw [List.take_of_length_le (by omega)] at hI
        rw [W_nx]
        exact fin l s hI
  exact key bigN 0 l s (by omega) (by unfold bigN; omega) h0
theorem W_compOG {α : Type} {g : D → Sl → Option Sl} {t : FT} {e : FE} {l : Sl} {s : Sto} {P : D → Sto → Prop} {E : Ex → Sto → Prop} {x : D} {m : Nat} (as : List α) (enc f : α → D) (p : α → Bool) (hl : as.length ≤ 5000000) (hx : lstAt s x = some (m, as.map enc))
    (h : ∀ a ∈ as, OW (g (enc a) l) fun l1 => (t l1 s).S (fun b s' => s = s' ∧ b = p a ∧ (p a = true → (e l1 s).S (fun y s' => s = s' ∧ y = f a) NoE)) NoE)
    (hP : P (.lst ((as.filter p).map f)) s) : (compO g t e l x bigN 0 [] s).S P E := by
  have key : ∀ (n i : Nat), i ≤ as.length → as.length - i < n → (compO g t e l x n i (((as.take i).filter p).map f) s).S P E := by
    intro n
    induction n with
    | zero => intro i _ h; omega
    | succ n ih =>
      intro i hi hn
      unfold compO
      rw [hx]
      by_cases hlt : i < as.length
      · have e1 : (as.map enc)[i]? = some (enc as[i]) := by rw [List.getElem?_map, List.getElem?_eq_getElem hlt]; rfl
        simp only [e1]
        obtain ⟨l1, hg, hs⟩ := (OW_iff _ _).mp (h as[i] (List.getElem_mem _))
        simp only [hg]
        have ht : ∃ b s', t l1 s = .ok b s' ∧ s = s' ∧ b = p as[i] ∧ (p as[i] = true → (e l1 s).S (fun y s' => s = s' ∧ y = f as[i]) NoE) := by
          cases q : t l1 s with
          | ok b s' => rw [q] at hs; exact ⟨b, s', rfl, by simpa using hs⟩
          | ex b s' => rw [q] at hs; rw [w_ex] at hs; exact False.elim hs
          | no => rw [q] at hs; simp at hs
        obtain ⟨b, s', ht, rfl, rfl, he⟩ := ht
        have e3 : as.take (i + 1) = as.take i ++ [as[i]] := by
          rw [List.take_add_one, List.getElem?_eq_getElem hlt]; rfl
        have ih := ih (i + 1) (by omega) (by omega)
        rw [e3, List.filter_append, List.map_append] at ih
        rw [w_bind, w_nox, ht, w_ok]
        cases hp : p as[i] with
        | false =>
          rw [if_neg (by decide)]
          simp only [List.filter_cons, hp, List.filter_nil] at ih
          simpa using ih
        | true =>
          rw [if_pos rfl]
          obtain ⟨y, s', h1, rfl, rfl⟩ := (he hp).ok
          have hz : (((as.take i).filter p).map f).length < 16777216 := by
            have := List.length_filter_le p (as.take i)
            rw [List.length_map]
            rw [List.length_take] at this
            omega
          rw [w_bind, w_nox, h1, w_ok, if_pos hz]
          simp only [List.filter_cons, hp, List.filter_nil, if_true, List.map_cons, List.map_nil] at ih
          exact ih
      · have e1 : (as.map enc)[i]? = none := by rw [List.getElem?_eq_none_iff]; simp; omega
        simp only [e1]
        rw [List.take_of_length_le (by omega), w_ok]
        exact hP
  have := key bigN 0 (by omega) (by unfold bigN; omega)
  simpa using this
end Vx

namespace Vx
open PySem
/-! methods that raise, suites that raise, lstrip, index: what must hold ahead -/
section
variable {P : D → Sto → Prop} {E : Ex → Sto → Prop} {N : Sl → Sto → Prop} {R : D → Sto → Prop} {B C' : Sl → Sto → Prop} {X : Ex → Sl → Sto → Prop} {l : Sl} {s : Sto}
@[simp] theorem w_mMethX (C : Nat) (nm : Str) (m : List D → Sto → Vx.R D) (o : FE) (a : FA) : (mMethX C nm m o a l s).S P E ↔ (o l s).S (fun x s => OW (insAt C s x) fun p => noAt nm p.2 ∧ (a l s).S (fun xs s => (m (x :: xs) s).S P E) E) E := by
  unfold mMethX; rw [w_bind]
  refine sat_congr fun x s => ?_
  cases e : insAt C s x with
  | none => simp
  | some w =>
    obtain ⟨n, fs⟩ := w
    simp only [OW_some]
    unfold noAt
    cases h : fs.lookup nm <;> simp
theorem W_sTryX (ca : Nat → Nat) (tab : Nat → Option Bool) (fb fs : FS) : (sTryX ca tab fb fs l s).W N R B C' X ↔ (fb l s).W N R B C' (fun x l' s' => OW (hit ca tab x) fun b => if b = true then (fs l' s').W N R B C' X else X x l' s') := by
  unfold sTryX
  cases fb l s with
  | ex x l' s' =>
    simp only [W_exl]
    cases hit ca tab x with
    | none => simp only [W_no, OW_none]
    | some b => cases b <;> simp
  | _ => with_unfolding_all exact Iff.rfl
@[simp] theorem W_sRaiseF (cn n : Nat) (f : Str) (a : FE) : (sRaiseF cn n f a l s).W N R B C' X ↔ (a l s).S (fun d s => X ⟨cn, n, [(f, d)]⟩ l s) (fun e s => X e l s) := by
  unfold sRaiseF
  rw [W_fl]
  simp only [W_exl]
@[simp] theorem w_mIndexO (a b : FE) : (mIndexO a b l s).S P E ↔ (a l s).S (fun x s => lstW (drf s x) fun _ => (b l s).S (fun y s => lstW (drf s x) fun xs => OW (gIndexL xs y) fun d => P d s) E) E := by
  unfold mIndexO; rw [w_bind]
  refine sat_congr fun x s => ?_
  cases e : drf s x with
  | lst xs0 =>
    simp only [lstW_lst, w_bind]
    refine sat_congr fun y s => ?_
    cases e2 : drf s x with
    | lst xs => simp only [lstW_lst, w_lift]
    | _ => with_unfolding_all exact Iff.rfl
  | _ => with_unfolding_all exact Iff.rfl
end
theorem w_noneE {r : Vx.R D} {P : D → Sto → Prop} {E E' : Ex → Sto → Prop} (h : r.S P E) (hE : ∀ e s, E e s → E' e s) : r.S P E' := h.imp (fun _ _ z => z) hE
end Vx
namespace Law
open PySem Vx
theorem lst_strip (l : List Nat) : Txt.lstripChars (tx l) (tx [32]) = tx (l.dropWhile fun c => decide (c = 32)) := by
  have e : (tx [32]).cps.contains = fun c => decide (c = 32) := by
    funext c
    rw [← Array.contains_toList, tx_cps]
    simp [List.contains_cons, beq_iff_eq]
  unfold Txt.lstripChars
  rw [PyProof.Rows.stripBy_eq]
  unfold stripLo stripHi
  simp only [if_true, Bool.false_eq_true, if_false, tx_cps, e, tx_len]
  rw [← tx_of (Builtin.Str.strSub _ _ _)]
  congr 1
  unfold Builtin.Str.strSub
  have e3 : ∀ (goes : Nat → Bool) (l : List Nat), l.drop (l.takeWhile goes).length = l.dropWhile goes := by
    intro goes l
    induction l with
    | nil => rfl
    | cons a l ih =>
      by_cases h : goes a = true
      · simp [List.takeWhile_cons, List.dropWhile_cons, h, ih]
      · simp [List.takeWhile_cons, List.dropWhile_cons, h]
  rw [← e3]
  simp [List.take_of_length_le]
end Law
namespace Law
open PySem Vx
theorem o_lstrip {P : D → Prop} (l : List Nat) : OW (gLstrip (tx l) (.str (tx [32]))) P ↔ l.length ≤ 16777216 ∧ P (.str (tx (l.dropWhile fun c => decide (c = 32)))) := by
  have e : gLstrip (tx l) (.str (tx [32])) = if szOk (tx l).length = true then some (.str (Txt.lstripChars (tx l) (tx [32]))) else none := rfl
  rw [e, lst_strip, tx_len]
  by_cases h : l.length ≤ 16777216 <;> simp [h]
end Law

/-! NumR: read_number. -/
namespace Law
open PySem Vx
theorem x_min : Str.ofString "-" = tx [45] := by rw [tx_lit]; rfl
theorem x_0 : Str.ofString "0" = tx [48] := by rw [tx_lit]; rfl
theorem x_nil : Str.ofString "" = tx [] := by rw [tx_lit]; rfl
theorem x_fig : Str.ofString "0123456789" = tx [48, 49, 50, 51, 52, 53, 54, 55, 56, 57] := by rw [tx_lit]; rfl
theorem read_number (ca : Nat → Nat) (l : List Nat) (hl : l.length ≤ 640) (s : Sto) : (m_read_number ca [.str (tx l)] s).S (fun d s' => s = s' ∧ numOk l ∧ d = .int (numV l)) (fun e s' => s = s' ∧ ¬ numOk l ∧ e = ⟨ca 14, 14, []⟩) := by
  unfold m_read_number b_read_number
  simp only [w_mDef, startD]
  refine ⟨rfl, ?_⟩
  rw [W_sSeq]; refine W_cut (fun l' s' => s = s' ∧ l' = [some (.str (tx l)), some (.str (tx l)), none]) (by simp) ?_
  rintro l' s' ⟨rfl, rfl⟩
  have hf : (fgL l).length ≤ 640 := by
    unfold fgL; split
    · rw [List.length_drop]; omega
    · exact hl
  rw [W_sSeq]; refine W_cut (fun l' s' => s = s' ∧ l' = [some (.str (tx l)), some (.str (tx (fgL l))), none]) ?_ ?_
  · simp [x_min]
    unfold fgL
    split
    · rw [cut_from _ _ (by omega)]
      refine ⟨by omega, rfl⟩
    · rfl
  rintro l' s' ⟨rfl, rfl⟩
  rw [W_sSeq]; refine W_cut (fun l' s' => s = s' ∧ NumText.AllDigits (fgL l) ∧ ∃ a, l' = [some (.str (tx l)), some (.str (tx (fgL l))), a]) ?_ ?_
  · simp [-W_sIf]
    rw [tx_signs]
    refine W_forM (fun c => .str (tx [c])) (fgL l) (fun dn l' s' => s = s' ∧ NumText.AllDigits dn ∧ ∃ a, l' = [some (.str (tx l)), some (.str (tx (fgL l))), a]) ?_ ?_ ?_
    · exact ⟨rfl, (by intro c hc; cases hc), none, rfl⟩
    · rintro dn c rest l' s' he ⟨rfl, hd, a, rfl⟩
      simp [x_fig, -List.mem_cons, fig_mem]
      split
      · rename_i h
        intro hh
        have := hh.2.1 c (by rw [he]; simp)
        omega
      · rename_i h
        intro d hd'
        rcases List.mem_append.mp hd' with h3 | h3
        · exact hd d h3
        · rw [List.mem_singleton.mp h3]; omega
    · rintro l' s' ⟨rfl, hd, a, rfl⟩
      exact ⟨rfl, hd, a, rfl⟩
  rintro l' s' ⟨rfl, hd, a, rfl⟩
  rw [W_sSeq]; refine W_cut (fun l' s' => s = s' ∧ numOk l ∧ l' = [some (.str (tx l)), some (.str (tx (fgL l))), a]) ?_ ?_
  · simp [x_nil, x_0]
    by_cases h0 : fgL l = []
    · simp [h0]
      intro hh
      exact hh.1 h0
    · simp only [h0, if_false]
      by_cases h1 : (fgL l).head? = some 48
      · by_cases h2 : l = [48]
        · simp [h2]
          subst h2
          exact ⟨h0, hd, by simp⟩
        · simp [h1, h2]
          exact fun hh => hh.2.2 ⟨h1, h2⟩
      · simp [h1]
        exact ⟨h0, hd, fun q => h1 q.1⟩
  rintro l' s' ⟨rfl, hok, rfl⟩
  simp
  exact o_intT hok hl ⟨hok, rfl⟩
end Law

/-! ReadA: sure, number_from, place_from, names_of. -/
namespace Law
open PySem Vx
/-- what is read, or the refusal -/
def rdR (ca : Nat → Nat) (s : Sto) (o : Option D) : Vx.R D := match o with
  | some d => .ok d s
  | none => .ex ⟨ca 14, 14, []⟩ s
theorem rd_of {ca : Nat → Nat} {r : Vx.R D} {s : Sto} {o : Option D} (h : r.S (fun d s' => s = s' ∧ o = some d) (fun e s' => s = s' ∧ o = none ∧ e = ⟨ca 14, 14, []⟩)) : r = rdR ca s o := by
  cases r with
  | ok d s' => simp at h; obtain ⟨rfl, rfl⟩ := h; rfl
  | ex e s' => simp at h; obtain ⟨rfl, rfl, rfl⟩ := h; rfl
  | no => simp at h
@[simp] theorem rdR_S {ca : Nat → Nat} {s : Sto} {o : Option D} {P : D → Sto → Prop} {E : Ex → Sto → Prop} : (rdR ca s o).S P E ↔ (∀ d, o = some d → P d s) ∧ (o = none → E ⟨ca 14, 14, []⟩ s) := by
  cases o with
  | none => simp [rdR]
  | some d => simp [rdR]
theorem read_num (ca : Nat → Nat) (l : List Nat) (hl : l.length ≤ 640) (s : Sto) : m_read_number ca [.str (tx l)] s = rdR ca s ((num? l).map .int) := by
  refine rd_of ((read_number ca l hl s).imp ?_ ?_)
  · rintro d s' ⟨rfl, h, rfl⟩
    simp [num?, h]
  · rintro e s' ⟨rfl, h, rfl⟩
    simp [num?, h]
theorem sure (ca : Nat → Nat) (b : Bool) (s : Sto) : m_sure ca [.bl b] s = rdR ca s (if b = true then some .non else none) := by
  refine rd_of ?_
  unfold m_sure b_sure
  cases b <;> simp [startD]
/-- words[at] -/
theorem getI_T {P : List Nat → Prop} (ws : List (List Nat)) (k : Nat) (h : k < ws.length) : OW (getI ws (k : Int)) P ↔ P ws[k] := by
  have : getI ws (k : Int) = some ws[k] := by rw [getI_nat _ _ (by omega) (by omega)]; simp [h]
  rw [this, OW_some]
noncomputable def numFrom (ws : List (List Nat)) (k : Nat) (lo hi : Int) : Option Int := (ws[k]?).bind fun w => (num? w).bind fun v => if lo ≤ v ∧ v ≤ hi then some v else none
theorem number_from (ca : Nat → Nat) (ws : List (List Nat)) (hw : ∀ w ∈ ws, w.length ≤ 640) (k : Nat) (lo hi : Int) (s : Sto) : m_number_from ca [.lst (ws.map dT), nD k, .int lo, .int hi] s = rdR ca s ((numFrom ws k lo hi).map .int) := by
  refine rd_of ?_
  unfold m_number_from b_number_from
  simp only [w_mDef, startD]
  refine ⟨rfl, ?_⟩
  rw [W_sSeq]
  by_cases hk : k < ws.length
  · simp [sure, hk]
    simp [getI_T ws k hk, read_num ca ws[k] (hw _ (List.getElem_mem hk))]
    have e : numFrom ws k lo hi = (num? ws[k]).bind fun v => if lo ≤ v ∧ v ≤ hi then some v else none := by
      unfold numFrom
      rw [List.getElem?_eq_getElem hk]; rfl
    rw [e]
    constructor
    · rintro v hv
      rw [hv]
      simp only [Option.bind_some]
      by_cases h1 : lo ≤ v
      · by_cases h2 : v ≤ hi
        · simp [h1, h2, sure]
        · simp [h1, h2, sure]
      · simp [h1, sure]
    · intro hv
      rw [hv]; rfl
  · have e : numFrom ws k lo hi = none := by
      unfold numFrom
      rw [List.getElem?_eq_none (by omega)]; rfl
    simp [sure, hk, e]
def placeFrom (ws : List (List Nat)) (k : Nat) (ns : List (List Nat)) : Option Nat := (ws[k]?).bind fun w => plc ns w
theorem place_from (ca : Nat → Nat) (ws : List (List Nat)) (k : Nat) (ns : List (List Nat)) {s : Sto} {nr : D} (hn : drf s nr = .lst (ns.map dT)) : m_place_from ca [.lst (ws.map dT), nD k, nr] s = rdR ca s ((placeFrom ws k ns).map nD) := by
  refine rd_of ?_
  unfold m_place_from b_place_from
  simp only [w_mDef, startD]
  refine ⟨rfl, ?_⟩
  rw [W_sSeq]
  by_cases hk : k < ws.length
  · have e : placeFrom ws k ns = plc ns ws[k] := by
      unfold placeFrom
      rw [List.getElem?_eq_getElem hk]; rfl
    rw [e]
    by_cases hm : ws[k] ∈ ns
    · simp [hk, getI_T ws k hk, sure, hm, hn, o_indexT]
      cases hp : plc ns ws[k] with
      | none => exact absurd hm (plc_none.mp hp)
      | some j => simp
    · simp [hk, getI_T ws k hk, sure, hm, hn, plc_none.mpr hm]
  · have e : placeFrom ws k ns = none := by
      unfold placeFrom
      rw [List.getElem?_eq_none (by omega)]; rfl
    simp [sure, hk, e]
theorem names_of {s : Sto} {r : Nat} (ts : List (List Nat × List D)) (hl : ts.length ≤ 5000000) (hr : s[r]? = some (.lst (ts.map thD))) : m_names_of [.obj r] s = .ok (.lst ((ts.map (·.1)).map dT)) s := by
  have h : (m_names_of [.obj r] s).S (fun d s' => s = s' ∧ d = .lst ((ts.map (·.1)).map dT)) NoE := by
    unfold m_names_of b_names_of
    simp [startD]
    refine W_compOG (m := r) ts thD (fun p => dT p.1) (fun _ => true) hl (lstAt_o hr) ?_ ?_
    · intro p hp
      simp [wipeD, thD]
    · rw [List.filter_eq_self.mpr (by simp)]
      simp
  obtain ⟨d, s', h1, rfl, rfl⟩ := h.ok
  exact h1
theorem o_wt0 {P : List Nat → Prop} {ws : List (List Nat)} (h : 0 < ws.length) : OW (getI ws 0) P ↔ P (wt ws 0) := by
  have := getI_T (P := P) ws 0 h
  rw [show wt ws 0 = ws[0] by simp [wt, h]]
  exact this
theorem o_wt1 {P : List Nat → Prop} {ws : List (List Nat)} (h : 1 < ws.length) : OW (getI ws 1) P ↔ P (wt ws 1) := by
  have := getI_T (P := P) ws 1 h
  rw [show wt ws 1 = ws[1] by simp [wt, h]]
  exact this
theorem num2 (ca : Nat → Nat) (ws : List (List Nat)) (hw : ∀ w ∈ ws, w.length ≤ 640) (lo hi : Int) (s : Sto) : m_number_from ca [.lst (ws.map dT), .int 2, .int lo, .int hi] s = rdR ca s ((numFrom ws 2 lo hi).map .int) := number_from ca ws hw 2 lo hi s
theorem place_lt {ws ns : List (List Nat)} {k j : Nat} (h : placeFrom ws k ns = some j) : j < ns.length := by
  unfold placeFrom at h
  cases e : ws[k]? with
  | none => rw [e] at h; cases h
  | some w => rw [e] at h; exact (plc_lt h).1
end Law

/-! IsWd: is_word. -/
namespace Law
open PySem Vx
theorem is_wd (l : List Nat) (hl : l.length ≤ 16777216) (s : Sto) : m_is_word [.str (tx l)] s = .ok (.bl (isWd l)) s := by
  have h : (m_is_word [.str (tx l)] s).S (fun d s' => s = s' ∧ d = .bl (isWd l)) NoE := by
    unfold m_is_word b_is_word
    simp only [w_mDef, startD]
    refine ⟨rfl, ?_⟩
    have hab : ∀ c : Nat, c ∈ [97, 98, 99, 100, 101, 102, 103, 104, 105, 106, 107, 108, 109, 110, 111, 112, 113, 114, 115, 116, 117, 118, 119, 120, 121, 122] ↔ 97 ≤ c ∧ c ≤ 122 := by intro c; simp; omega
    rw [W_sSeq]; refine W_cut (fun l' s' => s = s' ∧ 1 ≤ l.length ∧ l.length ≤ 12 ∧ l' = [some (.str (tx l)), none]) ?_ ?_
    · simp
      refine ⟨hl, ?_⟩
      by_cases h1 : l.length < 1
      · have c1 : (l.length : Int) < 1 := by omega
        simp [isWd, show ¬ 1 ≤ l.length by omega, c1]
      · have c1 : ¬ (l.length : Int) < 1 := by omega
        by_cases h2 : 12 < l.length
        · have c2 : (12 : Int) < l.length := by omega
          simp [c2, hl, isWd, show ¬ l.length ≤ 12 by omega]
        · have c2 : ¬ (12 : Int) < l.length := by omega
          rw [if_neg c1]
          refine ⟨hl, ?_⟩
          rw [if_neg c2]
          omega
    rintro l' s' ⟨rfl, h1, h2, rfl⟩
    rw [W_sSeq]; refine W_cut (fun l' s' => s = s' ∧ isWd l = true) ?_ ?_
    · simp [-W_sIf]
      rw [tx_signs]
      refine W_forM (fun c => .str (tx [c])) l (fun dn l' s' => s = s' ∧ (dn.all fun c => decide (97 ≤ c ∧ c ≤ 122)) = true ∧ ∃ a, l' = [some (.str (tx l)), a]) ?_ ?_ ?_
      · exact ⟨rfl, rfl, none, rfl⟩
      · rintro dn c rest l' s' he ⟨rfl, hd, a, rfl⟩
        simp [tx_lit, -List.mem_cons, hab]
        split
        · rename_i hc
          unfold isWd
          have : (l.all fun c => decide (97 ≤ c ∧ c ≤ 122)) = false := by
            rw [he]
            simp
            intro _ h
            omega
          rw [this]; simp
        · rename_i hc
          refine ⟨by simpa using hd, by omega, by omega⟩
      · rintro l' s' ⟨rfl, hd, a, rfl⟩
        refine ⟨rfl, ?_⟩
        unfold isWd
        simp [h1, h2]
        simpa using hd
    rintro l' s' ⟨rfl, h3⟩
    simp [h3]
  obtain ⟨d, s', h1, rfl, rfl⟩ := h.ok
  exact h1
end Law

namespace Law
open PySem Vx
/-! a draft: what is read so far -/
structure RmX where
  nm : List Nat
  kd : List Nat
  dp : Nat
  kp : List Nat
  lp : List Nat
  ins : List D
  outs : List D
def RmX.D (r : RmX) : D := .tup [dT r.nm, dT r.kd, nD r.dp, dT r.kp, dT r.lp, .tup r.ins, .tup r.outs]
def optX (o : Option Nat) : D := match o with
  | none => .non
  | some i => nD i
structure DrX where
  rm : Nat
  ev : Nat
  gd : D
  ds : List D
  wy : List Nat
  gl : Option Nat
def DrX.D (d : DrX) : D := .tup [nD d.rm, nD d.ev, d.gd, .tup d.ds, dT d.wy, optX d.gl]
structure Df where
  hd : List D
  bs : List Bx
  es : List (List Nat)
  rs : List RmX
  drs : List DrX
  ls : List Nat
def dfF (o : Nat) (ls : List Nat) : List (Str × D) := [("heads", .obj (o + 1)), ("boxes", .obj (o + 2)), ("events", .obj (o + 3)), ("rooms", .obj (o + 4)), ("doors", .obj (o + 5)), ("last", dT ls)]
structure DfAt (ca : Nat → Nat) (s : Sto) (o : Nat) (X : Df) : Prop where
  i0 : s[o]? = some (.ins (ca 3) (dfF o X.ls))
  h : s[o + 1]? = some (.lst X.hd)
  b : s[o + 2]? = some (.lst (X.bs.map bxD))
  e : s[o + 3]? = some (.lst (X.es.map dT))
  r : s[o + 4]? = some (.lst (X.rs.map RmX.D))
  d : s[o + 5]? = some (.lst (X.drs.map DrX.D))
structure DfLe (X : Df) : Prop where
  h : X.hd.length ≤ 3
  b : X.bs.length ≤ 6
  e : X.es.length ≤ 8
  r : X.rs.length ≤ 40
  d : X.drs.length ≤ 60
  dp : ∀ r ∈ X.rs, r.dp ≤ 12
/-- the store below a draft stays -/
def Below (o : Nat) (s s' : Sto) : Prop := s'.length = s.length ∧ ∀ i, i < o → s'[i]? = s[i]?
theorem Below.rfl' (o : Nat) (s : Sto) : Below o s s := ⟨rfl, fun _ _ => rfl⟩
theorem Below.trans {o : Nat} {s t u : Sto} (h : Below o s t) (h' : Below o t u) : Below o s u := ⟨h'.1.trans h.1, fun i hi => (h'.2 i hi).trans (h.2 i hi)⟩
theorem Below.set {o k : Nat} (s : Sto) (x : Ob) (h : o ≤ k) : Below o s (s.set k x) := ⟨by simp, fun i hi => List.getElem?_set_ne (by omega)⟩
def noW (ca : Nat → Nat) : Ex := ⟨ca 14, 14, []⟩
section
variable {ca : Nat → Nat} {s : Sto} {o : Nat} {X : Df}
theorem DfAt.lt (A : DfAt ca s o X) : o + 5 < s.length := (List.getElem?_eq_some_iff.mp A.d).1
theorem DfAt.ins (A : DfAt ca s o X) : insAt (ca 3) s (.obj o) = some (o, dfF o X.ls) := insAt_o A.i0
theorem DfAt.setH (A : DfAt ca s o X) (x : D) : DfAt ca (s.set (o + 1) (.lst (X.hd ++ [x]))) o { X with hd := X.hd ++ [x] } := by
  have := A.lt
  refine ⟨?_, ?_, ?_, ?_, ?_, ?_⟩
  · rw [List.getElem?_set_ne (by omega)]; exact A.i0
  · rw [List.getElem?_set, if_pos rfl, if_pos (by omega)]
  · rw [List.getElem?_set_ne (by omega)]; exact A.b
  · rw [List.getElem?_set_ne (by omega)]; exact A.e
  · rw [List.getElem?_set_ne (by omega)]; exact A.r
  · rw [List.getElem?_set_ne (by omega)]; exact A.d
theorem DfAt.setE (A : DfAt ca s o X) (x : List Nat) : DfAt ca (s.set (o + 3) (.lst (X.es.map dT ++ [dT x]))) o { X with es := X.es ++ [x] } := by
  have := A.lt
  refine ⟨?_, ?_, ?_, ?_, ?_, ?_⟩
  · rw [List.getElem?_set_ne (by omega)]; exact A.i0
  · rw [List.getElem?_set_ne (by omega)]; exact A.h
  · rw [List.getElem?_set_ne (by omega)]; exact A.b
  · rw [List.getElem?_set, if_pos rfl, if_pos (by omega)]; simp
  · rw [List.getElem?_set_ne (by omega)]; exact A.r
  · rw [List.getElem?_set_ne (by omega)]; exact A.d
theorem DfAt.setR (A : DfAt ca s o X) (x : RmX) : DfAt ca (s.set (o + 4) (.lst (X.rs.map RmX.D ++ [x.D]))) o { X with rs := X.rs ++ [x] } := by
  have := A.lt
  refine ⟨?_, ?_, ?_, ?_, ?_, ?_⟩
  · rw [List.getElem?_set_ne (by omega)]; exact A.i0
  · rw [List.getElem?_set_ne (by omega)]; exact A.h
  · rw [List.getElem?_set_ne (by omega)]; exact A.b
  · rw [List.getElem?_set_ne (by omega)]; exact A.e
  · rw [List.getElem?_set, if_pos rfl, if_pos (by omega)]; simp
  · rw [List.getElem?_set_ne (by omega)]; exact A.d
theorem DfAt.setD (A : DfAt ca s o X) (x : DrX) : DfAt ca (s.set (o + 5) (.lst (X.drs.map DrX.D ++ [x.D]))) o { X with drs := X.drs ++ [x] } := by
  have := A.lt
  refine ⟨?_, ?_, ?_, ?_, ?_, ?_⟩
  · rw [List.getElem?_set_ne (by omega)]; exact A.i0
  · rw [List.getElem?_set_ne (by omega)]; exact A.h
  · rw [List.getElem?_set_ne (by omega)]; exact A.b
  · rw [List.getElem?_set_ne (by omega)]; exact A.e
  · rw [List.getElem?_set_ne (by omega)]; exact A.r
  · rw [List.getElem?_set, if_pos rfl, if_pos (by omega)]; simp
theorem DfAt.setL (A : DfAt ca s o X) (x : List Nat) : DfAt ca (s.set o (.ins (ca 3) (dfF o x))) o { X with ls := x } := by
  have := A.lt
  refine ⟨?_, ?_, ?_, ?_, ?_, ?_⟩
  · rw [List.getElem?_set, if_pos rfl, if_pos (by omega)]
  · rw [List.getElem?_set_ne (by omega)]; exact A.h
  · rw [List.getElem?_set_ne (by omega)]; exact A.b
  · rw [List.getElem?_set_ne (by omega)]; exact A.e
  · rw [List.getElem?_set_ne (by omega)]; exact A.r
  · rw [List.getElem?_set_ne (by omega)]; exact A.d
end
/-- sure(..) -/
theorem W_sure {N : Sl → Sto → Prop} {R : D → Sto → Prop} {B C : Sl → Sto → Prop} {X : Ex → Sl → Sto → Prop} {l : Sl} {s : Sto} {c : FE} (ca : Nat → Nat) (b : Bool) (hc : (c l s).S (fun k s' => s = s' ∧ k = .bl b) NoE) (h1 : b = true → N l s) (h0 : b = false → X (noW ca) l s) :
    (sExp (mCallX (m_sure ca) (mCons c mNil)) l s).W N R B C X := by
  obtain ⟨d, s', e, rfl, rfl⟩ := hc.ok
  cases b with
  | true => simp [e, sure, h1 rfl]
  | false => simp [e, sure]; exact h0 rfl
/-! rooms that fit -/
def kPl : List Nat := [112, 108, 97, 105, 110]
def kOne : List Nat := [111, 110, 101]
def kAll : List Nat := [97, 108, 108]
theorem x_plain : Str.ofString "plain" = tx kPl := by rw [tx_lit]; rfl
theorem x_one : Str.ofString "one" = tx kOne := by rw [tx_lit]; rfl
theorem x_all : Str.ofString "all" = tx kAll := by rw [tx_lit]; rfl
def fitB (rs : List RmX) (dep : Int) : Bool := match rs.getLast? with
  | none => decide (dep = 0)
  | some r => if r.kd = kPl then decide (1 ≤ dep) && decide (dep ≤ r.dp) else decide (dep = r.dp + 1) && decide (dep ≤ 12)
def wholeB (rs : List RmX) : Bool := match rs.getLast? with
  | none => false
  | some r => decide (r.kd = kPl)
section
variable {ca : Nat → Nat} {s : Sto} {o : Nat} {X : Df}
theorem getI_last {α : Type} {xs : List α} {Q : α → Prop} {x : α} (h : xs.getLast? = some x) : OW (getI xs (-1)) Q ↔ Q x := by
  have hl : 0 < xs.length := by
    cases xs with
    | nil => simp at h
    | cons a r => simp
  have e : getI xs (-1) = some x := by
    unfold getI ixI
    rw [if_neg (by decide), if_pos (by omega)]
    simp only [Option.bind_some]
    rw [List.getLast?_eq_getElem?] at h
    rw [← h]
    congr 1
    omega
  rw [e, OW_some]
theorem last_map {rs : List RmX} : (rs.map RmX.D).getLast? = rs.getLast?.map RmX.D := by simp
theorem fits (A : DfAt ca s o X) (dep : Int) (hd : dep.natAbs < 1000000) : m_Draft_fits ca [.obj o, .int dep] s = .ok (.bl (fitB X.rs dep)) s := by
  have h : (m_Draft_fits ca [.obj o, .int dep] s).S (fun d s' => s = s' ∧ d = .bl (fitB X.rs dep)) NoE := by
    unfold m_Draft_fits b_Draft_fits
    simp only [w_mDef, startD]
    refine ⟨rfl, ?_⟩
    cases e : X.rs.getLast? with
    | none =>
      have hn : X.rs = [] := by simpa using e
      rw [W_sSeq]; refine W_ifD true (by simp [A.ins, dfF, drf_o A.r, hn]) ?_; rw [if_pos rfl]
      simp [fitB, hn]
    | some r =>
      have hl : 0 < X.rs.length := by
        cases h : X.rs with
        | nil => rw [h] at e; simp at e
        | cons a b => simp
      rw [W_sSeq]; refine W_ifD false (by simp [A.ins, dfF, drf_o A.r]; intro h; rw [h] at hl; simp at hl) ?_; rw [if_neg (by decide), W_sNil]
      rw [W_sSeq]; simp [-W_sSeq, A.ins, dfF, drf_o A.r]
      rw [getI_last e]
      by_cases hk : r.kd = kPl
      · rw [W_sSeq]; refine W_ifD true (by simp [RmX.D, x_plain, hk]) ?_; rw [if_pos rfl]
        simp [fitB, e, RmX.D, hk]
        split <;> (intro h; omega)
      · rw [W_sSeq]; refine W_ifD false (by simp [RmX.D, x_plain, hk]) ?_; rw [if_neg (by decide), W_sNil]
        simp [fitB, e, RmX.D, hk]
        split <;> (intro h; omega)
  obtain ⟨d, s', h1, rfl, rfl⟩ := h.ok
  exact h1
theorem whole (A : DfAt ca s o X) : m_Draft_whole ca [.obj o] s = .ok (.bl (wholeB X.rs)) s := by
  have h : (m_Draft_whole ca [.obj o] s).S (fun d s' => s = s' ∧ d = .bl (wholeB X.rs)) NoE := by
    unfold m_Draft_whole b_Draft_whole
    simp only [w_mDef, startD]
    refine ⟨rfl, ?_⟩
    cases e : X.rs.getLast? with
    | none =>
      have hn : X.rs = [] := by simpa using e
      simp [A.ins, dfF, drf_o A.r, hn, wholeB]
    | some r =>
      have hl : 0 < X.rs.length := by
        cases h : X.rs with
        | nil => rw [h] at e; simp at e
        | cons a b => simp
      have hl2 : (0 : Int) < (X.rs.length : Int) := by omega
      simp [A.ins, dfF, drf_o A.r, hl2, wholeB, e, hl]
      rw [getI_last e]
      simp [RmX.D, x_plain]
      exact tx_beq _ _
  obtain ⟨d, s', h1, rfl, rfl⟩ := h.ok
  exact h1
end
end Law

namespace Law
open PySem Vx
/-! rows of the head, of an event, of a door -/
section
variable {ca : Nat → Nat} {s : Sto} {o : Nat} {X : Df}
def kOrd : List Nat := [111, 114, 100, 101, 114]
def kLet : List Nat := [108, 101, 116, 116, 101, 114, 115]
def kTur : List Nat := [116, 117, 114, 110, 115]
def kIn : List Nat := [105, 110, 110, 101, 114]
def kOut : List Nat := [111, 117, 116, 101, 114]
theorem x_ord : Str.ofString "order" = tx kOrd := by rw [tx_lit]; rfl
theorem x_let : Str.ofString "letters" = tx kLet := by rw [tx_lit]; rfl
theorem x_tur : Str.ofString "turns" = tx kTur := by rw [tx_lit]; rfl
theorem x_inn : Str.ofString "inner" = tx kIn := by rw [tx_lit]; rfl
theorem x_out : Str.ofString "outer" = tx kOut := by rw [tx_lit]; rfl
noncomputable def headF (X : Df) (ws : List (List Nat)) : Option D :=
  if ws.length = 2 ∧ wt ws 0 = wt [kOrd, kLet, kTur] X.hd.length then
    if wt ws 0 = kOrd then (if wt ws 1 = kIn ∨ wt ws 1 = kOut then some (dT (wt ws 1)) else none)
    else if wt ws 0 = kLet then (numFrom ws 1 0 12).map .int
    else (numFrom ws 1 1 20).map .int
  else none
theorem head (A : DfAt ca s o X) (hx : X.hd.length < 3) {ws : List (List Nat)} (hw : ∀ w ∈ ws, w.length ≤ 640) (hwl : ws.length ≤ 10000) :
    (m_Draft_head ca [.obj o, .lst (ws.map dT)] s).S (fun d s' => d = .non ∧ (∃ x, headF X ws = some x ∧ DfAt ca s' o { X with hd := X.hd ++ [x] }) ∧ Below o s s') (fun x s' => x = noW ca ∧ headF X ws = none ∧ Below o s s') := by
  unfold m_Draft_head b_Draft_head
  simp only [w_mDef, startD]
  refine ⟨rfl, ?_⟩
  have hl3 : ([kOrd, kLet, kTur] : List (List Nat)).length = 3 := rfl
  have hc3 : X.hd.length = 0 ∨ X.hd.length = 1 ∨ X.hd.length = 2 := by omega
  by_cases hok : ws.length = 2 ∧ wt ws 0 = wt [kOrd, kLet, kTur] X.hd.length
  · have hws : ws.length = 2 := hok.1
    have hg0 : ∀ P : List Nat → Prop, OW (getI ws 0) P ↔ P (wt ws 0) := fun P => o_wt0 (by omega)
    have hg1 : ∀ P : List Nat → Prop, OW (getI ws 1) P ↔ P (wt ws 1) := fun P => o_wt1 (by omega)
    have hn1 := fun lo hi => number_from ca ws hw 1 lo hi s
    have eF : headF X ws = if wt ws 0 = kOrd then (if wt ws 1 = kIn ∨ wt ws 1 = kOut then some (dT (wt ws 1)) else none) else if wt ws 0 = kLet then (numFrom ws 1 0 12).map .int else (numFrom ws 1 1 20).map .int := by
      unfold headF; rw [if_pos hok]
    rw [W_sSeq]
    refine W_sure ca true ?_ (fun _ => ?_) (fun h => by cases h)
    · have h0 := hok.2
      rcases hc3 with h | h | h <;> rw [h] at h0
      · have h0 : wt ws 0 = kOrd := h0
        simp [hws, A.ins, dfF, drf_o A.h, x_ord, x_let, x_tur, hg0, h, h0]
      · have h0 : wt ws 0 = kLet := h0
        simp [hws, A.ins, dfF, drf_o A.h, x_ord, x_let, x_tur, hg0, h, h0]
      · have h0 : wt ws 0 = kTur := h0
        simp [hws, A.ins, dfF, drf_o A.h, x_ord, x_let, x_tur, hg0, h, h0]
    rw [eF]
    by_cases h1 : wt ws 0 = kOrd
    · refine W_ifD true (by simp [hg0, x_ord, h1]) ?_; rw [if_pos rfl, if_pos h1]
      by_cases h2 : wt ws 1 = kIn ∨ wt ws 1 = kOut
      · rw [if_pos h2]
        rw [W_sSeq]
        refine W_sure ca true ?_ (fun _ => ?_) (fun h => by cases h)
        · simp [hg1, x_inn, x_out]
          rcases h2 with h2 | h2 <;> simp [h2]
        simp [A.ins, dfF, lstAt_o A.h, hg1]
        refine ⟨by omega, A.setH _, Below.set _ _ (by omega)⟩
      · rw [if_neg h2]
        rw [W_sSeq]
        refine W_sure ca false ?_ (fun h => by cases h) (fun _ => ⟨rfl, rfl, Below.rfl' _ _⟩)
        simp [hg1, x_inn, x_out]
        have h3 : ¬ wt ws 1 = kIn := fun z => h2 (.inl z)
        have h4 : ¬ wt ws 1 = kOut := fun z => h2 (.inr z)
        simp [h3, h4]
    · refine W_ifD false (by simp [hg0, x_ord, h1]) ?_; rw [if_neg (by decide), if_neg h1]
      have num : ∀ lo hi : Int, ((numFrom ws 1 lo hi).map D.int = none ∧ numFrom ws 1 lo hi = none) ∨ ∃ v, numFrom ws 1 lo hi = some v := fun lo hi => by
        cases h : numFrom ws 1 lo hi with
        | none => exact .inl ⟨rfl, rfl⟩
        | some v => exact .inr ⟨v, rfl⟩
      by_cases h2 : wt ws 0 = kLet
      · refine W_ifD true (by simp [hg0, x_let, h2]) ?_; rw [if_pos rfl, if_pos h2]
        have hn := hn1 0 12
        have hn : m_number_from ca [.lst (ws.map dT), .int 1, .int 0, .int 12] s = rdR ca s ((numFrom ws 1 0 12).map .int) := hn
        rcases num 0 12 with ⟨e1, e2⟩ | ⟨v, e⟩
        · simp [A.ins, dfF, lstAt_o A.h, hn, e2]
          exact ⟨rfl, Below.rfl' _ _⟩
        · simp [A.ins, dfF, lstAt_o A.h, hn, e]
          refine ⟨by omega, A.setH _, Below.set _ _ (by omega)⟩
      · refine W_ifD false (by simp [hg0, x_let, h2]) ?_; rw [if_neg (by decide), if_neg h2]
        have hn := hn1 1 20
        have hn : m_number_from ca [.lst (ws.map dT), .int 1, .int 1, .int 20] s = rdR ca s ((numFrom ws 1 1 20).map .int) := hn
        rcases num 1 20 with ⟨e1, e2⟩ | ⟨v, e⟩
        · simp [A.ins, dfF, lstAt_o A.h, hn, e2]
          exact ⟨rfl, Below.rfl' _ _⟩
        · simp [A.ins, dfF, lstAt_o A.h, hn, e]
          refine ⟨by omega, A.setH _, Below.set _ _ (by omega)⟩
  · have eF : headF X ws = none := by unfold headF; rw [if_neg hok]
    rw [eF, W_sSeq]
    refine W_sure ca false ?_ (fun h => by cases h) (fun _ => ⟨rfl, rfl, Below.rfl' _ _⟩)
    by_cases h2 : ws.length = 2
    · have hg0 : ∀ P : List Nat → Prop, OW (getI ws 0) P ↔ P (wt ws 0) := fun P => o_wt0 (by omega)
      have h0 : ¬ wt ws 0 = wt [kOrd, kLet, kTur] X.hd.length := fun z => hok ⟨h2, z⟩
      rcases hc3 with h | h | h <;> rw [h] at h0
      · have h0 : ¬ wt ws 0 = kOrd := h0
        simp [h2, A.ins, dfF, drf_o A.h, x_ord, x_let, x_tur, hg0, h, h0]
      · have h0 : ¬ wt ws 0 = kLet := h0
        simp [h2, A.ins, dfF, drf_o A.h, x_ord, x_let, x_tur, hg0, h, h0]
      · have h0 : ¬ wt ws 0 = kTur := h0
        simp [h2, A.ins, dfF, drf_o A.h, x_ord, x_let, x_tur, hg0, h, h0]
    · simp [h2]
      intro z; omega
end
end Law

namespace Law
open PySem Vx
section
variable {ca : Nat → Nat} {s : Sto} {o : Nat} {X : Df}
def eventF (X : Df) (ws : List (List Nat)) : Option (List Nat) :=
  if X.rs.length = 0 ∧ X.es.length < 8 then (if ws.length = 2 ∧ isWd (wt ws 1) = true ∧ wt ws 1 ∉ X.es then some (wt ws 1) else none) else none
theorem happening (A : DfAt ca s o X) (L : DfLe X) {ws : List (List Nat)} (hw : ∀ w ∈ ws, w.length ≤ 640) (hwl : ws.length ≤ 10000) :
    (m_Draft_happening ca [.obj o, .lst (ws.map dT)] s).S (fun d s' => d = .non ∧ (∃ x, eventF X ws = some x ∧ DfAt ca s' o { X with es := X.es ++ [x] }) ∧ Below o s s') (fun x s' => x = noW ca ∧ eventF X ws = none ∧ Below o s s') := by
  have hE := L.e
  have hR := L.r
  unfold m_Draft_happening b_Draft_happening
  simp only [w_mDef, startD]
  refine ⟨rfl, ?_⟩
  by_cases h1 : X.rs.length = 0 ∧ X.es.length < 8
  · have ha := h1.1
    have hb := h1.2
    rw [W_sSeq]
    refine W_sure ca true ?_ (fun _ => ?_) (fun h => by cases h)
    · simp [A.ins, dfF, drf_o A.r, drf_o A.e, ha]
      omega
    by_cases h2 : ws.length = 2 ∧ isWd (wt ws 1) = true ∧ wt ws 1 ∉ X.es
    · obtain ⟨c1, c2, c3⟩ := h2
      have hg1 : ∀ P : List Nat → Prop, OW (getI ws 1) P ↔ P (wt ws 1) := fun P => o_wt1 (by omega)
      have hwd := is_wd (wt ws 1) (by have := hw (wt ws 1) (by simp [wt, show 1 < ws.length by omega]); omega) s
      rw [W_sSeq]
      refine W_sure ca true ?_ (fun _ => ?_) (fun h => by cases h)
      · simp [c1, hg1, hwd, c2, A.ins, dfF, drf_o A.e, c3]
      simp [A.ins, dfF, lstAt_o A.e, hg1]
      refine ⟨by omega, ⟨wt ws 1, ?_, A.setE _⟩, Below.set _ _ (by omega)⟩
      unfold eventF
      rw [if_pos h1, if_pos ⟨c1, c2, c3⟩]
    · rw [W_sSeq]
      refine W_sure ca false ?_ (fun h => by cases h) (fun _ => ⟨rfl, by unfold eventF; rw [if_pos h1, if_neg h2], Below.rfl' _ _⟩)
      by_cases c1 : ws.length = 2
      · have hg1 : ∀ P : List Nat → Prop, OW (getI ws 1) P ↔ P (wt ws 1) := fun P => o_wt1 (by omega)
        have hwd := is_wd (wt ws 1) (by have := hw (wt ws 1) (by simp [wt, show 1 < ws.length by omega]); omega) s
        by_cases c2 : isWd (wt ws 1) = true
        · have c3 : wt ws 1 ∈ X.es := Classical.byContradiction fun z => h2 ⟨c1, c2, z⟩
          simp [c1, hg1, hwd, c2, A.ins, dfF, drf_o A.e, c3]
        · simp [c1, hg1, hwd, c2]
      · simp [c1]
        intro z; omega
  · rw [W_sSeq]
    refine W_sure ca false ?_ (fun h => by cases h) (fun _ => ⟨rfl, by unfold eventF; rw [if_neg h1], Below.rfl' _ _⟩)
    by_cases ha : X.rs.length = 0
    · have hb : ¬ X.es.length < 8 := fun z => h1 ⟨ha, z⟩
      simp [A.ins, dfF, drf_o A.r, drf_o A.e, ha]
      omega
    · have ha2 : ¬ X.rs = [] := fun z => ha (by rw [z]; rfl)
      simp [A.ins, dfF, drf_o A.r, drf_o A.e, ha2]
def kStay : List Nat := [115, 116, 97, 121]
def kTo : List Nat := [116, 111]
def kBack : List Nat := [98, 97, 99, 107]
def kYes : List Nat := [121, 101, 115]
theorem x_stay : Str.ofString "stay" = tx kStay := by rw [tx_lit]; rfl
theorem x_to : Str.ofString "to" = tx kTo := by rw [tx_lit]; rfl
theorem x_back : Str.ofString "back" = tx kBack := by rw [tx_lit]; rfl
theorem x_yes : Str.ofString "yes" = tx kYes := by rw [tx_lit]; rfl
def rnX (rs : List RmX) : List (List Nat) := rs.map RmX.nm
def kpX (rs : List RmX) (g : Nat) : List Nat := ((rs[g]?).map RmX.kp).getD []
def doorF (X : Df) (ws : List (List Nat)) : Option DrX :=
  if wholeB X.rs = true ∧ X.drs.length < 60 ∧ 4 ≤ ws.length ∧ ws.length ≤ 5 then
    (placeFrom ws 1 (rnX X.rs)).bind fun r => (placeFrom ws 2 X.es).bind fun e =>
      if wt ws 3 = kStay then (if ws.length = 4 then some ⟨r, e, .tup [dT kYes], [], wt ws 3, none⟩ else none)
      else (placeFrom ws 4 (rnX X.rs)).bind fun g => if wt ws 3 = kTo ∨ wt ws 3 = kBack ∧ kpX X.rs g ≠ [] then some ⟨r, e, .tup [dT kYes], [], wt ws 3, some g⟩ else none
  else none
theorem rm_names (A : DfAt ca s o X) (L : DfLe X) : m_names_of [.obj (o + 4)] s = .ok (.lst ((rnX X.rs).map dT)) s := by
  have h := names_of (s := s) (r := o + 4) (X.rs.map fun r => (r.nm, [dT r.kd, nD r.dp, dT r.kp, dT r.lp, .tup r.ins, .tup r.outs])) (by have := L.r; simp; omega) (by rw [A.r, List.map_map]; rfl)
  have e : (X.rs.map fun r => (r.nm, [dT r.kd, nD r.dp, dT r.kp, dT r.lp, D.tup r.ins, D.tup r.outs])).map (·.1) = rnX X.rs := by simp [rnX, Function.comp_def]
  rw [e] at h
  exact h
theorem o_wtk {P : List Nat → Prop} {ws : List (List Nat)} {k : Nat} (h : k < ws.length) : OW (getI ws (k : Int)) P ↔ P (wt ws k) := by
  have := getI_T (P := P) ws k h
  rw [show wt ws k = ws[k] by simp [wt, h]]
  exact this
theorem door (A : DfAt ca s o X) (L : DfLe X) {ws : List (List Nat)} (hwl : ws.length ≤ 10000) :
    (m_Draft_door ca [.obj o, .lst (ws.map dT)] s).S (fun d s' => d = .non ∧ (∃ x, doorF X ws = some x ∧ DfAt ca s' o { X with drs := X.drs ++ [x] }) ∧ Below o s s') (fun x s' => x = noW ca ∧ doorF X ws = none ∧ Below o s s') := by
  have hR := L.r
  have hD := L.d
  have hwh := whole A
  have hnm := rm_names A L
  unfold m_Draft_door b_Draft_door
  simp only [w_mDef, startD]
  refine ⟨rfl, ?_⟩
  by_cases h1 : wholeB X.rs = true ∧ X.drs.length < 60 ∧ 4 ≤ ws.length ∧ ws.length ≤ 5
  · obtain ⟨ha, hb, hc, hd⟩ := h1
    have h1 : wholeB X.rs = true ∧ X.drs.length < 60 ∧ 4 ≤ ws.length ∧ ws.length ≤ 5 := ⟨ha, hb, hc, hd⟩
    have hb' : (X.drs.length : Int) < 60 := by omega
    have hc' : (4 : Int) ≤ (ws.length : Int) := by omega
    have hd' : (ws.length : Int) ≤ 5 := by omega
    have hg3 : ∀ P : List Nat → Prop, OW (getI ws 3) P ↔ P (wt ws 3) := fun P => o_wtk (k := 3) (by omega)
    rw [W_sSeq]
    refine W_sure ca true ?_ (fun _ => ?_) (fun h => by cases h)
    · simp [A.ins, dfF, hwh, ha, drf_o A.d, hb', hc', hd']
    have hp1 : m_place_from ca [.lst (ws.map dT), .int 1, .lst ((rnX X.rs).map dT)] s = rdR ca s ((placeFrom ws 1 (rnX X.rs)).map nD) := place_from ca ws 1 (rnX X.rs) rfl
    have hp2 : m_place_from ca [.lst (ws.map dT), .int 2, .obj (o + 3)] s = rdR ca s ((placeFrom ws 2 X.es).map nD) := place_from ca ws 2 X.es (drf_o A.e)
    have hp4 : m_place_from ca [.lst (ws.map dT), .int 4, .lst ((rnX X.rs).map dT)] s = rdR ca s ((placeFrom ws 4 (rnX X.rs)).map nD) := place_from ca ws 4 (rnX X.rs) rfl
    rw [W_sSeq]; simp [-W_sSeq, A.ins, dfF, hnm]
    cases e1 : placeFrom ws 1 (rnX X.rs) with
    | none =>
      rw [W_sSeq]; simp [-W_sSeq, hp1, e1]
      exact ⟨rfl, by simp [doorF, e1], Below.rfl' _ _⟩
    | some rm =>
      rw [W_sSeq]; simp [-W_sSeq, hp1, e1]
      cases e2 : placeFrom ws 2 X.es with
      | none =>
        rw [W_sSeq]; simp [-W_sSeq, A.ins, dfF, hp2, e2]
        exact ⟨rfl, by simp [doorF, e1, e2], Below.rfl' _ _⟩
      | some ev =>
        rw [W_sSeq]; simp [-W_sSeq, A.ins, dfF, hp2, e2]
        rw [W_sSeq]; simp [-W_sSeq]
        have eF : doorF X ws = if wt ws 3 = kStay then (if ws.length = 4 then some ⟨rm, ev, .tup [dT kYes], [], wt ws 3, none⟩ else none)
            else (placeFrom ws 4 (rnX X.rs)).bind fun g => if wt ws 3 = kTo ∨ wt ws 3 = kBack ∧ kpX X.rs g ≠ [] then some ⟨rm, ev, .tup [dT kYes], [], wt ws 3, some g⟩ else none := by
          unfold doorF
          rw [if_pos h1, e1]
          simp only [Option.bind_some, e2]
        obtain ⟨Z, hZ⟩ : ∃ Z : Sl → Sto → Prop, Z = (fun l s' => s = s' ∧ ∃ g : Option Nat, doorF X ws = some ⟨rm, ev, .tup [dT kYes], [], wt ws 3, g⟩ ∧ l = [some (.obj o), some (.lst (ws.map dT)), some (.lst ((rnX X.rs).map dT)), some (nD rm), some (nD ev), some (optX g)]) := ⟨_, rfl⟩
        rw [W_sSeq]; refine W_cut Z ?_ ?_
        · by_cases h3 : wt ws 3 = kStay
          · rw [if_pos h3] at eF
            refine W_ifD true (by simp [hg3, x_stay, h3]) ?_; rw [if_pos rfl]
            by_cases h4 : ws.length = 4
            · refine W_sure ca true (by simp [h4]) (fun _ => ?_) (fun h => by cases h)
              rw [hZ]
              rw [if_pos h4] at eF
              exact ⟨rfl, none, eF, rfl⟩
            · refine W_sure ca false (by simp; omega) (fun h => by cases h) (fun _ => ⟨rfl, by rw [eF, if_neg h4], Below.rfl' _ _⟩)
          · rw [if_neg h3] at eF
            refine W_ifD false (by simp [hg3, x_stay, h3]) ?_; rw [if_neg (by decide)]
            cases e4 : placeFrom ws 4 (rnX X.rs) with
            | none =>
              rw [W_sSeq]; simp [-W_sSeq, hp4, e4]
              exact ⟨rfl, by rw [eF, e4]; rfl, Below.rfl' _ _⟩
            | some g =>
              rw [W_sSeq]; simp [-W_sSeq, -W_sExp, hp4, e4]
              have hgl : g < X.rs.length := by have := place_lt e4; simpa [rnX] using this
              have hgk : kpX X.rs g = X.rs[g].kp := by simp [kpX, hgl]
              rw [e4] at eF
              simp only [Option.bind_some] at eF
              by_cases h5 : wt ws 3 = kTo ∨ wt ws 3 = kBack ∧ kpX X.rs g ≠ []
              · rw [if_pos h5] at eF
                refine W_sure ca true ?_ (fun _ => ?_) (fun h => by cases h)
                · by_cases h6 : wt ws 3 = kTo
                  · simp [hg3, x_to, h6]
                  · obtain ⟨h7, h8⟩ := h5.resolve_left h6
                    have h8 : ¬ X.rs[g].kp = [] := by rw [← hgk]; exact h8
                    simp [hg3, x_to, x_back, h7, A.ins, dfF, drf_o A.r, getI_g hgl, RmX.D, x_nil, h8]
                    try decide
                · rw [hZ]
                  exact ⟨rfl, some g, eF, rfl⟩
              · rw [if_neg h5] at eF
                refine W_sure ca false ?_ (fun h => by cases h) (fun _ => ⟨rfl, eF, Below.rfl' _ _⟩)
                have h6 : ¬ wt ws 3 = kTo := fun z => h5 (.inl z)
                by_cases h7 : wt ws 3 = kBack
                · have h8 : X.rs[g].kp = [] := by rw [← hgk]; exact Classical.byContradiction fun z => h5 (.inr ⟨h7, z⟩)
                  simp [hg3, x_to, x_back, h7, A.ins, dfF, drf_o A.r, getI_g hgl, RmX.D, x_nil, h8]
                  try decide
                · simp [hg3, x_to, x_back, h6, h7]
        intro l s' hz
        rw [hZ] at hz
        obtain ⟨rfl, g, eG, rfl⟩ := hz
        simp [A.ins, dfF, lstAt_o A.d, hg3, x_yes]
        refine ⟨by omega, ⟨_, eG, A.setD ⟨rm, ev, .tup [dT kYes], [], wt ws 3, g⟩⟩, Below.set _ _ (by omega)⟩
  · rw [W_sSeq]
    refine W_sure ca false ?_ (fun h => by cases h) (fun _ => ⟨rfl, by unfold doorF; rw [if_neg h1], Below.rfl' _ _⟩)
    by_cases ha : wholeB X.rs = true
    · by_cases hb : X.drs.length < 60
      · have hb' : (X.drs.length : Int) < 60 := by omega
        by_cases hc : 4 ≤ ws.length
        · have hc' : (4 : Int) ≤ (ws.length : Int) := by omega
          have hd : ¬ (ws.length : Int) ≤ 5 := fun z => h1 ⟨ha, hb, hc, by omega⟩
          simp [A.ins, dfF, hwh, ha, drf_o A.d, hb', hc', hd]
          try omega
        · have hc' : ¬ (4 : Int) ≤ (ws.length : Int) := by omega
          simp [A.ins, dfF, hwh, ha, drf_o A.d, hb', hc']
          try omega
      · have hb' : ¬ (X.drs.length : Int) < 60 := by omega
        simp [A.ins, dfF, hwh, ha, drf_o A.d, hb']
        try omega
    · have ha : wholeB X.rs = false := by simpa using ha
      simp [A.ins, dfF, hwh, ha]
end
end Law

namespace Law
open PySem Vx
/-! the row of a room -/
def kKps : List Nat := [107, 101, 101, 112, 115]
def kLmp : List Nat := [108, 97, 109, 112]
def kNear : List Nat := [110, 101, 97, 114]
def kDeep : List Nat := [100, 101, 101, 112]
theorem x_kps : Str.ofString "keeps" = tx kKps := by rw [tx_lit]; rfl
theorem x_lmp : Str.ofString "lamp" = tx kLmp := by rw [tx_lit]; rfl
theorem x_near : Str.ofString "near" = tx kNear := by rw [tx_lit]; rfl
theorem x_deep : Str.ofString "deep" = tx kDeep := by rw [tx_lit]; rfl
theorem x_sp : Str.ofString " " = tx [32] := by rw [tx_lit]; rfl
theorem pl_tx {w : List Nat} (h : ∀ c ∈ w, c < 128) : D.pl (.str (tx w)) = true := by
  unfold D.pl
  rw [← Array.all_toList, tx_cps]
  exact List.all_eq_true.mpr fun c hc => decide_eq_true (h c hc)
theorem shp_lw {a : List (List Nat)} (h : ∀ w ∈ a, ∀ c ∈ w, c < 128) : D.shp (.lst (a.map dT)) = true := by
  have h1 : D.plAll (a.map dT) = true := by
    induction a with
    | nil => rfl
    | cons w a ih =>
      show (D.pl (dT w) && D.plAll (a.map dT)) = true
      rw [dT_eq, pl_tx (h w List.mem_cons_self), ih fun v hv => h v (List.mem_cons_of_mem _ hv)]
      rfl
  have h2 : D.depAll (a.map dT) ≤ 0 := by
    clear h h1
    induction a with
    | nil => exact Nat.le_refl _
    | cons w a ih =>
      show max (D.dep (dT w)) (D.depAll (a.map dT)) ≤ 0
      exact Nat.max_le.mpr ⟨Nat.le_refl _, ih⟩
  unfold D.shp
  have h3 : D.pl (.lst (a.map dT)) = true := h1
  rw [h3]
  have h4 : D.dep (.lst (a.map dT)) = D.depAll (a.map dT) + 1 := rfl
  simp [h4]
  omega
theorem eq_lw {P : D → Prop} {a b : List (List Nat)} (ha : ∀ w ∈ a, ∀ c ∈ w, c < 128) (hb : ∀ w ∈ b, ∀ c ∈ w, c < 128) : OW (gEq (.lst (a.map dT)) (.lst (b.map dT))) P ↔ P (.bl (decide (a = b))) := by
  rw [o_eq (eqOk_shp (shp_lw ha) (shp_lw hb))]
  have e : ∀ a b : List (List Nat), D.eqvAll (a.map dT) (b.map dT) = decide (a = b) := by
    intro a
    induction a with
    | nil => intro b; cases b <;> simp [D.eqvAll]
    | cons w a ih =>
      intro b
      cases b with
      | nil => simp [D.eqvAll]
      | cons v b =>
        show (D.eqv (dT w) (dT v) && D.eqvAll (a.map dT) (b.map dT)) = _
        rw [eqv_T, ih]
        simp
  rw [show D.eqv (.lst (a.map dT)) (.lst (b.map dT)) = D.eqvAll (a.map dT) (b.map dT) from rfl, e]
theorem join_0 (ws : List (List Nat)) : Txt.join (tx []) (ws.map tx) = tx ws.flatten := by
  refine TL.ext_tl ?_
  rw [TL.join_eq, TL.tl_join]
  have e : TL.tl (tx []) = [] := tx_cps []
  have e2 : TL.tl (tx ws.flatten) = ws.flatten := tx_cps _
  rw [e, e2, List.map_map]
  have : (TL.tl ∘ tx) = id := by funext x; exact tx_cps x
  rw [this, List.map_id]
  clear e e2 this
  induction ws with
  | nil => rfl
  | cons w ws ih =>
    cases ws with
    | nil => simp [TL.joinL]
    | cons v ws =>
      have e3 : TL.joinL [] (w :: v :: ws) = w ++ ([] ++ TL.joinL [] (v :: ws)) := by
        simp [TL.joinL]
      rw [e3, ih]
      rfl
theorem o_join0 {P : D → Prop} (ws : List (List Nat)) : OW (gJoin (tx []) (.lst (ws.map dT))) P ↔ (ws.map List.length).sum ≤ 16777216 ∧ P (.str (tx ws.flatten)) := by
  unfold gJoin
  simp only [strsJ_T, Option.bind_some, OW_ite, join_0, szOk_i, tx_len, List.length_map, List.map_map]
  have e2 : ((fun x : Str => x.length) ∘ tx) = List.length := by funext l; exact tx_len l
  rw [e2]
  simp
/-- the rest behind kind and name: keeps, lamp -/
def kpsF (kd : List Nat) (rest : List (List Nat)) : Option (List Nat × List (List Nat)) :=
  if rest.take 1 = [kKps] then (if (wt rest 1 = kNear ∧ kd = kOne) ∨ (wt rest 1 = kDeep ∧ kd ≠ kPl) then some (wt rest 1, rest.drop 2) else none) else some ([], rest)
def lmpF (rest : List (List Nat)) : Option (List Nat × List (List Nat)) :=
  if rest.take 1 = [kLmp] then (if isWd (wt rest 1) = true then some (wt rest 1, rest.drop 2) else none) else some ([], rest)
def bareF (row : List Nat) : List Nat := row.dropWhile fun c => decide (c = 32)
def depF (row : List Nat) : Nat := (row.length - (bareF row).length) / 2
def roomF (X : Df) (row : List Nat) : Option RmX :=
  if 2 * depF row = row.length - (bareF row).length ∧ fitB X.rs (depF row : Int) = true then
    let ws := wds 32 (bareF row)
    if X.rs.length < 40 ∧ X.drs.length = 0 ∧ 1 < ws.length then
      if wt ws 0 = kPl ∨ wt ws 0 = kOne ∨ wt ws 0 = kAll then
        if isWd (wt ws 1) = true ∧ wt ws 1 ∉ rnX X.rs then
          (kpsF (wt ws 0) (ws.drop 2)).bind fun p => (lmpF p.2).bind fun q => if q.2.length = 0 then some ⟨wt ws 1, wt ws 0, depF row, p.1, q.1, [], []⟩ else none
        else none
      else none
    else none
  else none
theorem eq_head {P : D → Prop} {R : List (List Nat)} {k : List Nat} (hR : ∀ w ∈ R, ∀ c ∈ w, c < 128) (hk : ∀ c ∈ k, c < 128) : OW (gEq (.lst ((cutD R none (some 1)).map dT)) (.lst [.str (tx k)])) P ↔ P (.bl (decide (R.take 1 = [k]))) := by
  rw [cut_to _ _ (by decide)]
  exact eq_lw (b := [k]) (fun w hw => hR w (List.mem_of_mem_take hw)) (by simpa using hk)
theorem cut_12 {R : List (List Nat)} : cutD R (some 1) (some 2) = (R.drop 1).take 1 := by
  unfold cutD sIx
  simp
  rcases R with _ | ⟨a, _ | ⟨b, R⟩⟩ <;> simp
theorem bare_len (row : List Nat) : (bareF row).length ≤ row.length := (List.dropWhile_sublist _).length_le
theorem flat_wt (ws : List (List Nat)) : ((ws.drop 1).take 1).flatten = wt ws 1 := by
  unfold wt
  cases ws with
  | nil => rfl
  | cons a r =>
    cases r with
    | nil => rfl
    | cons b r => simp
section
variable {ca : Nat → Nat} {s : Sto} {o : Nat} {X : Df}
set_option maxHeartbeats 2000000 in
theorem room (A : DfAt ca s o X) (L : DfLe X) {row : List Nat} (hrl : row.length ≤ 600) (hra : ∀ c ∈ row, c < 128) :
    (m_Draft_room ca [.obj o, .str (tx row)] s).S (fun d s' => d = .non ∧ (∃ x, roomF X row = some x ∧ DfAt ca s' o { X with rs := X.rs ++ [x] }) ∧ Below o s s') (fun x s' => x = noW ca ∧ roomF X row = none ∧ Below o s s') := by
  have hR := L.r
  have hD := L.d
  have hnm := rm_names A L
  have hbl := bare_len row
  have hlen : ∀ w ∈ wds 32 (bareF row), w.length ≤ 600 := fun w hw => by have := wds_len hw; omega
  have hcnt : (wds 32 (bareF row)).length ≤ 601 := by
    have : ∀ (l acc : List Nat), (TL.spl [32] 0 acc l).length ≤ l.length + 1 := by
      intro l
      induction l with
      | nil => intro acc; rw [TL.spl_nil]; simp
      | cons a r ih =>
        intro acc
        by_cases hp : TL.pre [32] (a :: r) = true
        · rw [TL.spl_hit hp]
          have := ih []
          simp at this ⊢; omega
        · rw [TL.spl_miss (by simpa using hp)]
          have := ih (acc ++ [a])
          simp at this ⊢; omega
    have := this (bareF row) []
    have h2 : (wds 32 (bareF row)).length ≤ (bareF row).length + 1 := this
    omega
  have hasc : ∀ w ∈ wds 32 (bareF row), ∀ c ∈ w, c < 128 := by
    have key : ∀ (l acc : List Nat), (∀ c ∈ l, c < 128) → (∀ c ∈ acc, c < 128) → ∀ w ∈ TL.spl [32] 0 acc l, ∀ c ∈ w, c < 128 := by
      intro l
      induction l with
      | nil => intro acc h1 h2 w hw; rw [TL.spl_nil] at hw; rw [List.mem_singleton.mp hw]; exact h2
      | cons a r ih =>
        intro acc h1 h2 w hw
        by_cases hp : TL.pre [32] (a :: r) = true
        · rw [TL.spl_hit hp] at hw
          rcases List.mem_cons.mp hw with rfl | hw
          · exact h2
          · exact ih [] (fun c hc => h1 c (List.mem_cons_of_mem _ hc)) (by simp) w (by simpa using hw)
        · rw [TL.spl_miss (by simpa using hp)] at hw
          refine ih (acc ++ [a]) (fun c hc => h1 c (List.mem_cons_of_mem _ hc)) (fun c hc => ?_) w hw
          rcases List.mem_append.mp hc with hc | hc
          · exact h2 c hc
          · rw [List.mem_singleton.mp hc]; exact h1 a List.mem_cons_self
    exact key (bareF row) [] (fun c hc => hra c ((List.dropWhile_sublist _).subset hc)) (by simp)
  unfold m_Draft_room b_Draft_room
  simp only [w_mDef, startD]
  refine ⟨rfl, ?_⟩
  have hbf : (row.dropWhile fun c => decide (c = 32)) = bareF row := rfl
  rw [W_sSeq]; simp [-W_sSeq, x_sp, o_lstrip, hbf]
  refine ⟨by omega, ?_⟩
  have edep : ((row.length : Int) - ((bareF row).length : Int)) / 2 = (depF row : Int) := by unfold depF; omega
  rw [W_sSeq]; simp [-W_sSeq, edep]
  have esub : ((row.length : Int) - ((bareF row).length : Int)) = ((row.length - (bareF row).length : Nat) : Int) := by omega
  have hfit := fits A (depF row : Int) (by unfold depF; omega)
  have hz1 : row.length ≤ 16777216 := by omega
  have hz2 : (bareF row).length ≤ 16777216 := by omega
  simp only [hz1, hz2, true_and]
  have no : ∀ {b : Bool}, b = false → roomF X row = none → (noW ca = noW ca ∧ roomF X row = none ∧ Below o s s) := fun _ h => ⟨rfl, h, Below.rfl' _ _⟩
  by_cases h1 : 2 * depF row = row.length - (bareF row).length ∧ fitB X.rs (depF row : Int) = true
  case neg =>
    rw [W_sSeq]
    refine W_sure ca false ?_ (fun h => by cases h) (fun _ => ⟨rfl, by unfold roomF; rw [if_neg h1], Below.rfl' _ _⟩)
    by_cases c1 : 2 * depF row = row.length - (bareF row).length
    · have c2 : fitB X.rs (depF row : Int) = false := by
        cases h : fitB X.rs (depF row : Int) with
        | false => rfl
        | true => exact absurd ⟨c1, h⟩ h1
      have c1' : 2 * (depF row : Int) = (row.length : Int) - ((bareF row).length : Int) := by omega
      simp [A.ins, dfF, c1', hfit, c2, hz1, hz2]
    · have c1' : ¬ 2 * (depF row : Int) = (row.length : Int) - ((bareF row).length : Int) := by omega
      simp [c1', hz1, hz2]
  case pos =>
  have c1' : 2 * (depF row : Int) = (row.length : Int) - ((bareF row).length : Int) := by omega
  rw [W_sSeq]
  refine W_sure ca true ?_ (fun _ => ?_) (fun h => by cases h)
  · simp [A.ins, dfF, c1', hfit, h1.2, hz1, hz2]
  rw [W_sSeq]; simp [-W_sSeq, o_split]
  refine ⟨by omega, ?_⟩
  obtain ⟨ws, hws⟩ : ∃ ws, ws = wds 32 (bareF row) := ⟨_, rfl⟩
  rw [← hws] at hlen hcnt hasc ⊢
  have eF : roomF X row = if X.rs.length < 40 ∧ X.drs.length = 0 ∧ 1 < ws.length then
      if wt ws 0 = kPl ∨ wt ws 0 = kOne ∨ wt ws 0 = kAll then
        if isWd (wt ws 1) = true ∧ wt ws 1 ∉ rnX X.rs then
          (kpsF (wt ws 0) (ws.drop 2)).bind fun p => (lmpF p.2).bind fun q => if q.2.length = 0 then some ⟨wt ws 1, wt ws 0, depF row, p.1, q.1, [], []⟩ else none
        else none
      else none
    else none := by
    unfold roomF
    rw [if_pos h1, hws]
  by_cases h2 : X.rs.length < 40 ∧ X.drs.length = 0 ∧ 1 < ws.length
  case neg =>
    rw [if_neg h2] at eF
    rw [W_sSeq]
    refine W_sure ca false ?_ (fun h => by cases h) (fun _ => ⟨rfl, eF, Below.rfl' _ _⟩)
    by_cases d1 : X.rs.length < 40
    · by_cases d2 : X.drs.length = 0
      · have d3 : ¬ 1 < ws.length := fun z => h2 ⟨d1, d2, z⟩
        simp [A.ins, dfF, drf_o A.r, drf_o A.d, d1, d2]
        omega
      · have d2' : ¬ X.drs = [] := fun z => d2 (by rw [z]; rfl)
        have d1' : (X.rs.length : Int) < 40 := by omega
        simp [A.ins, dfF, drf_o A.r, drf_o A.d, d1', d2']
        try omega
    · have d1' : ¬ (X.rs.length : Int) < 40 := by omega
      simp [A.ins, dfF, drf_o A.r, d1']
      try omega
  case pos =>
  obtain ⟨d1, d2, d3⟩ := h2
  have h2 : X.rs.length < 40 ∧ X.drs.length = 0 ∧ 1 < ws.length := ⟨d1, d2, d3⟩
  rw [if_pos h2] at eF
  have hg0 : ∀ P : List Nat → Prop, OW (getI ws 0) P ↔ P (wt ws 0) := fun P => o_wt0 (by omega)
  have hg1 : ∀ P : List Nat → Prop, OW (getI ws 1) P ↔ P (wt ws 1) := fun P => o_wt1 (by omega)
  have d1' : (X.rs.length : Int) < 40 := by omega
  have d3' : (1 : Int) < (ws.length : Int) := by omega
  have d2' : X.drs = [] := List.length_eq_zero_iff.mp d2
  rw [W_sSeq]
  refine W_sure ca true ?_ (fun _ => ?_) (fun h => by cases h)
  · simp [A.ins, dfF, drf_o A.r, drf_o A.d, d1', d2', d3']
    try omega
  rw [W_sSeq]; simp [-W_sSeq, hg0]
  by_cases h3 : wt ws 0 = kPl ∨ wt ws 0 = kOne ∨ wt ws 0 = kAll
  case neg =>
    rw [if_neg h3] at eF
    have e1 : ¬ wt ws 0 = kPl := fun z => h3 (.inl z)
    have e2 : ¬ wt ws 0 = kOne := fun z => h3 (.inr (.inl z))
    have e3 : ¬ wt ws 0 = kAll := fun z => h3 (.inr (.inr z))
    rw [W_sSeq]
    refine W_sure ca false ?_ (fun h => by cases h) (fun _ => ⟨rfl, eF, Below.rfl' _ _⟩)
    simp [x_plain, x_one, x_all, e1, e2, e3]
  case pos =>
  rw [if_pos h3] at eF
  rw [W_sSeq]
  refine W_sure ca true ?_ (fun _ => ?_) (fun h => by cases h)
  · by_cases e1 : wt ws 0 = kPl
    · simp [x_plain, e1]
    · by_cases e2 : wt ws 0 = kOne
      · simp [x_plain, x_one, e2]; try decide
      · have e3 := (h3.resolve_left e1).resolve_left e2
        simp [x_plain, x_one, x_all, e3]; try decide
  have hwd := is_wd (wt ws 1) (by have := hlen (wt ws 1) (by simp [wt, d3]); omega) s
  by_cases h4 : isWd (wt ws 1) = true ∧ wt ws 1 ∉ rnX X.rs
  case neg =>
    rw [if_neg h4] at eF
    rw [W_sSeq]
    refine W_sure ca false ?_ (fun h => by cases h) (fun _ => ⟨rfl, eF, Below.rfl' _ _⟩)
    by_cases e1 : isWd (wt ws 1) = true
    · have e2 : wt ws 1 ∈ rnX X.rs := Classical.byContradiction fun z => h4 ⟨e1, z⟩
      simp [hg1, hwd, e1, A.ins, dfF, hnm, e2]
    · simp [hg1, hwd, e1]
  case pos =>
  rw [if_pos h4] at eF
  rw [W_sSeq]
  refine W_sure ca true ?_ (fun _ => ?_) (fun h => by cases h)
  · simp [hg1, hwd, h4.1, A.ins, dfF, hnm, h4.2]
  rw [W_sSeq]; simp [-W_sSeq, x_nil]
  rw [W_sSeq]; simp [-W_sSeq, x_nil]
  rw [W_sSeq]; simp [-W_sSeq, cut_from]
  have hk1 : ∀ c ∈ kKps, c < 128 := by unfold kKps; decide
  have hk2 : ∀ c ∈ kLmp, c < 128 := by unfold kLmp; decide
  have two : ∀ {R : List (List Nat)}, cutD R (some 2) none = R.drop 2 := fun {R} => by rw [cut_from _ _ (by decide)]; rfl
  have jn : ∀ {R : List (List Nat)}, (∀ w ∈ R, w.length ≤ 600) → ∀ P : D → Prop, OW (gJoin (tx []) (.lst (List.take 1 (List.map dT R).tail))) P ↔ P (.str (tx (wt R 1))) := fun {R} hR P => by
    rw [show List.take 1 (List.map dT R).tail = ((R.drop 1).take 1).map dT by simp, o_join0, flat_wt]
    constructor
    · exact fun h => h.2
    · intro h
      refine ⟨?_, h⟩
      rcases R with _ | ⟨a, _ | ⟨b, R⟩⟩
      · simp
      · simp
      · have := hR b (by simp)
        simp; omega
  obtain ⟨Z1, hZ1⟩ : ∃ Z : Sl → Sto → Prop, Z = (fun l s' => s = s' ∧ ∃ (kp lp : List Nat) (R : List (List Nat)), lp = [] ∧ kpsF (wt ws 0) (ws.drop 2) = some (kp, R) ∧ (∀ w ∈ R, w ∈ ws) ∧ l = [some (.obj o), some (.str (tx row)), some (.str (tx (bareF row))), some (nD (depF row)), some (.lst (ws.map dT)), some (dT (wt ws 0)), some (dT kp), some (dT lp), some (.lst (R.map dT))]) := ⟨_, rfl⟩
  have hdr : ∀ w ∈ ws.drop 2, w ∈ ws := fun w hw => List.mem_of_mem_drop hw
  have eR2 : (ws.map dT).drop 2 = (ws.drop 2).map dT := by rw [List.map_drop]
  rw [eR2]
  rw [W_sSeq]; refine W_cut Z1 ?_ ?_
  · obtain ⟨R, hRe⟩ : ∃ R, R = ws.drop 2 := ⟨_, rfl⟩
    have hRm : ∀ w ∈ R, w ∈ ws := by rw [hRe]; exact hdr
    have hRa : ∀ w ∈ R, ∀ c ∈ w, c < 128 := fun w hw => hasc w (hRm w hw)
    have hRl : ∀ w ∈ R, w.length ≤ 600 := fun w hw => hlen w (hRm w hw)
    rw [← hRe] at hZ1 eF ⊢
    refine W_ifD (decide (R.take 1 = [kKps])) ?_ ?_
    · simp [x_kps, eq_head hRa hk1]
    split
    · rename_i h5
      have h5 := of_decide_eq_true h5
      rw [W_sSeq]; simp [-W_sSeq, cut_12, jn hRl]
      by_cases h6 : (wt R 1 = kNear ∧ wt ws 0 = kOne) ∨ (wt R 1 = kDeep ∧ wt ws 0 ≠ kPl)
      · have ek : kpsF (wt ws 0) R = some (wt R 1, R.drop 2) := by unfold kpsF; rw [if_pos h5, if_pos h6]
        rw [W_sSeq]
        refine W_sure ca true ?_ (fun _ => ?_) (fun h => by cases h)
        · by_cases g1 : wt R 1 = kNear
          · by_cases g2 : wt ws 0 = kOne
            · simp [x_near, x_one, g1, g2]
            · obtain ⟨g3, _⟩ := h6.resolve_left fun z => g2 z.2
              rw [g1] at g3
              exact absurd g3 (by decide)
          · obtain ⟨g3, g4⟩ := h6.resolve_left fun z => g1 z.1
            simp [x_near, x_one, x_deep, x_plain, g1, g3, g4]
            try decide
        simp [two]
        rw [hZ1]
        exact ⟨rfl, wt R 1, [], R.drop 2, rfl, ek, fun w hw => hRm w (List.mem_of_mem_drop hw), by rw [List.map_drop]; rfl⟩
      · have ek : kpsF (wt ws 0) R = none := by unfold kpsF; rw [if_pos h5, if_neg h6]
        rw [W_sSeq]
        refine W_sure ca false ?_ (fun h => by cases h) (fun _ => ⟨rfl, by rw [eF, ek]; rfl, Below.rfl' _ _⟩)
        by_cases g1 : wt R 1 = kNear
        · have g2 : ¬ wt ws 0 = kOne := fun z => h6 (.inl ⟨g1, z⟩)
          simp [x_near, x_one, x_deep, g1, g2]
          exact fun z => absurd z (by decide)
        · by_cases g3 : wt R 1 = kDeep
          · have g4 : wt ws 0 = kPl := Classical.byContradiction fun z => h6 (.inr ⟨g3, z⟩)
            simp [x_near, x_deep, x_plain, g1, g3, g4]
            try decide
          · simp [x_near, x_deep, g1, g3]
    · rename_i h5
      have h5 : ¬ R.take 1 = [kKps] := fun z => h5 (decide_eq_true z)
      rw [W_sNil, hZ1]
      exact ⟨rfl, [], [], R, rfl, by unfold kpsF; rw [if_neg h5], hRm, rfl⟩
  intro l s' hz
  rw [hZ1] at hz
  obtain ⟨rfl, kp, lp, R, rfl, ek, hRm, rfl⟩ := hz
  rw [ek] at eF
  simp only [Option.bind_some] at eF
  have hRa : ∀ w ∈ R, ∀ c ∈ w, c < 128 := fun w hw => hasc w (hRm w hw)
  have hRl : ∀ w ∈ R, w.length ≤ 600 := fun w hw => hlen w (hRm w hw)
  obtain ⟨Z2, hZ2⟩ : ∃ Z : Sl → Sto → Prop, Z = (fun l s' => s = s' ∧ ∃ (lp : List Nat) (Q : List (List Nat)), lmpF R = some (lp, Q) ∧ Q.length ≤ R.length ∧ l = [some (.obj o), some (.str (tx row)), some (.str (tx (bareF row))), some (nD (depF row)), some (.lst (ws.map dT)), some (dT (wt ws 0)), some (dT kp), some (dT lp), some (.lst (Q.map dT))]) := ⟨_, rfl⟩
  rw [W_sSeq]; refine W_cut Z2 ?_ ?_
  · refine W_ifD (decide (R.take 1 = [kLmp])) ?_ ?_
    · simp [x_lmp, eq_head hRa hk2]
    split
    · rename_i h5
      have h5 := of_decide_eq_true h5
      rw [W_sSeq]; simp [-W_sSeq, cut_12, jn hRl]
      have hwd2 := is_wd (wt R 1) (by
        unfold wt
        cases h : R[1]? with
        | none => simp
        | some w => have := hRl w (List.mem_of_getElem? h); simp; omega) s
      by_cases h6 : isWd (wt R 1) = true
      · rw [W_sSeq]
        refine W_sure ca true (by simp [hwd2, h6]) (fun _ => ?_) (fun h => by cases h)
        simp [two]
        rw [hZ2]
        exact ⟨rfl, wt R 1, R.drop 2, by unfold lmpF; rw [if_pos h5, if_pos h6], by simp, by rw [List.map_drop]; rfl⟩
      · rw [W_sSeq]
        refine W_sure ca false (by simp [hwd2, h6]) (fun h => by cases h) (fun _ => ⟨rfl, ?_, Below.rfl' _ _⟩)
        rw [eF]
        unfold lmpF
        rw [if_pos h5, if_neg h6]
        rfl
    · rename_i h5
      have h5 : ¬ R.take 1 = [kLmp] := fun z => h5 (decide_eq_true z)
      rw [W_sNil, hZ2]
      exact ⟨rfl, [], R, by unfold lmpF; rw [if_neg h5], Nat.le_refl _, rfl⟩
  intro l s' hz
  rw [hZ2] at hz
  obtain ⟨rfl, lp, Q, el, hQ, rfl⟩ := hz
  rw [el] at eF
  simp only [Option.bind_some] at eF
  have hQl : Q.length ≤ 100000 := by
    have h1 : R.length ≤ 100000 := by
      unfold kpsF at ek
      split at ek
      · split at ek
        · cases ek; simp; omega
        · cases ek
      · cases ek; simp; omega
    omega
  by_cases h7 : Q.length = 0
  · rw [if_pos h7] at eF
    have hQ0 : Q = [] := List.length_eq_zero_iff.mp h7
    rw [W_sSeq]
    refine W_sure ca true (by simp [hQ0]) (fun _ => ?_) (fun h => by cases h)
    simp [A.ins, dfF, lstAt_o A.r, hg1]
    refine ⟨by omega, ⟨_, eF, A.setR ⟨wt ws 1, wt ws 0, depF row, kp, lp, [], []⟩⟩, Below.set _ _ (by omega)⟩
  · rw [if_neg h7] at eF
    have hQ0 : ¬ Q = [] := fun z => h7 (by rw [z]; rfl)
    rw [W_sSeq]
    refine W_sure ca false (by simp [hQ0]; try omega) (fun h => by cases h) (fun _ => ⟨rfl, eF, Below.rfl' _ _⟩)
end
end Law

namespace Law
open PySem Vx
/-! one more row; all rows -/
def kBox : List Nat := [98, 111, 120]
def kEvt : List Nat := [101, 118, 101, 110, 116]
def kI : List Nat := [105, 110]
def kO : List Nat := [111, 117, 116]
def kDoor : List Nat := [100, 111, 111, 114]
def kWhen : List Nat := [119, 104, 101, 110]
def kDo : List Nat := [100, 111]
def kRoom : List Nat := [114, 111, 111, 109]
theorem x_box : Str.ofString "box" = tx kBox := by rw [tx_lit]; rfl
theorem x_evt : Str.ofString "event" = tx kEvt := by rw [tx_lit]; rfl
theorem x_i : Str.ofString "in" = tx kI := by rw [tx_lit]; rfl
theorem x_o : Str.ofString "out" = tx kO := by rw [tx_lit]; rfl
theorem x_door : Str.ofString "door" = tx kDoor := by rw [tx_lit]; rfl
theorem x_when : Str.ofString "when" = tx kWhen := by rw [tx_lit]; rfl
theorem x_do : Str.ofString "do" = tx kDo := by rw [tx_lit]; rfl
theorem x_room : Str.ofString "room" = tx kRoom := by rw [tx_lit]; rfl
/-- the rows that this text does not follow: boxes, deeds, guards -/
def odd (row : List Nat) : Prop := wt (wds 32 row) 0 = kBox ∨ wt (wds 32 row) 0 = kI ∨ wt (wds 32 row) 0 = kO ∨ wt (wds 32 row) 0 = kWhen ∨ wt (wds 32 row) 0 = kDo
noncomputable def takeG (X : Df) (row : List Nat) : Option (Df × List Nat) :=
  let ws := wds 32 row
  if X.hd.length < 3 then (headF X ws).map fun x => ({ X with hd := X.hd ++ [x] }, wt ws 0)
  else if wt ws 0 = kEvt then (eventF X ws).map fun x => ({ X with es := X.es ++ [x] }, wt ws 0)
  else if wt ws 0 = kDoor then (doorF X ws).map fun x => ({ X with drs := X.drs ++ [x] }, wt ws 0)
  else (roomF X row).map fun x => ({ X with rs := X.rs ++ [x] }, kRoom)
noncomputable def takeF (X : Df) (row : List Nat) : Option Df := (takeG X row).map fun p => { p.1 with ls := p.2 }
structure RowOk (row : List Nat) : Prop where
  len : row.length ≤ 600
  asc : ∀ c ∈ row, c < 128
theorem wds_cnt (l : List Nat) (c : Nat) : (wds c l).length ≤ l.length + 1 := by
  have : ∀ (l acc : List Nat), (TL.spl [c] 0 acc l).length ≤ l.length + 1 := by
    intro l
    induction l with
    | nil => intro acc; rw [TL.spl_nil]; simp
    | cons a r ih =>
      intro acc
      by_cases hp : TL.pre [c] (a :: r) = true
      · rw [TL.spl_hit hp]
        have := ih []
        simp at this ⊢; omega
      · rw [TL.spl_miss (by simpa using hp)]
        have := ih (acc ++ [a])
        simp at this ⊢; omega
  exact this l []
section
variable {ca : Nat → Nat} {s : Sto} {o : Nat} {X : Df}
theorem take (A : DfAt ca s o X) (L : DfLe X) {row : List Nat} (hr : RowOk row) (hB : 3 ≤ X.hd.length → ¬ odd row) :
    (m_Draft_take ca [.obj o, .str (tx row)] s).S (fun d s' => d = .non ∧ (∃ X', takeF X row = some X' ∧ DfAt ca s' o X') ∧ Below o s s') (fun x s' => x = noW ca ∧ takeF X row = none ∧ Below o s s') := by
  have hrl := hr.len
  have hpos := wds_pos 32 row
  have hcnt := wds_cnt row 32
  have hw : ∀ w ∈ wds 32 row, w.length ≤ 640 := fun w hw => by have := wds_len hw; omega
  have hL3 := L.h
  unfold m_Draft_take b_Draft_take
  simp only [w_mDef, startD]
  refine ⟨rfl, ?_⟩
  rw [W_sSeq]; simp [-W_sSeq, x_sp, o_split]
  refine ⟨by omega, ?_⟩
  obtain ⟨ws, hws⟩ : ∃ ws, ws = wds 32 row := ⟨_, rfl⟩
  have hB' : 3 ≤ X.hd.length → ¬ (wt ws 0 = kBox ∨ wt ws 0 = kI ∨ wt ws 0 = kO ∨ wt ws 0 = kWhen ∨ wt ws 0 = kDo) := by rw [hws]; exact hB
  have eG : takeG X row = if X.hd.length < 3 then (headF X ws).map fun x => ({ X with hd := X.hd ++ [x] }, wt ws 0)
      else if wt ws 0 = kEvt then (eventF X ws).map fun x => ({ X with es := X.es ++ [x] }, wt ws 0)
      else if wt ws 0 = kDoor then (doorF X ws).map fun x => ({ X with drs := X.drs ++ [x] }, wt ws 0)
      else (roomF X row).map fun x => ({ X with rs := X.rs ++ [x] }, kRoom) := by rw [hws]; rfl
  rw [← hws] at hpos hcnt hw ⊢
  have hg0 : ∀ P : List Nat → Prop, OW (getI ws 0) P ↔ P (wt ws 0) := fun P => o_wt0 (by omega)
  rw [W_sSeq]; simp [-W_sSeq, -W_sIf, hg0]
  obtain ⟨Z, hZ⟩ : ∃ Z : Sl → Sto → Prop, Z = (fun l s' => ∃ (X' : Df) (w : List Nat), takeG X row = some (X', w) ∧ DfAt ca s' o X' ∧ Below o s s' ∧ l = [some (.obj o), some (.str (tx row)), some (.lst (ws.map dT)), some (dT w)]) := ⟨_, rfl⟩
  have nof : takeG X row = none → takeF X row = none := fun h => by unfold takeF; rw [h]; rfl
  rw [W_sSeq]; refine W_cut Z ?_ ?_
  · by_cases h1 : X.hd.length < 3
    · rw [if_pos h1] at eG
      have h1' : (X.hd.length : Int) < 3 := by omega
      refine W_ifD true (by simp [A.ins, dfF, drf_o A.h, h1']; try omega) ?_; rw [if_pos rfl]
      simp [A.ins, dfF]
      refine (head A h1 hw (by omega)).imp (fun d s' h => ?_) (fun x s' h => ?_)
      · obtain ⟨_, ⟨x, hx, hA⟩, hb⟩ := h
        rw [hZ]
        exact ⟨_, _, by rw [eG, hx]; rfl, hA, hb, rfl⟩
      · obtain ⟨rfl, hx, hb⟩ := h
        exact ⟨rfl, nof (by rw [eG, hx]; rfl), hb⟩
    rw [if_neg h1] at eG
    have h1' : ¬ (X.hd.length : Int) < 3 := by omega
    refine W_ifD false (by simp [A.ins, dfF, drf_o A.h, h1']; try omega) ?_; rw [if_neg (by decide)]
    have hno := hB' (by omega)
    have n1 : ¬ wt ws 0 = kBox := fun z => hno (.inl z)
    have n2 : ¬ wt ws 0 = kI := fun z => hno (.inr (.inl z))
    have n3 : ¬ wt ws 0 = kO := fun z => hno (.inr (.inr (.inl z)))
    have n4 : ¬ wt ws 0 = kWhen := fun z => hno (.inr (.inr (.inr (.inl z))))
    have n5 : ¬ wt ws 0 = kDo := fun z => hno (.inr (.inr (.inr (.inr z))))
    refine W_ifD false (by simp [x_box, n1]) ?_; rw [if_neg (by decide)]
    by_cases h2 : wt ws 0 = kEvt
    · rw [if_pos h2] at eG
      refine W_ifD true (by simp [x_evt, h2]) ?_; rw [if_pos rfl]
      simp [A.ins, dfF]
      refine (happening A L hw (by omega)).imp (fun d s' h => ?_) (fun x s' h => ?_)
      · obtain ⟨_, ⟨x, hx, hA⟩, hb⟩ := h
        rw [hZ]
        exact ⟨_, _, by rw [eG, hx]; rfl, hA, hb, rfl⟩
      · obtain ⟨rfl, hx, hb⟩ := h
        exact ⟨rfl, nof (by rw [eG, hx]; rfl), hb⟩
    rw [if_neg h2] at eG
    refine W_ifD false (by simp [x_evt, h2]) ?_; rw [if_neg (by decide)]
    refine W_ifD false (by simp [x_i, x_o, n2, n3]) ?_; rw [if_neg (by decide)]
    by_cases h3 : wt ws 0 = kDoor
    · rw [if_pos h3] at eG
      refine W_ifD true (by simp [x_door, h3]) ?_; rw [if_pos rfl]
      simp [A.ins, dfF]
      refine (door A L (ws := ws) (by omega)).imp (fun d s' h => ?_) (fun x s' h => ?_)
      · obtain ⟨_, ⟨x, hx, hA⟩, hb⟩ := h
        rw [hZ]
        exact ⟨_, _, by rw [eG, hx]; rfl, hA, hb, rfl⟩
      · obtain ⟨rfl, hx, hb⟩ := h
        exact ⟨rfl, nof (by rw [eG, hx]; rfl), hb⟩
    rw [if_neg h3] at eG
    refine W_ifD false (by simp [x_door, h3]) ?_; rw [if_neg (by decide)]
    refine W_ifD false (by simp [x_when, x_do, n4, n5]) ?_; rw [if_neg (by decide)]
    rw [W_sSeq]; simp [-W_sSeq, A.ins, dfF]
    refine (room A L hr.len hr.asc).imp (fun d s' h => ?_) (fun x s' h => ?_)
    · obtain ⟨_, ⟨x, hx, hA⟩, hb⟩ := h
      rw [hZ]
      exact ⟨_, kRoom, by rw [eG, hx]; rfl, hA, hb, by rw [x_room]; rfl⟩
    · obtain ⟨rfl, hx, hb⟩ := h
      exact ⟨rfl, nof (by rw [eG, hx]; rfl), hb⟩
  intro l s' hz
  rw [hZ] at hz
  obtain ⟨X', w, eT, A', hb, rfl⟩ := hz
  have hset : s'.set o (.ins (ca 3) (putFD "last" (dT w) (dfF o X'.ls))) = s'.set o (.ins (ca 3) (dfF o w)) := rfl
  simp [A'.ins]
  refine ⟨by simp [dfF], ⟨{ X' with ls := w }, by unfold takeF; rw [eT]; rfl, ?_⟩, hb.trans (Below.set _ _ (Nat.le_refl _))⟩
  exact A'.setL w
end
end Law

namespace Law
open PySem Vx
section
variable {ca : Nat → Nat} {s : Sto} {o : Nat} {X : Df}
theorem fit_le {rs : List RmX} (h : ∀ r ∈ rs, r.dp ≤ 12) {dep : Nat} (hf : fitB rs (dep : Int) = true) : dep ≤ 12 := by
  unfold fitB at hf
  cases e : rs.getLast? with
  | none => rw [e] at hf; simp at hf; omega
  | some r =>
    rw [e] at hf
    have hr := h r (List.mem_of_getLast? e)
    simp only at hf
    split at hf <;> simp at hf <;> omega
theorem DfLe.step (L : DfLe X) {row : List Nat} {X' : Df} (h : takeF X row = some X') : DfLe X' := by
  unfold takeF takeG at h
  obtain ⟨p, hp, rfl⟩ := Option.map_eq_some_iff.mp h
  simp only at hp
  split at hp
  · rename_i h1
    obtain ⟨x, _, rfl⟩ := Option.map_eq_some_iff.mp hp
    exact ⟨by simp; omega, L.b, L.e, L.r, L.d, L.dp⟩
  split at hp
  · obtain ⟨x, hx, rfl⟩ := Option.map_eq_some_iff.mp hp
    unfold eventF at hx
    split at hx
    · rename_i h2
      exact ⟨L.h, L.b, by simp; omega, L.r, L.d, L.dp⟩
    · cases hx
  split at hp
  · obtain ⟨x, hx, rfl⟩ := Option.map_eq_some_iff.mp hp
    unfold doorF at hx
    split at hx
    · rename_i h2
      exact ⟨L.h, L.b, L.e, L.r, by simp; omega, L.dp⟩
    · cases hx
  · obtain ⟨x, hx, rfl⟩ := Option.map_eq_some_iff.mp hp
    unfold roomF at hx
    split at hx
    · rename_i h2
      simp only at hx
      split at hx
      · rename_i h3
        have hd : x.dp = depF row := by
          split at hx
          · split at hx
            · obtain ⟨p, _, hx⟩ := Option.bind_eq_some_iff.mp hx
              obtain ⟨q, _, hx⟩ := Option.bind_eq_some_iff.mp hx
              split at hx
              · cases hx; rfl
              · cases hx
            · cases hx
          · cases hx
        refine ⟨L.h, L.b, L.e, by simp; omega, L.d, fun r hr => ?_⟩
        rcases List.mem_append.mp hr with hr | hr
        · exact L.dp r hr
        · rw [List.mem_singleton.mp hr, hd]
          exact fit_le L.dp h2.2
      · cases hx
    · cases hx
def X0 : Df := ⟨[], [], [], [], [], []⟩
theorem X0_le : DfLe X0 := ⟨by simp [X0], by simp [X0], by simp [X0], by simp [X0], by simp [X0], by simp [X0]⟩
theorem draftNew (ca : Nat → Nat) (s : Sto) : ∃ s', m_Draft___init__ ca [.obj s.length] (s ++ [.ins (ca 3) []]) = .ok .non s' ∧ DfAt ca s' s.length X0 ∧ ∀ i, i < s.length → s'[i]? = s[i]? := by
  have h : (m_Draft___init__ ca [.obj s.length] (s ++ [.ins (ca 3) []])).S (fun d s' => d = .non ∧ DfAt ca s' s.length X0 ∧ ∀ i, i < s.length → s'[i]? = s[i]?) NoE := by
    unfold m_Draft___init__ b_Draft___init__
    simp only [w_mDef, startD]
    refine ⟨rfl, ?_⟩
    have ia : ∀ (fs : List (Str × D)) (rest : List Ob), insAt (ca 3) (s ++ Ob.ins (ca 3) fs :: rest) (.obj s.length) = some (s.length, fs) := fun fs rest => insAt_o (by simp)
    have st : ∀ (fs : List (Str × D)) (rest : List Ob) (v : Ob), (s ++ Ob.ins (ca 3) fs :: rest).set s.length v = s ++ v :: rest := fun fs rest v => by simp
    rw [W_sSeq]; simp [-W_sSeq, ia, putFD]
    rw [W_sSeq]; simp [-W_sSeq, ia, putFD]
    rw [W_sSeq]; simp [-W_sSeq, ia, putFD]
    rw [W_sSeq]; simp [-W_sSeq, ia, putFD]
    rw [W_sSeq]; simp [-W_sSeq, ia, putFD]
    refine ⟨⟨?_, ?_, ?_, ?_, ?_, ?_⟩, fun i hi => by rw [List.getElem?_append_left hi]⟩
    · rw [List.getElem?_append_right (Nat.le_refl _)]
      simp [dfF, X0, x_nil]
    all_goals
      rw [List.getElem?_append_right (by omega)]
      simp [X0]
  obtain ⟨d, s', h1, rfl, h2, h3⟩ := h.ok
  exact ⟨s', h1, h2, h3⟩
theorem told (A : DfAt ca s o X) (L : DfLe X) : m_Draft_told ca [.obj o] s = .ok (.tup (X.hd ++ [.tup (X.bs.map bxD), .tup (X.es.map dT), .tup (X.rs.map RmX.D), .tup (X.drs.map DrX.D)])) s := by
  have := L.h
  have := L.b
  have := L.e
  have := L.r
  have := L.d
  have h : (m_Draft_told ca [.obj o] s).S (fun d s' => s = s' ∧ d = .tup (X.hd ++ [.tup (X.bs.map bxD), .tup (X.es.map dT), .tup (X.rs.map RmX.D), .tup (X.drs.map DrX.D)])) NoE := by
    unfold m_Draft_told b_Draft_told
    simp only [w_mDef, startD]
    refine ⟨rfl, ?_⟩
    rw [W_sSeq]; simp [-W_sSeq, A.ins, dfF, drf_o A.b, drf_o A.e, drf_o A.r, drf_o A.d]
    simp [A.ins, dfF, drf_o A.h]
    try omega
  obtain ⟨d, s', h1, rfl, rfl⟩ := h.ok
  exact h1
/-- all rows: the first that can't stand, or what they make -/
noncomputable def readR : Df → List (List Nat) → Nat → Sum Nat Df
  | X, [], _ => .inr X
  | X, row :: rest, k => match takeF X row with
    | none => .inl (k + 1)
    | some X' => readR X' rest (k + 1)
/-- no odd row where the head is read -/
noncomputable def oddR : Df → List (List Nat) → Prop
  | _, [] => False
  | X, row :: rest => (3 ≤ X.hd.length ∧ odd row) ∨ ∃ X', takeF X row = some X' ∧ oddR X' rest
theorem readR_app : ∀ (xs ys : List (List Nat)) (X : Df) (k : Nat), readR X (xs ++ ys) k = match readR X xs k with
    | .inl n => .inl n
    | .inr X' => readR X' ys (k + xs.length)
  | [], ys, X, k => by simp [readR]
  | row :: xs, ys, X, k => by
    show (match takeF X row with | none => _ | some X' => readR X' (xs ++ ys) (k + 1)) = _
    cases h : takeF X row with
    | none => simp [readR, h]
    | some X' =>
      simp only [readR, h]
      rw [readR_app xs ys X' (k + 1)]
      cases readR X' xs (k + 1) with
      | inl n => rfl
      | inr Y =>
        simp only
        rw [show k + 1 + xs.length = k + (row :: xs).length by simp; omega]
def unread (ca : Nat → Nat) (n : Nat) : Ex := ⟨ca 15, 15, [("row", nD n)]⟩
theorem x_nl : Str.ofString "\n" = tx [10] := by rw [tx_lit]; rfl
def dfD (X : Df) : D := .tup (X.hd ++ [.tup (X.bs.map bxD), .tup (X.es.map dT), .tup (X.rs.map RmX.D), .tup (X.drs.map DrX.D)])
theorem read (s : Sto) {t : List Nat} (ht : t.length ≤ 1000000) (hr : ∀ row ∈ wds 10 t, RowOk row) (ho : ¬ oddR X0 (wds 10 t)) :
    (m_read ca [.str (tx t)] s).S (fun d s' => (∃ X, readR X0 (wds 10 t) 0 = .inr X ∧ wholeB X.rs = true ∧ d = dfD X) ∧ ∀ i, i < s.length → s'[i]? = s[i]?)
      (fun x s' => (∃ n, x = unread ca n ∧ (readR X0 (wds 10 t) 0 = .inl n ∨ ∃ X, readR X0 (wds 10 t) 0 = .inr X ∧ wholeB X.rs = false ∧ n = (wds 10 t).length + 1)) ∧ ∀ i, i < s.length → s'[i]? = s[i]?) := by
  have hcnt := wds_cnt t 10
  unfold m_read b_read
  simp only [w_mDef, startD]
  refine ⟨rfl, ?_⟩
  rw [W_sSeq]; simp [-W_sSeq, x_nl, o_split]
  refine ⟨by omega, ?_⟩
  obtain ⟨rows, hrows⟩ : ∃ rows, rows = wds 10 t := ⟨_, rfl⟩
  rw [← hrows] at hr ho hcnt ⊢
  obtain ⟨s1, n1, n2, n3⟩ := draftNew ca s
  rw [W_sSeq]; simp [-W_sSeq, n1]
  obtain ⟨I, hI⟩ : ∃ I : Nat → Sl → Sto → Prop, I = (fun k l s' => ∃ (X : Df) (z3 : Option D), readR X0 (rows.take k) 0 = .inr X ∧ DfAt ca s' s.length X ∧ DfLe X ∧ (oddR X (rows.drop k) → oddR X0 rows) ∧ (∀ i, i < s.length → s'[i]? = s[i]?) ∧ l = [some (.str (tx t)), some (.lst (rows.map dT)), some (.obj s.length), z3]) := ⟨_, rfl⟩
  rw [W_sSeq]; refine W_cut (I rows.length) ?_ ?_
  · rw [W_sFor]; simp [-W_sSeq]
    refine ⟨by omega, ?_⟩
    refine W_rg 0 rows.length I ?_ ?_ (fun _ _ h => h)
    · rw [hI]
      exact ⟨X0, none, by simp [readR], n2, X0_le, by simp, n3, rfl⟩
    · intro k l s2 hk hi
      rw [hI] at hi
      obtain ⟨X, z3, hR, A, L, hod, hlow, rfl⟩ := hi
      have hdk : rows.drop k = rows[k] :: rows.drop (k + 1) := List.drop_eq_getElem_cons hk
      have hno : 3 ≤ X.hd.length → ¬ odd rows[k] := fun h1 h2 => ho (hod (by rw [hdk]; exact .inl ⟨h1, h2⟩))
      have htk : rows.take (k + 1) = rows.take k ++ [rows[k]] := by rw [List.take_succ, List.getElem?_eq_getElem hk]; rfl
      have hstep : ∀ r, readR X0 (rows.take (k + 1)) 0 = r ↔ (match takeF X rows[k] with | none => .inl (k + 1) | some X' => .inr X') = r := fun r => by
        rw [htk, readR_app, hR]
        simp only [readR]
        have e : 0 + (rows.take k).length = k := by simp; omega
        rw [e]
      rw [W_sTryX]
      simp [insAt_o A.i0, dfF, getI_T rows k hk]
      refine (take A L (hr _ (List.getElem_mem hk)) hno).imp (fun d s3 h => ?_) (fun x s3 h => ?_)
      · obtain ⟨_, ⟨X', hX, hA⟩, hb⟩ := h
        rw [hI]
        refine ⟨X', some (nD k), (hstep _).mpr (by rw [hX]), hA, L.step hX, fun h => hod (by rw [hdk]; exact .inr ⟨X', hX, h⟩), fun i hi => by rw [hb.2 i hi]; exact hlow i hi, rfl⟩
      · obtain ⟨rfl, hX, hb⟩ := h
        simp [noW, tabL, List.lookup]
        refine ⟨⟨k + 1, by simp [unread], .inl ?_⟩, fun i hi => by rw [hb.2 i hi]; exact hlow i hi⟩
        have h1 : readR X0 (rows.take (k + 1)) 0 = .inl (k + 1) := (hstep _).mpr (by rw [hX])
        have h2 := readR_app (rows.take (k + 1)) (rows.drop (k + 1)) X0 0
        rw [List.take_append_drop, h1] at h2
        exact h2
  intro l s2 hi
  rw [hI] at hi
  obtain ⟨X, z3, hR, A, L, _, hlow, rfl⟩ := hi
  rw [List.take_length] at hR
  have hw := whole A
  have htd := told A L
  by_cases h : wholeB X.rs = true
  · rw [W_sSeq]; refine W_ifD false (by simp [insAt_o A.i0, dfF, hw, h]) ?_; rw [if_neg (by decide), W_sNil]
    simp [insAt_o A.i0, dfF, htd]
    exact ⟨⟨X, hR, h, rfl⟩, hlow⟩
  · have h : wholeB X.rs = false := by simpa using h
    rw [W_sSeq]; refine W_ifD true (by simp [insAt_o A.i0, dfF, hw, h]) ?_; rw [if_pos rfl]
    simp
    exact ⟨⟨rows.length + 1, by simp [unread], .inr ⟨X, hR, h, rfl⟩⟩, hlow⟩
end
end Law

namespace Law
open PySem Vx
/-! law 56: halls, entries, names -/
structure Hl where
  kd : List Nat
  dp : Nat
def hlD (h : Hl) : D := .tup [dT h.kd, nD h.dp]
def lastP (hs : List Hl) : Nat := (hs.getLast?.map Hl.dp).getD 0
theorem x_sprout : True := trivial
theorem depth (q : Nat) (hs : List Hl) (hl : hs.length ≤ 100) (hd : ∀ h ∈ hs, h.dp ≤ 1000) (s : Sto) : ∃ d : Nat, m__law_depth [nD q, .lst (hs.map hlD)] s = .ok (nD d) s ∧ d ≤ lastP hs + 3 := by
  have h : (m__law_depth [nD q, .lst (hs.map hlD)] s).S (fun r s' => s = s' ∧ ∃ d : Nat, r = nD d ∧ d ≤ lastP hs + 3) NoE := by
    unfold m__law_depth b__law_depth
    simp only [w_mDef, startD]
    refine ⟨rfl, ?_⟩
    cases e : hs.getLast? with
    | none =>
      have hn : hs = [] := by simpa using e
      subst hn
      rw [W_sSeq]; refine W_ifD false ?_ ?_
      · simp
      rw [if_neg (by decide), W_sNil]
      rw [W_sSeq]; refine W_ifD true (by simp) ?_; rw [if_pos rfl]
      simp
      by_cases h : (22 : Int) < (q : Int) % 24
      · rw [if_pos h]
        exact ⟨(q % 24 - 22), by omega, by omega⟩
      · rw [if_neg h]
        exact ⟨0, by omega, by omega⟩
    | some r =>
      have hlp : lastP hs = r.dp := by unfold lastP; rw [e]; rfl
      have hr : r.dp ≤ 1000 := hd r (List.mem_of_getLast? e)
      have hl0 : 0 < hs.length := by
        cases h : hs with
        | nil => rw [h] at e; simp at e
        | cons a b => simp
      have hl0' : (0 : Int) < (hs.length : Int) := by omega
      have hl0n : ¬ (hs.length : Int) = 0 := by omega
      have hne : ¬ hs = [] := fun z => by rw [z] at hl0; simp at hl0
      have gl := fun Q => getI_last (Q := Q) e
      rw [W_sSeq]; refine W_ifD (decide (q % 8 = 0)) ?_ ?_
      · simp [hl0', hl0]
        split <;> omega
      split
      · simp [gl, hlD]
        refine ⟨by omega, q / 8 % (r.dp + 4), by push_cast; rfl, ?_⟩
        have := Nat.mod_lt (q / 8) (show 0 < r.dp + 4 by omega)
        omega
      rw [W_sNil]
      rw [W_sSeq]; refine W_ifD false (by simp [hl0n, hne]; try omega) ?_; rw [if_neg (by decide), W_sNil]
      by_cases hk : r.kd = kPl
      · rw [W_sSeq]; refine W_ifD false (by simp [gl, hlD, x_plain, hk]) ?_; rw [if_neg (by decide), W_sNil]
        simp [gl, hlD]
        obtain ⟨m, hm, hm2, hm3⟩ : ∃ m : Nat, (if (1 : Int) < (r.dp : Int) then (r.dp : Int) else 1) = (m : Int) ∧ 0 < m ∧ m ≤ r.dp + 1 := by
          by_cases h : (1 : Int) < (r.dp : Int)
          · exact ⟨r.dp, by rw [if_pos h], by omega, by omega⟩
          · exact ⟨1, by rw [if_neg h]; rfl, by omega, by omega⟩
        rw [hm]
        have := Nat.mod_lt (q / 8) hm2
        refine ⟨by omega, ⟨1 + q / 8 % m, by push_cast; rfl, by omega⟩⟩
      · rw [W_sSeq]; refine W_ifD true (by simp [gl, hlD, x_plain, hk]) ?_; rw [if_pos rfl]
        simp [gl, hlD]
        exact ⟨r.dp + 1, by omega, by omega⟩
  obtain ⟨d, s', h1, rfl, x, rfl, hx⟩ := h.ok
  exact ⟨x, h1, hx⟩
def kdOk (k : List Nat) : Prop := k = kPl ∨ k = kOne ∨ k = kAll
theorem halls {ns : List Int} (hn : ns.length ≤ 63) {s : Sto} (hno : stoNo s = true) : ∃ hs : List Hl, m__law_halls [.lst (ns.map .int)] s = .ok (.lst (hs.map hlD)) s ∧ 1 ≤ hs.length ∧ hs.length ≤ 42 ∧ ∀ h ∈ hs, kdOk h.kd ∧ h.dp ≤ 200 := by
  have h : (m__law_halls [.lst (ns.map .int)] s).S (fun d s' => s = s' ∧ ∃ hs : List Hl, d = .lst (hs.map hlD) ∧ 1 ≤ hs.length ∧ hs.length ≤ 42 ∧ ∀ h ∈ hs, kdOk h.kd ∧ h.dp ≤ 200) NoE := by
    unfold m__law_halls b__law_halls
    simp only [w_mDef, startD]
    refine ⟨rfl, ?_⟩
    obtain ⟨Z, hZ⟩ : ∃ Z : Nat → Sl → Sto → Prop, Z = (fun so l s' => s = s' ∧ ∃ n : Nat, 1 ≤ n ∧ n ≤ 42 ∧ l = [some (.lst (ns.map .int)), some (nD n), some (nD so), none, none, none, none, none]) := ⟨_, rfl⟩
    rw [W_sSeq]; simp (disch := omega) [-W_sSeq, -W_sIf, mixed ns hn]
    rw [W_sSeq]; simp (disch := omega) [-W_sSeq, -W_sIf, mixed ns hn]
    obtain ⟨so, hso⟩ : ∃ so : Nat, so = mx ns 0 2 % 6 := ⟨_, rfl⟩
    rw [W_sSeq]; refine W_cut (Z so) ?_ ?_
    · refine W_ifD (decide (so = 1)) (by simp; try omega) ?_
      split
      · simp (disch := omega) [mixed ns hn]
        have hm := Nat.mod_lt (mx ns 0 13) (show 0 < 4 by omega)
        have h4 : mx ns 0 13 % 4 = 0 ∨ mx ns 0 13 % 4 = 1 ∨ mx ns 0 13 % 4 = 2 ∨ mx ns 0 13 % 4 = 3 := by omega
        rw [getI_gi (k := mx ns 0 13 % 4) (by push_cast; rfl) (by simpa using hm)]
        rcases h4 with h | h | h | h <;> simp [h] <;> rw [hZ]
        · exact ⟨rfl, 13 + mx ns 0 3 % 27, by omega, by omega, by rw [hso]; simp⟩
        · exact ⟨rfl, 40, by omega, by omega, by rw [hso]; simp⟩
        · exact ⟨rfl, 41, by omega, by omega, by rw [hso]; simp⟩
        · exact ⟨rfl, 42, by omega, by omega, by rw [hso]; simp⟩
      · rw [W_sNil, hZ]
        exact ⟨rfl, 1 + mx ns 0 1 % 12, by omega, by omega, by rw [hso]; simp⟩
    intro l s' hz
    rw [hZ] at hz
    obtain ⟨rfl, n, hn1, hn2, rfl⟩ := hz
    rw [W_sSeq]; refine W_cut (Z so) ?_ ?_
    · refine W_ifD (decide (so = 2)) (by simp; try omega) ?_
      split
      · simp (disch := omega) [mixed ns hn]
        rw [hZ]
        exact ⟨rfl, 11 + mx ns 0 3 % 5, by omega, by omega, by simp⟩
      · rw [W_sNil, hZ]
        exact ⟨rfl, n, hn1, hn2, rfl⟩
    clear hn1 hn2 n
    intro l s' hz
    rw [hZ] at hz
    obtain ⟨rfl, n, hn1, hn2, rfl⟩ := hz
    rw [W_sSeq]; simp [-W_sSeq]
    obtain ⟨I, hI⟩ : ∃ I : Nat → Sl → Sto → Prop, I = (fun k l s' => s = s' ∧ ∃ (hs : List Hl) (z4 z5 z6 z7 : Option D), hs.length = k ∧ (∀ h ∈ hs, kdOk h.kd ∧ h.dp ≤ 4 * k) ∧ l = [some (.lst (ns.map .int)), some (nD n), some (nD so), some (.lst (hs.map hlD)), z4, z5, z6, z7]) := ⟨_, rfl⟩
    rw [W_sSeq]; refine W_cut (I n) ?_ ?_
    · rw [W_sFor]; simp [-W_sSeq, -W_sIf]
      refine ⟨by omega, ?_⟩
      refine W_rg 0 n I ?_ ?_ (fun _ _ h => h)
      · rw [hI]
        exact ⟨rfl, [], none, none, none, none, rfl, by simp, rfl⟩
      · intro k l s' hk hi
        rw [hI] at hi
        obtain ⟨rfl, hs, z4, z5, z6, z7, hhl, hhs, rfl⟩ := hi
        have hlast : lastP hs ≤ 4 * k := by
          unfold lastP
          cases e : hs.getLast? with
          | none => simp
          | some r => exact (hhs r (List.mem_of_getLast? e)).2
        obtain ⟨d, hd1, hd2⟩ := depth (mx ns k 5) hs (by omega) (fun h hh => by have := (hhs h hh).2; omega) s
        rw [W_sSeq]; simp (disch := omega) [-W_sSeq, -W_sIf, mixed ns hn]
        rw [W_sSeq]; simp (disch := omega) [-W_sSeq, -W_sIf, mixed ns hn, hd1]
        refine ⟨hno, ?_⟩
        generalize hq4 : mx ns k 4 = q4
        obtain ⟨Y, hY⟩ : ∃ Y : Sl → Sto → Prop, Y = (fun l s' => s = s' ∧ ∃ (d : Nat), d ≤ 4 * k + 4 ∧ l = [some (.lst (ns.map .int)), some (nD n), some (nD so), some (.lst (hs.map hlD)), some (nD k), some (nD q4), some (nD d), z7]) := ⟨_, rfl⟩
        rw [W_sSeq]; refine W_cut Y ?_ ?_
        · by_cases h0 : so % 3 ≠ 0 ∧ 0 < hs.length
          · obtain ⟨h01, h02⟩ := h0
            obtain ⟨r, hr⟩ : ∃ r, hs.getLast? = some r := by
              cases h : hs.getLast? with
              | none => have : hs = [] := by simpa using h
                        rw [this] at h02; simp at h02
              | some r => exact ⟨r, rfl⟩
            have gl := fun Q => getI_last (Q := Q) hr
            have hrd := (hhs r (List.mem_of_getLast? hr)).2
            have e1 : ¬ (so : Int) % 3 = 0 := by omega
            have e2 : (0 : Int) < (hs.length : Int) := by omega
            refine W_ifD true (by simp [e1, e2]; try omega) ?_; rw [if_pos rfl]
            obtain ⟨m, hm, hm2, hm3⟩ : ∃ m : Nat, (if (1 : Int) < (r.dp : Int) then (r.dp : Int) else 1) = (m : Int) ∧ 0 < m ∧ m ≤ r.dp + 1 := by
              by_cases h : (1 : Int) < (r.dp : Int)
              · exact ⟨r.dp, by rw [if_pos h], by omega, by omega⟩
              · exact ⟨1, by rw [if_neg h]; rfl, by omega, by omega⟩
            have hml := Nat.mod_lt (mx ns k 5) hm2
            rw [W_sSeq]; simp (disch := omega) [-W_sSeq, -W_sIf, mixed ns hn, gl, hlD]
            rw [hm]
            refine ⟨by omega, ?_⟩
            by_cases hk2 : r.kd = kPl
            · refine W_ifD false (by simp [gl, hlD, x_plain, hk2]) ?_; rw [if_neg (by decide), W_sNil, hY]
              exact ⟨rfl, 1 + mx ns k 5 % m, by omega, by simp [hlD]⟩
            · refine W_ifD true (by simp [gl, hlD, x_plain, hk2]) ?_; rw [if_pos rfl]
              simp [gl, hlD]
              rw [hY]
              exact ⟨rfl, r.dp + 1, by omega, by simp [hlD]⟩
          · refine W_ifD false ?_ ?_
            · by_cases e1 : (so : Int) % 3 = 0
              · simp [e1]
              · have e2 : ¬ (0 : Int) < (hs.length : Int) := fun z => h0 ⟨by omega, by omega⟩
                have e3 : hs = [] := List.length_eq_zero_iff.mp (by omega)
                simp [e1, e3]
            rw [if_neg (by decide), W_sNil, hY]
            exact ⟨rfl, d, by omega, by simp [hlD]⟩
        clear hd1 hd2 d
        intro l s' hy
        rw [hY] at hy
        obtain ⟨rfl, d, hd2, rfl⟩ := hy
        obtain ⟨K, hK⟩ : ∃ K : Sl → Sto → Prop, K = (fun l s' => s = s' ∧ ∃ kd : List Nat, kdOk kd ∧ l = [some (.lst (ns.map .int)), some (nD n), some (nD so), some (.lst (hs.map hlD)), some (nD k), some (nD q4), some (nD d), some (dT kd)]) := ⟨_, rfl⟩
        have pick2 : ∀ {z7 : Option D} {B C : Sl → Sto → Prop}, (sSet 7 (mBin gIx (mLst (mCons (mC (.str "one")) (mCons (mC (.str "all")) mNil))) (mBin gMod (mV 5) (mC (.int 2)))) [some (.lst (ns.map .int)), some (nD n), some (nD so), some (.lst (hs.map hlD)), some (nD k), some (nD q4), some (nD d), z7] s).W K (fun d s' => s = s' ∧ ∃ hs : List Hl, d = .lst (hs.map hlD) ∧ 1 ≤ hs.length ∧ hs.length ≤ 42 ∧ ∀ h ∈ hs, kdOk h.kd ∧ h.dp ≤ 200) B C (fun e _ s => NoE e s) := by
          intro z7 B C
          have h2 : q4 % 2 = 0 ∨ q4 % 2 = 1 := by omega
          simp
          rw [getI_gi (k := q4 % 2) (by push_cast; rfl) (by simp; omega)]
          rcases h2 with h | h <;> simp [h] <;> rw [hK]
          · exact ⟨rfl, kOne, .inr (.inl rfl), by rw [x_one]; rfl⟩
          · exact ⟨rfl, kAll, .inr (.inr rfl), by rw [x_all]; rfl⟩
        rw [W_sSeq]; refine W_cut K ?_ ?_
        · have h5 : q4 % 5 = 0 ∨ q4 % 5 = 1 ∨ q4 % 5 = 2 ∨ q4 % 5 = 3 ∨ q4 % 5 = 4 := by omega
          simp
          rw [getI_gi (k := q4 % 5) (by push_cast; rfl) (by simp; omega)]
          rcases h5 with h | h | h | h | h <;> simp [h] <;> rw [hK]
          · exact ⟨rfl, kOne, .inr (.inl rfl), by rw [x_one]; rfl⟩
          · exact ⟨rfl, kAll, .inr (.inr rfl), by rw [x_all]; rfl⟩
          · exact ⟨rfl, kPl, .inl rfl, by rw [x_plain]; rfl⟩
          · exact ⟨rfl, kPl, .inl rfl, by rw [x_plain]; rfl⟩
          · exact ⟨rfl, kOne, .inr (.inl rfl), by rw [x_one]; rfl⟩
        intro l s' hk3
        rw [hK] at hk3
        obtain ⟨rfl, kd, hkd, rfl⟩ := hk3
        rw [W_sSeq]; refine W_cut K ?_ ?_
        · refine W_ifD (decide (so = 2)) (by simp; try omega) ?_
          split
          · exact pick2
          · rw [W_sNil, hK]
            exact ⟨rfl, kd, hkd, rfl⟩
        clear hkd kd
        intro l s' hk3
        rw [hK] at hk3
        obtain ⟨rfl, kd, hkd, rfl⟩ := hk3
        rw [W_sSeq]; refine W_cut K ?_ ?_
        · refine W_ifD (decide (k = 0 ∧ 1 < n ∧ 0 < q4 / 5 % 8)) (by simp; (repeat' split) <;> (try simp_all) <;> (try omega) <;> (try exact Bool.eq_iff_iff.mpr (by simp <;> omega))) ?_
          split
          · exact pick2
          · refine W_ifD (decide (k + 1 = n ∧ 0 < q4 / 5 % 6 ∨ so = 1 ∧ 0 < k ∧ 1 < q4 / 5 % 8)) (by simp; (repeat' split) <;> (try simp_all) <;> (try omega) <;> (try exact Bool.eq_iff_iff.mpr (by simp <;> omega))) ?_
            split
            · simp
              rw [hK]
              exact ⟨rfl, kPl, .inl rfl, by rw [x_plain]; rfl⟩
            · rw [W_sNil, hK]
              exact ⟨rfl, kd, hkd, rfl⟩
        clear hkd kd
        intro l s' hk3
        rw [hK] at hk3
        obtain ⟨rfl, kd, hkd, rfl⟩ := hk3
        simp
        refine ⟨by omega, ?_⟩
        rw [hI]
        refine ⟨rfl, hs ++ [⟨kd, d⟩], some (nD k), some (nD q4), some (nD d), some (dT kd), by simp [hhl], fun h hh => ?_, by simp [hlD]⟩
        rcases List.mem_append.mp hh with hh | hh
        · have := hhs h hh
          exact ⟨this.1, by omega⟩
        · rw [List.mem_singleton.mp hh]
          exact ⟨hkd, by show d ≤ 4 * (k + 1); omega⟩
    intro l s' hi
    rw [hI] at hi
    obtain ⟨rfl, hs, z4, z5, z6, z7, hhl, hhs, rfl⟩ := hi
    simp
    exact ⟨hs, rfl, by omega, by omega, fun h hh => ⟨(hhs h hh).1, by have := (hhs h hh).2; omega⟩⟩
  obtain ⟨d, s', h1, rfl, x, rfl, hx⟩ := h.ok
  exact ⟨x, h1, hx⟩
end Law

namespace Law
open PySem Vx
/-! law 56: names, entries -/
def stemT : List (List Nat) := [[], [105, 110], [112, 108, 97, 105, 110], [107, 101, 101, 112, 115, 107, 101, 101, 112, 115]]
def stem (q : Nat) : List Nat := wt stemT (q % 4)
def atN (q : Nat) : Nat := q / 4 % ((stem q).length + 1)
/-- the k-th name -/
def nmS (q k : Nat) : List Nat := (stem q).take (atN q) ++ ([97 + k % 26, 109 + k / 26] ++ (stem q).drop (atN q))
theorem stem_ok : ∀ i, i < 4 → (wt stemT i).length ≤ 10 ∧ ∀ c ∈ wt stemT i, 97 ≤ c ∧ c ≤ 122 := by decide
theorem nmS_len (q k : Nat) : (nmS q k).length = (stem q).length + 2 := by
  unfold nmS
  have : atN q ≤ (stem q).length := by have := Nat.mod_lt (q / 4) (show 0 < (stem q).length + 1 by omega); unfold atN; omega
  simp
  omega
theorem nmS_wd (q : Nat) {k : Nat} (hk : k < 52) : isWd (nmS q k) = true := by
  obtain ⟨h1, h2⟩ := stem_ok (q % 4) (Nat.mod_lt _ (by omega))
  have h1 : (stem q).length ≤ 10 := h1
  refine (isWd_iff _).mpr ⟨by rw [nmS_len]; omega, by rw [nmS_len]; omega, fun c hc => ?_⟩
  unfold nmS at hc
  rcases List.mem_append.mp hc with hc | hc
  · exact h2 c (List.mem_of_mem_take hc)
  rcases List.mem_append.mp hc with hc | hc
  · simp at hc; omega
  · exact h2 c (List.mem_of_mem_drop hc)
theorem nmS_inj {q k j : Nat} (h : nmS q k = nmS q j) : k = j := by
  unfold nmS at h
  have h := List.append_cancel_right (List.append_cancel_left h)
  simp at h
  omega
def abcT : List Nat := [97, 98, 99, 100, 101, 102, 103, 104, 105, 106, 107, 108, 109, 110, 111, 112, 113, 114, 115, 116, 117, 118, 119, 120, 121, 122]
theorem x_abc : Str.ofString "abcdefghijklmnopqrstuvwxyz" = tx abcT := by rw [tx_lit]; rfl
theorem x_mn : Str.ofString "mn" = tx [109, 110] := by rw [tx_lit]; rfl
theorem x_pln : Str.ofString "plain" = tx [112, 108, 97, 105, 110] := by rw [tx_lit]; rfl
theorem x_kk : Str.ofString "keepskeeps" = tx [107, 101, 101, 112, 115, 107, 101, 101, 112, 115] := by rw [tx_lit]; rfl
theorem abc_at : ∀ i, i < 26 → abcT[i]? = some (97 + i) := by decide
theorem name (k q : Nat) (hk : k < 52) (s : Sto) : m__law_name [nD k, nD q] s = .ok (.str (tx (nmS q k))) s := by
  have h : (m__law_name [nD k, nD q] s).S (fun d s' => s = s' ∧ d = .str (tx (nmS q k))) NoE := by
    unfold m__law_name b__law_name
    simp only [w_mDef, startD]
    refine ⟨rfl, ?_⟩
    have hm : q % 4 < 4 := Nat.mod_lt _ (by omega)
    obtain ⟨h1, h2⟩ := stem_ok (q % 4) hm
    have h1 : (stem q).length ≤ 10 := h1
    rw [W_sSeq]; refine W_cut (fun l s' => s = s' ∧ l = [some (nD k), some (nD q), some (.str (tx (stem q))), none]) ?_ ?_
    · simp [x_nil, x_i, x_pln, x_kk]
      rw [getI_gi (k := q % 4) (by push_cast; rfl) (by simp; omega)]
      have hq : q % 4 = 0 ∨ q % 4 = 1 ∨ q % 4 = 2 ∨ q % 4 = 3 := by omega
      unfold stem
      rcases hq with h | h | h | h <;> simp [h, wt, stemT, kI]
    rintro l s' ⟨rfl, rfl⟩
    have e : ((q : Int) / 4 % ((stem q).length + 1 : Int)) = ((atN q : Nat) : Int) := by unfold atN; push_cast; rfl
    have hat : atN q ≤ (stem q).length := by have := Nat.mod_lt (q / 4) (show 0 < (stem q).length + 1 by omega); unfold atN; omega
    rw [W_sSeq]; simp [-W_sSeq, e]
    refine ⟨by omega, ?_⟩
    have g1 : ∀ P : Nat → Prop, OW (getI abcT ((k : Int) % 26)) P ↔ P (97 + k % 26) := fun P => by
      have e1 : getI abcT ((k : Int) % 26) = some (97 + k % 26) := by
        rw [show ((k : Int) % 26) = ((k % 26 : Nat) : Int) by push_cast; rfl, getI_nat _ _ (by omega) (by show ((k % 26 : Nat) : Int) < (26 : Int); omega)]
        exact abc_at _ (Nat.mod_lt _ (by omega))
      rw [e1, OW_some]
    have g2 : ∀ P : Nat → Prop, OW (getI [109, 110] ((k : Int) / 26)) P ↔ P (109 + k / 26) := fun P => by
      have hk2 : k / 26 = 0 ∨ k / 26 = 1 := by omega
      have e1 : getI [109, 110] ((k : Int) / 26) = some (109 + k / 26) := by
        rw [show ((k : Int) / 26) = ((k / 26 : Nat) : Int) by push_cast; rfl]
        rcases hk2 with h | h <;> rw [h] <;> rfl
      rw [e1, OW_some]
    simp [x_abc, x_mn, g1, g2, cut_to, cut_from]
    refine ⟨by show (26 : Nat) ≤ 16777216; omega, by omega, by omega, by omega, by omega, ?_⟩
    unfold nmS
    simp
  obtain ⟨d, s', h1, rfl, rfl⟩ := h.ok
  exact h1
/-- an entry: a room, or a door from a room -/
def enD (e : Bool × Nat) : D := .tup [dT (if e.1 = true then kRoom else kDoor), nD e.2]
structure EnOk (n : Nat) (es : List (Bool × Nat)) : Prop where
  len : es.length ≤ 200
  rooms : (es.filter (·.1)).map (·.2) = List.range n
  doors : ∀ e ∈ es, e.1 = false → e.2 < n
theorem entries {ns : List Int} (hn : ns.length ≤ 63) {hs : List Hl} (h1 : 1 ≤ hs.length) (h2 : hs.length ≤ 42) (s : Sto) : ∃ es : List (Bool × Nat), m__law_entries [.lst (ns.map .int), .lst (hs.map hlD)] s = .ok (.lst (es.map enD)) s ∧ EnOk hs.length es := by
  have h : (m__law_entries [.lst (ns.map .int), .lst (hs.map hlD)] s).S (fun d s' => s = s' ∧ ∃ es : List (Bool × Nat), d = .lst (es.map enD) ∧ EnOk hs.length es) NoE := by
    unfold m__law_entries b__law_entries
    simp only [w_mDef, startD]
    refine ⟨rfl, ?_⟩
    obtain ⟨Z, hZ⟩ : ∃ Z : Sl → Sto → Prop, Z = (fun l s' => s = s' ∧ ∃ m : Nat, m ≤ 62 ∧ l = [some (.lst (ns.map .int)), some (.lst (hs.map hlD)), some (nD m), none, none, none, none]) := ⟨_, rfl⟩
    rw [W_sSeq]; simp (disch := omega) [-W_sSeq, -W_sIf, mixed ns hn]
    rw [W_sSeq]; refine W_cut Z ?_ ?_
    · refine W_ifD (decide (mx ns 1 7 % 8 = 1)) (by simp (disch := omega) [mixed ns hn] <;> omega) ?_
      split
      · simp (disch := omega) [mixed ns hn]
        rw [hZ]
        exact ⟨rfl, 58 + mx ns 1 8 % 5, by omega, by simp⟩
      · rw [W_sNil, hZ]
        exact ⟨rfl, mx ns 1 6 % 4, by omega, by simp⟩
    intro l s' hz
    rw [hZ] at hz
    obtain ⟨rfl, m, hm, rfl⟩ := hz
    clear hZ Z
    obtain ⟨rms, hrms⟩ : ∃ rms : List (Bool × Nat), rms = (List.range hs.length).map fun k => (true, k) := ⟨_, rfl⟩
    obtain ⟨drs, hdrs⟩ : ∃ drs : List (Bool × Nat), drs = (List.range m).map fun k : Nat => (false, mx ns (k : Int) 9 % hs.length) := ⟨_, rfl⟩
    obtain ⟨Z, hZ⟩ : ∃ Z : Sl → Sto → Prop, Z = (fun l s' => s = s' ∧ ∃ z4, l = [some (.lst (ns.map .int)), some (.lst (hs.map hlD)), some (nD m), some (.lst (rms.map enD)), z4, none, none]) := ⟨_, rfl⟩
    rw [W_sSeq]; refine W_cut Z ?_ ?_
    · simp
      refine ⟨by omega, W_compR hs.length (fun k => enD (true, k)) (fun _ => true) (by omega) (fun k hk => ?_) ?_⟩
      · simp [wipeD, enD, x_room]
      · rw [List.filter_eq_self.mpr (by simp), hZ, hrms, List.map_map]
        exact ⟨rfl, _, rfl⟩
    intro l s' hz
    rw [hZ] at hz
    obtain ⟨rfl, z4, rfl⟩ := hz
    clear hZ Z
    obtain ⟨Z, hZ⟩ : ∃ Z : Sl → Sto → Prop, Z = (fun l s' => s = s' ∧ ∃ z4, l = [some (.lst (ns.map .int)), some (.lst (hs.map hlD)), some (nD m), some (.lst (rms.map enD)), z4, some (.lst (drs.map enD)), none]) := ⟨_, rfl⟩
    rw [W_sSeq]; refine W_cut Z ?_ ?_
    · simp
      refine ⟨by omega, W_compR m (fun k : Nat => enD (false, mx ns (k : Int) 9 % hs.length)) (fun _ => true) (by omega) (fun k hk => ?_) ?_⟩
      · simp (disch := omega) [wipeD, enD, x_door, mixed ns hn]
        try omega
      · rw [List.filter_eq_self.mpr (by simp), hZ, hdrs, List.map_map]
        exact ⟨rfl, _, rfl⟩
    intro l s' hz
    rw [hZ] at hz
    obtain ⟨rfl, z4, rfl⟩ := hz
    have hrl : rms.length = hs.length := by rw [hrms]; simp
    have hdl : drs.length = m := by rw [hdrs]; simp
    have rA : ∀ {xs : List (Bool × Nat)}, (∀ e ∈ xs, e.1 = true) → xs.filter (·.1) = xs := fun h => List.filter_eq_self.mpr h
    have rB : ∀ {xs : List (Bool × Nat)}, (∀ e ∈ xs, e.1 = false) → xs.filter (·.1) = [] := fun h => List.filter_eq_nil_iff.mpr fun e he => by simp [h e he]
    have hrT : ∀ e ∈ rms, e.1 = true := fun e he => by rw [hrms] at he; obtain ⟨k, _, rfl⟩ := List.mem_map.mp he; rfl
    have hdF : ∀ e ∈ drs, e.1 = false ∧ e.2 < hs.length := fun e he => by
      rw [hdrs] at he
      obtain ⟨k, _, rfl⟩ := List.mem_map.mp he
      exact ⟨rfl, Nat.mod_lt _ (by omega)⟩
    have hr2 : rms.map (·.2) = List.range hs.length := by rw [hrms, List.map_map]; simp [Function.comp_def]
    rw [W_sSeq]; refine W_ifD (decide (mx ns 1 10 % 8 = 2)) (by simp (disch := omega) [mixed ns hn] <;> omega) ?_
    split
    · obtain ⟨a, ha, ha2⟩ : ∃ a : Nat, ((mx ns 1 11 : Nat) : Int) % ((hs.length : Int) + 1) = (a : Int) ∧ a ≤ hs.length := ⟨mx ns 1 11 % (hs.length + 1), by push_cast; rfl, by have := Nat.mod_lt (mx ns 1 11) (show 0 < hs.length + 1 by omega); omega⟩
      rw [W_sSeq]; simp (disch := omega) [-W_sSeq, mixed ns hn]
      rw [ha]
      simp [cut_to, cut_from]
      refine ⟨by omega, by omega, by omega, rms.take a ++ ((false, 0) :: (rms.drop a ++ drs)), ?_, ?_⟩
      · simp [enD, x_door]
      · refine ⟨by simp; omega, ?_, fun e he hf => ?_⟩
        · rw [List.filter_append, rA fun e he => hrT e (List.mem_of_mem_take he)]
          simp only [List.filter_cons, Bool.false_eq_true, if_false]
          rw [List.filter_append, rA fun e he => hrT e (List.mem_of_mem_drop he), rB fun e he => (hdF e he).1, List.append_nil, ← hr2, List.take_append_drop]
        · rcases List.mem_append.mp he with he | he
          · have := hrT e (List.mem_of_mem_take he); rw [hf] at this; cases this
          rcases List.mem_cons.mp he with rfl | he
          · show 0 < hs.length; omega
          rcases List.mem_append.mp he with he | he
          · have := hrT e (List.mem_of_mem_drop he); rw [hf] at this; cases this
          · exact (hdF e he).2
    · rw [W_sNil]
      simp
      refine ⟨by omega, rms ++ drs, by simp, ⟨by simp; omega, ?_, fun e he hf => ?_⟩⟩
      · rw [List.filter_append, rA hrT, rB fun e he => (hdF e he).1, List.append_nil, hr2]
      · rcases List.mem_append.mp he with he | he
        · have := hrT e he; rw [hf] at this; cases this
        · exact (hdF e he).2
  obtain ⟨d, s', h3, rfl, es, rfl, he⟩ := h.ok
  exact ⟨es, h3, he⟩
end Law

namespace Law
open PySem Vx
/-! law 56: what is due -/
def hlAt (hs : List Hl) (k : Nat) : Hl := (hs[k]?).getD ⟨[], 0⟩
theorem hlAt_get {hs : List Hl} {k : Nat} (h : k < hs.length) : hlAt hs k = hs[k] := by unfold hlAt; rw [List.getElem?_eq_getElem h]; rfl
def fitsL (hs : List Hl) (k : Nat) : Bool :=
  if 12 < (hlAt hs k).dp ∨ k = 40 then false
  else if k = 0 then decide ((hlAt hs k).dp = 0)
  else if (hlAt hs (k - 1)).kd = kPl then decide (1 ≤ (hlAt hs k).dp) && decide ((hlAt hs k).dp ≤ (hlAt hs (k - 1)).dp)
  else decide ((hlAt hs k).dp = (hlAt hs (k - 1)).dp + 1)
theorem law_fits {hs : List Hl} {k : Nat} (hk : k < hs.length) (hl : hs.length ≤ 100) (s : Sto) : m__law_fits [.lst (hs.map hlD), nD k] s = .ok (.bl (fitsL hs k)) s := by
  have h : (m__law_fits [.lst (hs.map hlD), nD k] s).S (fun d s' => s = s' ∧ d = .bl (fitsL hs k)) NoE := by
    unfold m__law_fits b__law_fits
    simp only [w_mDef, startD]
    refine ⟨rfl, ?_⟩
    have g0 : ∀ P : Hl → Prop, OW (getI hs (k : Int)) P ↔ P (hlAt hs k) := fun P => by rw [getI_g hk, hlAt_get hk]
    rw [W_sSeq]; simp [-W_sSeq, g0, hlD]
    rw [W_sSeq]
    by_cases h1 : 12 < (hlAt hs k).dp ∨ k = 40
    · refine W_ifD true ?_ ?_
      · by_cases h2 : 12 < (hlAt hs k).dp
        · have : (12 : Int) < ((hlAt hs k).dp : Int) := by omega
          simp [this]
          try omega
        · have h3 := h1.resolve_left h2
          have : ¬ (12 : Int) < ((hlAt hs k).dp : Int) := by omega
          simp [this, h3]
          try omega
      rw [if_pos rfl]
      simp [fitsL, h1]
    have h1a : ¬ (12 : Int) < ((hlAt hs k).dp : Int) := fun z => h1 (.inl (by omega))
    have h1b : ¬ (k : Int) = 40 := fun z => h1 (.inr (by omega))
    have h1c : ¬ k = 40 := fun z => h1 (.inr z)
    refine W_ifD false (by simp [h1a, h1b, h1c]; try omega) ?_; rw [if_neg (by decide), W_sNil]
    by_cases h2 : k = 0
    · rw [W_sSeq]; refine W_ifD true (by simp [h2]) ?_; rw [if_pos rfl]
      simp [fitsL, h1, h2]
      try (subst h2; simp)
      try omega
    have h2' : ¬ (k : Int) = 0 := by omega
    rw [W_sSeq]; refine W_ifD false (by simp [h2', h2]) ?_; rw [if_neg (by decide), W_sNil]
    have g1 : ∀ P : Hl → Prop, OW (getI hs ((k : Int) - 1)) P ↔ P (hlAt hs (k - 1)) := fun P => by
      rw [show ((k : Int) - 1) = ((k - 1 : Nat) : Int) by omega, getI_g (show k - 1 < hs.length by omega), hlAt_get (show k - 1 < hs.length by omega)]
    by_cases h3 : (hlAt hs (k - 1)).kd = kPl
    · rw [W_sSeq]; refine W_ifD true (by simp [g1, hlD, x_plain, h3]) ?_; rw [if_pos rfl]
      simp [g1, hlD, fitsL, h1, h2, h3]
      split <;> (intro h; omega)
    · rw [W_sSeq]; refine W_ifD false (by simp [g1, hlD, x_plain, h3]) ?_; rw [if_neg (by decide), W_sNil]
      simp [g1, hlD, fitsL, h1, h2, h3]
      try omega
  obtain ⟨d, s', h1, rfl, rfl⟩ := h.ok
  exact h1
/-- the last room of so many is plain -/
def lastPl (hs : List Hl) (r : Nat) : Bool := decide (0 < r) && decide ((hlAt hs (r - 1)).kd = kPl)
def dueF (hs : List Hl) : List (Bool × Nat) → Nat → Nat → Nat → Nat
  | [], r, _, j => if lastPl hs r = true then 0 else j + 1
  | e :: es, r, d, j => if e.1 = true then (if 0 < d ∨ fitsL hs e.2 = false then j + 1 else dueF hs es (r + 1) d (j + 1))
    else (if lastPl hs r = false ∨ d = 60 ∨ r ≤ e.2 then j + 1 else dueF hs es r (d + 1) (j + 1))
end Law

namespace Law
open PySem Vx
/-! law 56: rows of rooms and doors, as they are read -/
def kKnk : List Nat := [107, 110, 111, 99, 107]
def rowR (hs : List Hl) (q k : Nat) : List Nat := (List.replicate (hlAt hs k).dp [32, 32]).flatten ++ ((hlAt hs k).kd ++ 32 :: nmS q k)
def rowD (q k : Nat) : List Nat := kDoor ++ 32 :: (nmS q k ++ 32 :: (kKnk ++ 32 :: kStay))
def rmX (hs : List Hl) (q k : Nat) : RmX := ⟨nmS q k, (hlAt hs k).kd, (hlAt hs k).dp, [], [], [], []⟩
def drX (i : Nat) : DrX := ⟨i, 0, .tup [dT kYes], [], kStay, none⟩
structure StX (hs : List Hl) (q r : Nat) (ds : List Nat) (X : Df) : Prop where
  hd : X.hd = [dT kOut, .int 1, .int 2]
  bs : X.bs = []
  es : X.es = [kKnk]
  rs : X.rs = (List.range r).map (rmX hs q)
  drs : X.drs = ds.map drX
structure HsOk (hs : List Hl) : Prop where
  len : hs.length ≤ 42
  kd : ∀ h ∈ hs, kdOk h.kd ∧ h.dp ≤ 200
theorem HsOk.at (H : HsOk hs) {k : Nat} (hk : k < hs.length) : kdOk (hlAt hs k).kd ∧ (hlAt hs k).dp ≤ 200 := by
  rw [hlAt_get hk]
  exact H.kd _ (List.getElem_mem hk)
theorem kd_low {k : List Nat} (h : kdOk k) : (∀ c ∈ k, 97 ≤ c ∧ c ≤ 122) ∧ 3 ≤ k.length ∧ k.length ≤ 5 := by
  rcases h with rfl | rfl | rfl <;> exact ⟨by decide, by decide, by decide⟩
section
variable {hs : List Hl} {q r : Nat} {ds : List Nat} {X : Df}
theorem nm_free {k : Nat} (hk : k < 52) : 32 ∉ nmS q k ∧ 10 ∉ nmS q k := wd_free (nmS_wd q hk)
theorem bare_rowR (H : HsOk hs) {k : Nat} (hk : k < hs.length) : bareF (rowR hs q k) = (hlAt hs k).kd ++ 32 :: nmS q k := by
  obtain ⟨h1, h2, h3⟩ := kd_low (H.at hk).1
  unfold bareF rowR
  have key : ∀ n (l : List Nat), ((List.replicate n [32, 32]).flatten ++ l).dropWhile (fun c => decide (c = 32)) = l.dropWhile fun c => decide (c = 32) := by
    intro n l
    induction n with
    | zero => rfl
    | succ n ih =>
      rw [List.replicate_succ, List.flatten_cons, List.append_assoc]
      simp [List.dropWhile_cons, ih]
  rw [key]
  cases e : (hlAt hs k).kd with
  | nil => rw [e] at h2; simp at h2
  | cons a b =>
    have ha : 97 ≤ a := (h1 a (by rw [e]; simp)).1
    rw [List.cons_append, List.dropWhile_cons, if_neg (by simp; omega)]
theorem len_rep (n : Nat) : ((List.replicate n [32, 32]).flatten).length = 2 * n := by
  induction n with
  | zero => rfl
  | succ n ih => rw [List.replicate_succ, List.flatten_cons, List.length_append, ih]; simp; omega
theorem dep_rowR (H : HsOk hs) {k : Nat} (hk : k < hs.length) : (rowR hs q k).length - (bareF (rowR hs q k)).length = 2 * (hlAt hs k).dp ∧ depF (rowR hs q k) = (hlAt hs k).dp := by
  have h1 : (rowR hs q k).length - (bareF (rowR hs q k)).length = 2 * (hlAt hs k).dp := by
    rw [bare_rowR H hk]
    unfold rowR
    rw [List.length_append, len_rep]
    omega
  exact ⟨h1, by unfold depF; rw [h1]; omega⟩
theorem wds_rowR (H : HsOk hs) {k : Nat} (hk : k < hs.length) : wds 32 (bareF (rowR hs q k)) = [(hlAt hs k).kd, nmS q k] := by
  have hl := H.len
  obtain ⟨h1, h2, h3⟩ := kd_low (H.at hk).1
  rw [bare_rowR H hk, wds_cons fun z => by have := h1 _ z; omega, wds_one (nm_free (by omega)).1]
theorem StX.names (S : StX hs q r ds X) : rnX X.rs = (List.range r).map (nmS q) := by
  unfold rnX
  rw [S.rs, List.map_map]
  rfl
theorem StX.nm_in (S : StX hs q r ds X) {k : Nat} : nmS q k ∈ rnX X.rs ↔ k < r := by
  rw [S.names]
  constructor
  · intro h
    obtain ⟨j, hj, e⟩ := List.mem_map.mp h
    rw [← nmS_inj e]
    simpa using hj
  · intro h
    exact List.mem_map.mpr ⟨k, by simpa using h, rfl⟩
theorem StX.last (S : StX hs q r ds X) : X.rs.getLast? = if r = 0 then none else some (rmX hs q (r - 1)) := by
  rw [S.rs]
  cases r with
  | zero => rfl
  | succ r => rw [List.range_succ, List.map_append]; simp
theorem StX.whole (S : StX hs q r ds X) : wholeB X.rs = lastPl hs r := by
  unfold wholeB lastPl
  rw [S.last]
  by_cases h : r = 0
  · simp [h]
  · have : 0 < r := by omega
    simp [h, this, rmX]
theorem StX.rl (S : StX hs q r ds X) : X.rs.length = r := by rw [S.rs]; simp
theorem room_row (H : HsOk hs) (S : StX hs q r ds X) (L : DfLe X) (hr : r < hs.length) : roomF X (rowR hs q r) = if ds.length = 0 ∧ fitsL hs r = true then some (rmX hs q r) else none := by
  have hl := H.len
  obtain ⟨d1, d2⟩ := dep_rowR (q := q) H hr
  have hrl := S.rl
  have hdl : X.drs.length = ds.length := by rw [S.drs]; simp
  have hL := L.r
  have hkd := (H.at hr).1
  have hfit : (fitB X.rs ((hlAt hs r).dp : Int) = true ∧ r < 40) ↔ fitsL hs r = true := by
    unfold fitB fitsL
    rw [S.last]
    by_cases h0 : r = 0
    · subst h0
      simp
      by_cases hd : (hlAt hs 0).dp = 0
      · simp [hd]
      · simp [hd]
    · have hp : (hlAt hs (r - 1)).dp ≤ 12 := by
        have := L.dp (rmX hs q (r - 1)) (by rw [S.rs]; exact List.mem_map.mpr ⟨r - 1, by simp; omega, rfl⟩)
        exact this
      rw [if_neg h0]
      simp only [rmX, h0, if_false]
      by_cases hk : (hlAt hs (r - 1)).kd = kPl
      · simp only [hk, if_true]
        by_cases hx : 12 < (hlAt hs r).dp ∨ r = 40
        · simp [hx]
          omega
        · simp [hx]
          have hr40 : r < 40 := by omega
          constructor
          · intro h; exact ⟨Int.ofNat_le.mp h.1.1, h.1.2⟩
          · intro h; exact ⟨⟨Int.ofNat_le.mpr h.1, h.2⟩, hr40⟩
      · simp only [hk, if_false]
        by_cases hx : 12 < (hlAt hs r).dp ∨ r = 40
        · simp [hx]
          omega
        · simp [hx]
          constructor
          · intro h
            have := of_decide_eq_true h.1.1
            omega
          · intro h
            exact ⟨⟨decide_eq_true (by omega), by omega⟩, by omega⟩
  unfold roomF
  rw [d1, d2, wds_rowR H hr]
  have w0 : wt [(hlAt hs r).kd, nmS q r] 0 = (hlAt hs r).kd := rfl
  have w1 : wt [(hlAt hs r).kd, nmS q r] 1 = nmS q r := rfl
  have hnm : isWd (nmS q r) = true ∧ nmS q r ∉ rnX X.rs := ⟨nmS_wd q (by omega), fun z => by have := S.nm_in.mp z; omega⟩
  by_cases hok : ds.length = 0 ∧ fitsL hs r = true
  · rw [if_pos hok]
    obtain ⟨f1, f2⟩ := hfit.mpr hok.2
    rw [if_pos ⟨rfl, f1⟩]
    simp only [w0, w1]
    rw [if_pos ⟨by omega, by omega, by simp⟩, if_pos (show (hlAt hs r).kd = kPl ∨ (hlAt hs r).kd = kOne ∨ (hlAt hs r).kd = kAll from hkd), if_pos hnm]
    simp [kpsF, lmpF, rmX]
  · rw [if_neg hok]
    by_cases f1 : fitB X.rs ((hlAt hs r).dp : Int) = true
    · rw [if_pos ⟨rfl, f1⟩]
      simp only [w0, w1]
      rw [if_neg]
      intro z
      exact hok ⟨by omega, hfit.mp ⟨f1, by omega⟩⟩
    · rw [if_neg fun z => f1 z.2]
theorem wds_rowD {i : Nat} (hi : i < 52) : wds 32 (rowD q i) = [kDoor, nmS q i, kKnk, kStay] := by
  unfold rowD
  rw [wds_cons (by decide), wds_cons (nm_free hi).1, wds_cons (by decide), wds_one (by decide)]
theorem door_row (H : HsOk hs) (S : StX hs q r ds X) {i : Nat} (hi : i < hs.length) : doorF X (wds 32 (rowD q i)) = if lastPl hs r = true ∧ ds.length < 60 ∧ i < r then some (drX i) else none := by
  have hl := H.len
  rw [wds_rowD (by omega)]
  have hdl : X.drs.length = ds.length := by rw [S.drs]; simp
  have hwh := S.whole
  have hnd : (rnX X.rs).Nodup := by
    rw [S.names]
    refine List.Pairwise.map _ (R := fun a b => a ≠ b) (fun a b h e => h (nmS_inj e)) ?_
    exact List.nodup_range
  have p1 : placeFrom [kDoor, nmS q i, kKnk, kStay] 1 (rnX X.rs) = if i < r then some i else none := by
    show plc (rnX X.rs) (nmS q i) = _
    by_cases h : i < r
    · rw [if_pos h]
      refine plc_nodup hnd ?_
      rw [S.names]
      simp [h]
    · rw [if_neg h]
      exact plc_none.mpr fun z => h (S.nm_in.mp z)
  have p2 : placeFrom [kDoor, nmS q i, kKnk, kStay] 2 X.es = some 0 := by
    show plc X.es kKnk = _
    rw [S.es]
    exact plc_nodup (by simp) rfl
  have w3 : wt [kDoor, nmS q i, kKnk, kStay] 3 = kStay := rfl
  unfold doorF
  rw [hwh, hdl, p1, p2, w3]
  by_cases h1 : lastPl hs r = true
  · by_cases h2 : ds.length < 60
    · by_cases h3 : i < r
      · simp [h1, h2, h3, drX]
      · simp [h1, h2, h3]
    · simp [h2]
  · simp [h1]
end
end Law

namespace Law
open PySem Vx
/-! law 56: all rows are read as far as is due -/
def rowE (hs : List Hl) (q : Nat) (e : Bool × Nat) : List Nat := if e.1 = true then rowR hs q e.2 else rowD q e.2
section
variable {hs : List Hl} {q r : Nat} {ds : List Nat} {X : Df}
theorem first_rowR (H : HsOk hs) {k : Nat} (hk : k < hs.length) : wt (wds 32 (rowR hs q k)) 0 = (hlAt hs k).kd ∨ wt (wds 32 (rowR hs q k)) 0 = [] := by
  obtain ⟨h1, h2, h3⟩ := kd_low (H.at hk).1
  unfold rowR
  cases e : (hlAt hs k).dp with
  | zero =>
    left
    rw [List.replicate_zero, List.flatten_nil, List.nil_append, wds_cons fun z => by have := h1 _ z; omega]
    rfl
  | succ n =>
    right
    rw [List.replicate_succ, List.flatten_cons]
    have := wds_cons (c := 32) (p := []) (r := 32 :: ((List.replicate n [32, 32]).flatten ++ ((hlAt hs k).kd ++ 32 :: nmS q k))) (by simp)
    have e2 : [32, 32] ++ (List.replicate n [32, 32]).flatten ++ ((hlAt hs k).kd ++ 32 :: nmS q k) = [] ++ 32 :: (32 :: ((List.replicate n [32, 32]).flatten ++ ((hlAt hs k).kd ++ 32 :: nmS q k))) := by simp
    rw [e2, this]
    rfl
theorem room_not (H : HsOk hs) {k : Nat} (hk : k < hs.length) : ¬ odd (rowR hs q k) ∧ ¬ wt (wds 32 (rowR hs q k)) 0 = kEvt ∧ ¬ wt (wds 32 (rowR hs q k)) 0 = kDoor := by
  unfold odd
  rcases first_rowR (q := q) H hk with e | e
  · rw [e]
    rcases (H.at hk).1 with h | h | h <;> rw [h] <;> decide
  · rw [e]
    decide
theorem door_not {i : Nat} (hi : i < 52) : ¬ odd (rowD q i) ∧ wt (wds 32 (rowD q i)) 0 = kDoor := by
  unfold odd
  rw [wds_rowD hi]
  exact ⟨by show ¬ (kDoor = kBox ∨ kDoor = kI ∨ kDoor = kO ∨ kDoor = kWhen ∨ kDoor = kDo); decide, rfl⟩
theorem take_room (H : HsOk hs) (S : StX hs q r ds X) (L : DfLe X) (hr : r < hs.length) : takeF X (rowR hs q r) = if ds.length = 0 ∧ fitsL hs r = true then some { X with rs := X.rs ++ [rmX hs q r], ls := kRoom } else none := by
  obtain ⟨_, n1, n2⟩ := room_not (q := q) H hr
  have h3 : ¬ X.hd.length < 3 := by rw [S.hd]; simp
  unfold takeF takeG
  simp only [h3, n1, n2, if_false]
  rw [room_row H S L hr]
  by_cases h : ds.length = 0 ∧ fitsL hs r = true
  · rw [if_pos h, if_pos h]; rfl
  · rw [if_neg h, if_neg h]; rfl
theorem take_door (H : HsOk hs) (S : StX hs q r ds X) {i : Nat} (hi : i < hs.length) : takeF X (rowD q i) = if lastPl hs r = true ∧ ds.length < 60 ∧ i < r then some { X with drs := X.drs ++ [drX i], ls := kDoor } else none := by
  have hl := H.len
  obtain ⟨_, n1⟩ := door_not (q := q) (i := i) (by omega)
  have h3 : ¬ X.hd.length < 3 := by rw [S.hd]; simp
  have n2 : ¬ kDoor = kEvt := by decide
  unfold takeF takeG
  simp only [h3, n1, n2, if_false, if_true]
  rw [door_row H S hi]
  by_cases h : lastPl hs r = true ∧ ds.length < 60 ∧ i < r
  · rw [if_pos h, if_pos h]; rfl
  · rw [if_neg h, if_neg h]; rfl
theorem core (H : HsOk hs) : ∀ (es : List (Bool × Nat)) (r : Nat) (ds : List Nat) (j : Nat) (X : Df), StX hs q r ds X → DfLe X → r ≤ hs.length →
    (es.filter (·.1)).map (·.2) = (List.range (hs.length - r)).map (· + r) → (∀ e ∈ es, e.1 = false → e.2 < hs.length) →
    ¬ oddR X (es.map (rowE hs q)) ∧
    ((∃ m, readR X (es.map (rowE hs q)) (4 + j) = .inl (4 + m) ∧ dueF hs es r ds.length j = m ∧ 0 < m) ∨
     (∃ X', readR X (es.map (rowE hs q)) (4 + j) = .inr X' ∧ StX hs q hs.length (ds ++ (es.filter (fun e => !e.1)).map (·.2)) X' ∧ dueF hs es r ds.length j = if lastPl hs hs.length = true then 0 else es.length + j + 1))
  | [], r, ds, j, X, S, L, hr, hrm, hdr => by
    have h0 : hs.length - r = 0 := by
      have := congrArg List.length hrm
      simpa using this.symm
    have : r = hs.length := by omega
    subst this
    refine ⟨by simp [oddR], .inr ⟨X, rfl, by simpa using S, ?_⟩⟩
    simp [dueF]
  | (true, k) :: es, r, ds, j, X, S, L, hr, hrm, hdr => by
    have hlt : r < hs.length := by
      have := congrArg List.length hrm
      simp at this
      omega
    obtain ⟨n, hn⟩ : ∃ n, hs.length - r = n + 1 := ⟨hs.length - r - 1, by omega⟩
    rw [hn, List.range_succ_eq_map] at hrm
    simp at hrm
    obtain ⟨e1, e2⟩ := hrm
    subst e1
    have hrow : rowE hs q (true, k) = rowR hs q k := rfl
    have ht := take_room H S L hlt
    have hno := (room_not (q := q) H hlt).1
    rw [List.map_cons, hrow]
    by_cases hok : ds.length = 0 ∧ fitsL hs k = true
    · rw [if_pos hok] at ht
      have S' : StX hs q (k + 1) ds { X with rs := X.rs ++ [rmX hs q k], ls := kRoom } := ⟨S.hd, S.bs, S.es, by show X.rs ++ _ = _; rw [S.rs, List.range_succ, List.map_append]; rfl, S.drs⟩
      have L' := L.step ht
      obtain ⟨c1, c2⟩ := core H es (k + 1) ds (j + 1) _ S' L' (by omega) (by
        rw [show hs.length - (k + 1) = n by omega, e2]
        apply List.map_congr_left
        intro x _
        show x + 1 + k = x + (k + 1)
        omega) (fun e he => hdr e (List.mem_cons_of_mem _ he))
      refine ⟨?_, ?_⟩
      · rintro (h | ⟨X', hX, ho⟩)
        · exact hno h.2
        · rw [ht] at hX
          cases hX
          exact c1 ho
      · have er : readR X (rowR hs q k :: es.map (rowE hs q)) (4 + j) = readR { X with rs := X.rs ++ [rmX hs q k], ls := kRoom } (es.map (rowE hs q)) (4 + (j + 1)) := by
          show (match takeF X (rowR hs q k) with | none => _ | some X' => readR X' (es.map (rowE hs q)) (4 + j + 1)) = _
          rw [ht]
          rfl
        have hf : ¬ (0 < ds.length ∨ fitsL hs k = false) := by
          rintro (z | z)
          · omega
          · rw [hok.2] at z; cases z
        have ed : dueF hs ((true, k) :: es) k ds.length j = dueF hs es (k + 1) ds.length (j + 1) := by
          simp only [dueF, if_true, if_neg hf]
        rw [er, ed]
        rcases c2 with ⟨m, m1, m2, m3⟩ | ⟨X', x1, x2, x3⟩
        · exact .inl ⟨m, m1, m2, m3⟩
        · refine .inr ⟨X', x1, by simpa using x2, ?_⟩
          rw [x3, List.length_cons, show es.length + (j + 1) + 1 = es.length + 1 + j + 1 by omega]
    · rw [if_neg hok] at ht
      refine ⟨?_, .inl ⟨j + 1, ?_, ?_, by omega⟩⟩
      · rintro (h | ⟨X', hX, ho⟩)
        · exact hno h.2
        · rw [ht] at hX
          cases hX
      · show (match takeF X (rowR hs q k) with | none => _ | some X' => readR X' (es.map (rowE hs q)) (4 + j + 1)) = _
        rw [ht]
        rfl
      · have hf : 0 < ds.length ∨ fitsL hs k = false := by
          by_cases h : ds.length = 0
          · right
            cases hb : fitsL hs k with
            | false => rfl
            | true => exact absurd ⟨h, hb⟩ hok
          · left; omega
        simp only [dueF, if_true, if_pos hf]
  | (false, i) :: es, r, ds, j, X, S, L, hr, hrm, hdr => by
    have hi : i < hs.length := hdr (false, i) List.mem_cons_self rfl
    have hl := H.len
    have hrow : rowE hs q (false, i) = rowD q i := rfl
    have ht := take_door H S hi
    have hno := (door_not (q := q) (i := i) (by omega)).1
    simp at hrm
    rw [List.map_cons, hrow]
    have hdl : ds.length ≤ 60 := by have := L.d; rw [S.drs] at this; simpa using this
    by_cases hok : lastPl hs r = true ∧ ds.length < 60 ∧ i < r
    · rw [if_pos hok] at ht
      have S' : StX hs q r (ds ++ [i]) { X with drs := X.drs ++ [drX i], ls := kDoor } := ⟨S.hd, S.bs, S.es, S.rs, by show X.drs ++ _ = _; rw [S.drs]; simp⟩
      have L' := L.step ht
      obtain ⟨c1, c2⟩ := core H es r (ds ++ [i]) (j + 1) _ S' L' hr (by simpa using hrm) (fun e he => hdr e (List.mem_cons_of_mem _ he))
      refine ⟨?_, ?_⟩
      · rintro (h | ⟨X', hX, ho⟩)
        · exact hno h.2
        · rw [ht] at hX
          cases hX
          exact c1 ho
      · have er : readR X (rowD q i :: es.map (rowE hs q)) (4 + j) = readR { X with drs := X.drs ++ [drX i], ls := kDoor } (es.map (rowE hs q)) (4 + (j + 1)) := by
          show (match takeF X (rowD q i) with | none => _ | some X' => readR X' (es.map (rowE hs q)) (4 + j + 1)) = _
          rw [ht]
          rfl
        have hf : ¬ (lastPl hs r = false ∨ ds.length = 60 ∨ r ≤ i) := by
          rintro (z | z | z)
          · rw [hok.1] at z; cases z
          · omega
          · omega
        have ed : dueF hs ((false, i) :: es) r ds.length j = dueF hs es r (ds ++ [i]).length (j + 1) := by
          simp only [dueF, Bool.false_eq_true, if_false, if_neg hf, List.length_append, List.length_singleton]
        rw [er, ed]
        rcases c2 with ⟨m, m1, m2, m3⟩ | ⟨X', x1, x2, x3⟩
        · exact .inl ⟨m, m1, m2, m3⟩
        · refine .inr ⟨X', x1, by simpa using x2, ?_⟩
          rw [x3, List.length_cons, show es.length + (j + 1) + 1 = es.length + 1 + j + 1 by omega]
    · rw [if_neg hok] at ht
      refine ⟨?_, .inl ⟨j + 1, ?_, ?_, by omega⟩⟩
      · rintro (h | ⟨X', hX, ho⟩)
        · exact hno h.2
        · rw [ht] at hX
          cases hX
      · show (match takeF X (rowD q i) with | none => _ | some X' => readR X' (es.map (rowE hs q)) (4 + j + 1)) = _
        rw [ht]
        rfl
      · have hf : lastPl hs r = false ∨ ds.length = 60 ∨ r ≤ i := by
          by_cases h1 : lastPl hs r = true
          · by_cases h2 : ds.length < 60
            · right; right
              by_cases h3 : i < r
              · exact absurd ⟨h1, h2, h3⟩ hok
              · omega
            · right; left; omega
          · left; simpa using h1
        simp only [dueF, Bool.false_eq_true, if_false, if_pos hf]
end
end Law

namespace Law
open PySem Vx
/-! law 56: the walk of due -/
section
variable {hs : List Hl}
theorem cnt_le {n : Nat} {es : List (Bool × Nat)} (E : EnOk n es) (k : Nat) : ((es.take k).filter (·.1)).length ≤ n := by
  have h1 : (es.filter (·.1)).length = n := by
    have := congrArg List.length E.rooms
    simpa using this
  have h2 : ((es.take k).filter (·.1)).length ≤ (es.filter (·.1)).length := ((List.take_sublist k es).filter _).length_le
  omega
theorem en_room {n : Nat} {es : List (Bool × Nat)} (E : EnOk n es) {e : Bool × Nat} (he : e ∈ es) (ht : e.1 = true) : e.2 < n := by
  have : e.2 ∈ List.range n := by
    rw [← E.rooms]
    exact List.mem_map.mpr ⟨e, List.mem_filter.mpr ⟨he, ht⟩, rfl⟩
  simpa using this
theorem law_due {es : List (Bool × Nat)} (H : HsOk hs) (E : EnOk hs.length es) (s : Sto) : m__law_due [.lst (hs.map hlD), .lst (es.map enD)] s = .ok (nD (dueF hs es 0 0 0)) s := by
  have hl := H.len
  have hel := E.len
  have h : (m__law_due [.lst (hs.map hlD), .lst (es.map enD)] s).S (fun x s' => s = s' ∧ x = nD (dueF hs es 0 0 0)) NoE := by
    unfold m__law_due b__law_due
    simp only [w_mDef, startD]
    refine ⟨rfl, ?_⟩
    rw [W_sSeq]; simp [-W_sSeq]
    rw [W_sSeq]; simp [-W_sSeq]
    obtain ⟨I, hI⟩ : ∃ I : Nat → Sl → Sto → Prop, I = (fun k l s' => s = s' ∧ ∃ (r d : Nat) (z4 : Option D), r ≤ hs.length ∧ d ≤ k ∧ r = ((es.take k).filter (·.1)).length ∧ dueF hs es 0 0 0 = dueF hs (es.drop k) r d k ∧ l = [some (.lst (hs.map hlD)), some (.lst (es.map enD)), some (nD r), some (nD d), z4]) := ⟨_, rfl⟩
    have gp : ∀ {r : Nat}, 0 < r → r ≤ hs.length → ∀ P : Hl → Prop, OW (getI hs ((r : Int) - 1)) P ↔ P (hlAt hs (r - 1)) := fun {r} h0 hr P => by
      rw [show ((r : Int) - 1) = ((r - 1 : Nat) : Int) by omega, getI_g (show r - 1 < hs.length by omega), hlAt_get (show r - 1 < hs.length by omega)]
    rw [W_sSeq]; refine W_cut (I es.length) ?_ ?_
    · rw [W_sFor]; simp [-W_sIf]
      refine ⟨by omega, ?_⟩
      refine W_rg 0 es.length I ?_ ?_ (fun _ _ h => h)
      · rw [hI]
        exact ⟨rfl, 0, 0, none, by omega, by omega, by simp, by simp, rfl⟩
      · intro k l s' hk hi
        rw [hI] at hi
        obtain ⟨rfl, r, d, z4, hr, hd, hrc, hdu, rfl⟩ := hi
        obtain ⟨b, i, hek⟩ : ∃ b i, es[k] = (b, i) := ⟨es[k].1, es[k].2, rfl⟩
        have hdk : es.drop k = (b, i) :: es.drop (k + 1) := by rw [List.drop_eq_getElem_cons hk, hek]
        have htk : es.take (k + 1) = es.take k ++ [(b, i)] := by rw [List.take_succ, List.getElem?_eq_getElem hk, hek]; rfl
        have hmem : (b, i) ∈ es := by rw [← hek]; exact List.getElem_mem hk
        rw [hdk] at hdu
        have hcl := cnt_le E (k + 1)
        rw [htk] at hcl
        cases b with
        | true =>
          have hi := en_room E hmem rfl
          have hi : i < hs.length := hi
          have hft := law_fits hi (by omega) s
          simp only [dueF, if_true] at hdu
          have hcl2 : r + 1 ≤ hs.length := by simp at hcl; omega
          refine W_ifD true (by simp [getI_g hk, hek, enD, x_room]) ?_; rw [if_pos rfl]
          by_cases hf : 0 < d ∨ fitsL hs i = false
          · rw [if_pos hf] at hdu
            rw [W_sSeq]; refine W_ifD true ?_ ?_
            · by_cases h0 : 0 < d
              · have : (0 : Int) < (d : Int) := by omega
                simp [this, h0]
              · have h1 : ¬ (0 : Int) < (d : Int) := by omega
                simp [h1, h0, getI_g hk, hek, enD, hft, hf.resolve_left h0]
                try omega
            rw [if_pos rfl]
            simp
            rw [hdu]
            first | rfl | exact ⟨by omega, rfl⟩
          · rw [if_neg hf] at hdu
            have h0 : d = 0 := Nat.eq_zero_of_not_pos fun z => hf (.inl z)
            have h2 : fitsL hs i = true := by
              cases hb : fitsL hs i with
              | true => rfl
              | false => exact absurd (.inr hb) hf
            rw [W_sSeq]; refine W_ifD false (by simp [h0, getI_g hk, hek, enD, hft, h2]) ?_; rw [if_neg (by decide), W_sNil]
            simp
            rw [hI]
            refine ⟨rfl, r + 1, d, some (nD k), hcl2, by omega, by rw [htk, List.filter_append]; simp; omega, hdu, ?_⟩
            simp
        | false =>
          simp only [dueF, Bool.false_eq_true, if_false] at hdu
          refine W_ifD false (by simp [getI_g hk, hek, enD, x_room]; try decide) ?_; rw [if_neg (by decide)]
          by_cases hf : lastPl hs r = false ∨ d = 60 ∨ r ≤ i
          · rw [if_pos hf] at hdu
            rw [W_sSeq]; refine W_ifD true ?_ ?_
            · by_cases h0 : r = 0
              · simp [h0]
              · have h0' : ¬ (r : Int) = 0 := by omega
                have g := gp (by omega) hr
                by_cases hp : (hlAt hs (r - 1)).kd = kPl
                · have hp2 : lastPl hs r = true := by unfold lastPl; simp [hp]; omega
                  have hf2 : d = 60 ∨ r ≤ i := by
                    rcases hf with z | z
                    · rw [hp2] at z; cases z
                    · exact z
                  by_cases h6 : d = 60
                  · simp [h0', h0, g, hlD, x_plain, hp, h6]
                  · have h7 := hf2.resolve_left h6
                    have h6' : ¬ (d : Int) = 60 := by omega
                    have h7' : (r : Int) ≤ (i : Int) := by omega
                    simp [h0', h0, g, hlD, x_plain, hp, h6', h6, getI_g hk, hek, enD, h7', h7]
                · simp [h0', h0, g, hlD, x_plain, hp]
            rw [if_pos rfl]
            simp
            rw [hdu]
            first | rfl | exact ⟨by omega, rfl⟩
          · rw [if_neg hf] at hdu
            have hp2 : lastPl hs r = true := by
              cases hb : lastPl hs r with
              | true => rfl
              | false => exact absurd (.inl hb) hf
            have h6 : ¬ d = 60 := fun z => hf (.inr (.inl z))
            have h7 : ¬ r ≤ i := fun z => hf (.inr (.inr z))
            have h0 : ¬ r = 0 := fun z => by rw [z] at h7; omega
            have h0' : ¬ (r : Int) = 0 := by omega
            have g := gp (by omega) hr
            have hp : (hlAt hs (r - 1)).kd = kPl := by unfold lastPl at hp2; simp at hp2; exact hp2.2
            have h6' : ¬ (d : Int) = 60 := by omega
            have h7' : ¬ (r : Int) ≤ (i : Int) := by omega
            rw [W_sSeq]; refine W_ifD false ?_ ?_
            · simp [h0', h0, g, hlD, x_plain, hp, h6', h6, getI_g hk, hek, enD, h7', h7]
              try omega
            rw [if_neg (by decide), W_sNil]
            simp
            rw [hI]
            refine ⟨rfl, r, d + 1, some (nD k), hr, by omega, by rw [htk, List.filter_append]; simp; omega, hdu, ?_⟩
            simp
    intro l s' hi
    rw [hI] at hi
    obtain ⟨rfl, r, d, z4, hr, hd, hrc, hdu, rfl⟩ := hi
    rw [List.drop_length] at hdu
    simp only [dueF] at hdu
    by_cases h0 : r = 0
    · have hp2 : lastPl hs r = false := by unfold lastPl; simp [h0]
      rw [W_sSeq]; refine W_ifD true (by simp [h0]) ?_; rw [if_pos rfl]
      simp
      rw [hdu, if_neg (by rw [hp2]; decide)]
      first | rfl | exact ⟨by omega, rfl⟩ | exact ⟨by omega, by omega, rfl⟩
    · have h0' : ¬ (r : Int) = 0 := by omega
      have g := gp (by omega) hr
      by_cases hp : (hlAt hs (r - 1)).kd = kPl
      · have hp2 : lastPl hs r = true := by unfold lastPl; simp [hp]; omega
        rw [W_sSeq]; refine W_ifD false (by simp [h0', h0, g, hlD, x_plain, hp]) ?_; rw [if_neg (by decide), W_sNil]
        simp
        rw [hdu, if_pos hp2]
        rfl
      · have hp2 : lastPl hs r = false := by unfold lastPl; simp [hp]
        rw [W_sSeq]; refine W_ifD true (by simp [h0', h0, g, hlD, x_plain, hp]) ?_; rw [if_pos rfl]
        simp
        rw [hdu, if_neg (by rw [hp2]; decide)]
        first | rfl | exact ⟨by omega, rfl⟩ | exact ⟨by omega, by omega, rfl⟩
  obtain ⟨x, s', h1, rfl, rfl⟩ := h.ok
  exact h1
end
end Law

namespace Law
open PySem Vx
/-! law 56: the whole text -/
def rows0 : List (List Nat) := [kOrd ++ 32 :: kOut, kLet ++ 32 :: [49], kTur ++ 32 :: [50], kEvt ++ 32 :: kKnk]
def X4 : Df := ⟨[dT kOut, .int 1, .int 2], [], [kKnk], [], [], kEvt⟩
theorem num_1 : num? [49] = some 1 := num_fig 1
theorem num_2 : num? [50] = some 2 := num_fig 2
theorem take_1 : takeF X0 (kOrd ++ 32 :: kOut) = some ⟨[dT kOut], [], [], [], [], kOrd⟩ := by
  have hw : wds 32 (kOrd ++ 32 :: kOut) = [kOrd, kOut] := by rw [wds_cons (by decide), wds_one (by decide)]
  unfold takeF takeG headF X0
  simp only [hw]
  rfl
theorem take_2 {ls : List Nat} : takeF ⟨[dT kOut], [], [], [], [], ls⟩ (kLet ++ 32 :: [49]) = some ⟨[dT kOut, .int 1], [], [], [], [], kLet⟩ := by
  have hw : wds 32 (kLet ++ 32 :: [49]) = [kLet, [49]] := by rw [wds_cons (by decide), wds_one (by decide)]
  have e1 : numFrom [kLet, [49]] 1 0 12 = some 1 := by
    unfold numFrom
    simp [num_1]
  have e0 : wt [kLet, [49]] 0 = kLet := rfl
  have ek : ¬ kLet = kOrd := by decide
  unfold takeF takeG headF
  simp only [hw, e1, e0, ek]
  rfl
theorem take_3 {ls : List Nat} : takeF ⟨[dT kOut, .int 1], [], [], [], [], ls⟩ (kTur ++ 32 :: [50]) = some ⟨[dT kOut, .int 1, .int 2], [], [], [], [], kTur⟩ := by
  have hw : wds 32 (kTur ++ 32 :: [50]) = [kTur, [50]] := by rw [wds_cons (by decide), wds_one (by decide)]
  have e1 : numFrom [kTur, [50]] 1 1 20 = some 2 := by
    unfold numFrom
    simp [num_2]
  have e0 : wt [kTur, [50]] 0 = kTur := rfl
  have ek : ¬ kTur = kOrd := by decide
  have ek2 : ¬ kTur = kLet := by decide
  unfold takeF takeG headF
  simp only [hw, e1, e0, ek, ek2]
  rfl
theorem take_4 {ls : List Nat} : takeF ⟨[dT kOut, .int 1, .int 2], [], [], [], [], ls⟩ (kEvt ++ 32 :: kKnk) = some X4 := by
  have hw : wds 32 (kEvt ++ 32 :: kKnk) = [kEvt, kKnk] := by rw [wds_cons (by decide), wds_one (by decide)]
  have e0 : wt [kEvt, kKnk] 0 = kEvt := rfl
  have e1 : wt [kEvt, kKnk] 1 = kKnk := rfl
  have e2 : isWd kKnk = true := by decide
  unfold takeF takeG eventF X4
  simp only [hw, e0, e1, e2]
  rfl
theorem readR_cons {X X' : Df} {row : List Nat} {rest : List (List Nat)} {k : Nat} (h : takeF X row = some X') : readR X (row :: rest) k = readR X' rest (k + 1) := by
  simp only [readR, h]
theorem read_4 (rest : List (List Nat)) : readR X0 (rows0 ++ rest) 0 = readR X4 rest 4 := by
  show readR X0 ((kOrd ++ 32 :: kOut) :: (kLet ++ 32 :: [49]) :: (kTur ++ 32 :: [50]) :: (kEvt ++ 32 :: kKnk) :: rest) 0 = _
  rw [readR_cons take_1, readR_cons take_2, readR_cons take_3, readR_cons take_4]
theorem odd_4 (rest : List (List Nat)) (h : ¬ oddR X4 rest) : ¬ oddR X0 (rows0 ++ rest) := by
  have o1 : ¬ odd (kEvt ++ 32 :: kKnk) := by
    unfold odd
    rw [show wds 32 (kEvt ++ 32 :: kKnk) = [kEvt, kKnk] by rw [wds_cons (by decide), wds_one (by decide)]]
    show ¬ (kEvt = kBox ∨ kEvt = kI ∨ kEvt = kO ∨ kEvt = kWhen ∨ kEvt = kDo)
    decide
  rintro (⟨z, _⟩ | ⟨X1, h1, h⟩)
  · exact absurd z (by decide)
  rw [take_1] at h1; cases h1
  rcases h with ⟨z, _⟩ | ⟨X1, h1, h⟩
  · exact absurd z (by decide)
  rw [take_2] at h1; cases h1
  rcases h with ⟨z, _⟩ | ⟨X1, h1, h⟩
  · exact absurd z (by decide)
  rw [take_3] at h1; cases h1
  rcases h with ⟨_, z⟩ | ⟨X1, h1, h2⟩
  · exact o1 z
  rw [take_4] at h1; cases h1
  exact h h2
theorem st_4 (hs : List Hl) (q : Nat) : StX hs q 0 [] X4 := ⟨rfl, rfl, rfl, rfl, rfl⟩
theorem le_4 : DfLe X4 := ⟨by simp [X4], by simp [X4], by simp [X4], by simp [X4], by simp [X4], by simp [X4]⟩
section
variable {hs : List Hl} {q : Nat}
theorem nm_asc {k : Nat} (hk : k < 52) : (∀ c ∈ nmS q k, c < 128 ∧ c ≠ 10) ∧ (nmS q k).length ≤ 12 := by
  have h := (isWd_iff _).mp (nmS_wd q hk)
  exact ⟨fun c hc => by have := h.2.2 c hc; omega, h.2.1⟩
theorem rowR_ok (H : HsOk hs) {k : Nat} (hk : k < hs.length) : RowOk (rowR hs q k) ∧ 10 ∉ rowR hs q k := by
  have hl := H.len
  obtain ⟨h1, h2, h3⟩ := kd_low (H.at hk).1
  have h4 := (H.at hk).2
  obtain ⟨n1, n2⟩ := nm_asc (q := q) (k := k) (by omega)
  have all : ∀ c ∈ rowR hs q k, c < 128 ∧ c ≠ 10 := by
    intro c hc
    unfold rowR at hc
    rcases List.mem_append.mp hc with hc | hc
    · obtain ⟨l, hl, hc⟩ := List.mem_flatten.mp hc
      rw [(List.mem_replicate.mp hl).2] at hc
      simp at hc
      omega
    rcases List.mem_append.mp hc with hc | hc
    · have := h1 c hc; omega
    rcases List.mem_cons.mp hc with rfl | hc
    · omega
    · exact n1 c hc
  refine ⟨⟨?_, fun c hc => (all c hc).1⟩, fun hc => (all 10 hc).2 rfl⟩
  unfold rowR
  simp only [List.length_append, List.length_cons, len_rep]
  omega
theorem rowD_ok {k : Nat} (hk : k < 52) : RowOk (rowD q k) ∧ 10 ∉ rowD q k := by
  obtain ⟨n1, n2⟩ := nm_asc (q := q) hk
  have d1 : ∀ c ∈ kDoor, c < 128 ∧ c ≠ 10 := by decide
  have d2 : ∀ c ∈ kKnk ++ 32 :: kStay, c < 128 ∧ c ≠ 10 := by decide
  have all : ∀ c ∈ rowD q k, c < 128 ∧ c ≠ 10 := by
    intro c hc
    unfold rowD at hc
    rcases List.mem_append.mp hc with hc | hc
    · exact d1 c hc
    rcases List.mem_cons.mp hc with rfl | hc
    · omega
    rcases List.mem_append.mp hc with hc | hc
    · exact n1 c hc
    rcases List.mem_cons.mp hc with rfl | hc
    · omega
    · exact d2 c hc
  refine ⟨⟨?_, fun c hc => (all c hc).1⟩, fun hc => (all 10 hc).2 rfl⟩
  unfold rowD
  have e1 : kDoor.length = 4 := rfl
  have e2 : (kKnk ++ 32 :: kStay).length = 10 := rfl
  simp only [List.length_append, List.length_cons] at e2 ⊢
  omega
/-- all rows of the text -/
def rowsT (hs : List Hl) (q : Nat) (es : List (Bool × Nat)) : List (List Nat) := rows0 ++ es.map (rowE hs q)
theorem rows_ok (H : HsOk hs) {es : List (Bool × Nat)} (E : EnOk hs.length es) : ∀ row ∈ rowsT hs q es, RowOk row ∧ 10 ∉ row := by
  have hl := H.len
  intro row hr
  rcases List.mem_append.mp hr with hr | hr
  · simp only [rows0, List.mem_cons, List.not_mem_nil, or_false] at hr
    rcases hr with rfl | rfl | rfl | rfl <;> exact ⟨⟨by decide, by decide⟩, by decide⟩
  · obtain ⟨e, he, rfl⟩ := List.mem_map.mp hr
    unfold rowE
    cases h : e.1 with
    | true => rw [if_pos rfl]; exact rowR_ok H (en_room E he h)
    | false => rw [if_neg (by decide)]; exact rowD_ok (by have := E.doors e he h; omega)
theorem text_ok (H : HsOk hs) {es : List (Bool × Nat)} (E : EnOk hs.length es) : wds 10 (TL.joinL [10] (rowsT hs q es)) = rowsT hs q es ∧ (TL.joinL [10] (rowsT hs q es)).length ≤ 1000000 ∧ ((rowsT hs q es).map List.length).sum + (rowsT hs q es).length ≤ 16777216 := by
  have hr := rows_ok (q := q) H E
  have hel := E.len
  have hlen : (rowsT hs q es).length ≤ 204 := by simp [rowsT, rows0]; omega
  have hne : rowsT hs q es ≠ [] := by simp [rowsT, rows0]
  have hsum : ((rowsT hs q es).map List.length).sum ≤ 600 * (rowsT hs q es).length := sum_len' fun w hw => (hr w hw).1.len
  have hjl : ∀ W : List (List Nat), (TL.joinL [10] W).length ≤ (W.map List.length).sum + W.length := by
    intro W
    induction W with
    | nil => simp [TL.joinL]
    | cons p r ih =>
      cases r with
      | nil => simp [TL.joinL]
      | cons q r =>
        rw [joinL_cons]
        simp at ih ⊢
        omega
  have := hjl (rowsT hs q es)
  refine ⟨wds_join hne fun p hp => (hr p hp).2, by omega, by omega⟩
end
end Law

namespace Law
open PySem Vx
/-! law 56: what is told is right -/
structure Gq (n : Nat) (d : D) : Prop where
  pl : D.pl d = true
  eq : D.eqv d d = true
  dp : D.dep d ≤ n
theorem Gq.int (n : Nat) (i : Int) : Gq n (.int i) := ⟨rfl, by show (i == i) = true; simp, Nat.zero_le _⟩
theorem Gq.non (n : Nat) : Gq n .non := ⟨rfl, rfl, Nat.zero_le _⟩
theorem Gq.str (n : Nat) {w : List Nat} (h : ∀ c ∈ w, c < 128) : Gq n (dT w) := ⟨pl_tx h, by rw [eqv_T]; simp, Nat.zero_le _⟩
theorem Gq.tup {n : Nat} {ds : List D} (h : ∀ d ∈ ds, Gq n d) : Gq (n + 1) (.tup ds) := by
  have h1 : D.plAll ds = true := by
    induction ds with
    | nil => rfl
    | cons d ds ih =>
      show (D.pl d && D.plAll ds) = true
      rw [(h d List.mem_cons_self).pl, ih fun x hx => h x (List.mem_cons_of_mem _ hx)]
      rfl
  have h2 : D.eqvAll ds ds = true := by
    clear h1
    induction ds with
    | nil => rfl
    | cons d ds ih =>
      show (D.eqv d d && D.eqvAll ds ds) = true
      rw [(h d List.mem_cons_self).eq, ih fun x hx => h x (List.mem_cons_of_mem _ hx)]
      rfl
  have h3 : D.depAll ds ≤ n := by
    clear h1 h2
    induction ds with
    | nil => exact Nat.zero_le _
    | cons d ds ih =>
      show max (D.dep d) (D.depAll ds) ≤ n
      exact Nat.max_le.mpr ⟨(h d List.mem_cons_self).dp, ih fun x hx => h x (List.mem_cons_of_mem _ hx)⟩
  exact ⟨h1, h2, Nat.succ_le_succ h3⟩
theorem Gq.shp {n : Nat} {d : D} (h : Gq n d) (hn : n ≤ 64) : D.shp d = true := by
  have := h.dp
  unfold D.shp
  rw [h.pl]
  simp
  omega
theorem eq_self {n : Nat} {d : D} (h : Gq n d) (hn : n ≤ 64) {P : D → Prop} : OW (gEq d d) P ↔ P (.bl true) := by
  rw [o_eq (eqOk_shp (h.shp hn) (h.shp hn)), h.eq]
theorem ne_self {n : Nat} {d : D} (h : Gq n d) (hn : n ≤ 64) {P : D → Prop} : OW (gNe d d) P ↔ P (.bl false) := by
  rw [o_ne (eqOk_shp (h.shp hn) (h.shp hn)), h.eq]
  rfl
section
variable {hs : List Hl} {q : Nat} {X : Df}
theorem gq_rm (H : HsOk hs) {k : Nat} (hk : k < hs.length) : Gq 2 (rmX hs q k).D := by
  have hl := H.len
  obtain ⟨h1, _, _⟩ := kd_low (H.at hk).1
  obtain ⟨n1, _⟩ := nm_asc (q := q) (k := k) (by omega)
  refine Gq.tup fun d hd => ?_
  simp only [List.mem_cons, List.not_mem_nil, or_false] at hd
  rcases hd with rfl | rfl | rfl | rfl | rfl | rfl | rfl
  · exact Gq.str 1 fun c hc => (n1 c hc).1
  · exact Gq.str 1 fun c hc => by have := h1 c hc; omega
  · exact Gq.int 1 _
  · exact Gq.str 1 (by simp [rmX])
  · exact Gq.str 1 (by simp [rmX])
  · exact Gq.tup (by simp [rmX])
  · exact Gq.tup (by simp [rmX])
theorem gq_dr (i : Nat) : Gq 2 (drX i).D := by
  refine Gq.tup fun d hd => ?_
  simp only [List.mem_cons, List.not_mem_nil, or_false] at hd
  rcases hd with rfl | rfl | rfl | rfl | rfl | rfl
  · exact Gq.int 1 _
  · exact Gq.int 1 _
  · refine Gq.tup fun d hd => ?_
    rw [List.mem_singleton.mp hd]
    exact Gq.str 0 (by decide)
  · exact Gq.tup (by simp [drX])
  · exact Gq.str 1 (by show ∀ c ∈ kStay, c < 128; decide)
  · exact Gq.non 1
theorem x_knk : Str.ofString "knock" = tx kKnk := by rw [tx_lit]; rfl
theorem law_right (H : HsOk hs) {es : List (Bool × Nat)} (E : EnOk hs.length es) {ds : List Nat} (hds : ds = (es.filter (fun e => !e.1)).map (·.2)) (S : StX hs q hs.length ds X) (s : Sto) :
    m__law_right [dfD X, .lst (hs.map hlD), .lst (es.map enD), .lst ((List.range hs.length).map fun k => dT (nmS q k))] s = .ok (.bl true) s := by
  have hl := H.len
  have hel := E.len
  have eX : dfD X = .tup [dT kOut, .int 1, .int 2, .tup [], .tup [dT kKnk], .tup ((List.range hs.length).map fun k => (rmX hs q k).D), .tup (ds.map fun i => (drX i).D)] := by
    unfold dfD
    rw [S.hd, S.bs, S.es, S.rs, S.drs]
    simp [Function.comp_def]
  have hdl : ds.length ≤ 200 := by
    rw [hds, List.length_map]
    have := List.length_filter_le (fun e : Bool × Nat => !e.1) es
    omega
  rw [eX]
  have h : (m__law_right [.tup [dT kOut, .int 1, .int 2, .tup [], .tup [dT kKnk], .tup ((List.range hs.length).map fun k => (rmX hs q k).D), .tup (ds.map fun i => (drX i).D)], .lst (hs.map hlD), .lst (es.map enD), .lst ((List.range hs.length).map fun k => dT (nmS q k))] s).S (fun d s' => s = s' ∧ d = .bl true) NoE := by
    unfold m__law_right b__law_right
    simp only [w_mDef, startD]
    refine ⟨rfl, ?_⟩
    obtain ⟨FD, hFD⟩ : ∃ FD, FD = D.tup [dT kOut, .int 1, .int 2, .tup [], .tup [dT kKnk], .tup ((List.range hs.length).map fun k => (rmX hs q k).D), .tup (ds.map fun i => (drX i).D)] := ⟨_, rfl⟩
    have g1 : Gq 1 (.tup [dT kKnk]) := Gq.tup fun d hd => by rw [List.mem_singleton.mp hd]; exact Gq.str 0 (by decide)
    rw [W_sSeq]; refine W_ifD false ?_ ?_
    · simp
      rw [x_knk, ← dT_eq, ne_self g1 (by decide)]
      simp
    rw [if_neg (by decide), W_sNil]
    have rng : ∀ {n k : Nat}, k < n → ∀ P : Nat → Prop, OW (getI (List.range n) (k : Int)) P ↔ P k := fun {n k} hk P => by
      have : getI (List.range n) (k : Int) = some k := by rw [getI_nat _ _ (by omega) (by simp; omega)]; simp [hk]
      rw [this, OW_some]
    obtain ⟨I, hI⟩ : ∃ I : Nat → Sl → Sto → Prop, I = (fun _ l s' => s = s' ∧ ∃ z4, l = [some (D.tup [dT kOut, .int 1, .int 2, .tup [], .tup [dT kKnk], .tup ((List.range hs.length).map fun k => (rmX hs q k).D), .tup (ds.map fun i => (drX i).D)]), some (.lst (hs.map hlD)), some (.lst (es.map enD)), some (.lst ((List.range hs.length).map fun k => dT (nmS q k))), z4, none, none]) := ⟨_, rfl⟩
    rw [W_sSeq]; refine W_cut (I hs.length) ?_ ?_
    · rw [W_sFor]; simp [-W_sIf]
      refine ⟨by omega, ?_⟩
      refine W_rg 0 hs.length I ?_ ?_ (fun _ _ h => h)
      · rw [hI]
        exact ⟨rfl, none, by simp⟩
      · intro k l s' hk hi
        rw [hI] at hi
        obtain ⟨rfl, z4, rfl⟩ := hi
        have g0 : ∀ P : Hl → Prop, OW (getI hs (k : Int)) P ↔ P (hlAt hs k) := fun P => by rw [getI_g hk, hlAt_get hk]
        have hn := fun P => ne_self (P := P) (gq_rm (q := q) H hk) (by decide)
        refine W_ifD false ?_ ?_
        · simp [rng hk, g0, hlD, x_nil]
          refine (hn _).mpr ?_
          simp
        rw [if_neg (by decide), W_sNil, hI]
        exact ⟨rfl, _, rfl⟩
    intro l s' hi
    rw [hI] at hi
    obtain ⟨rfl, z4, rfl⟩ := hi
    obtain ⟨Z, hZ⟩ : ∃ Z : Sl → Sto → Prop, Z = (fun l s' => s = s' ∧ ∃ z4 z6, l = [some (D.tup [dT kOut, .int 1, .int 2, .tup [], .tup [dT kKnk], .tup ((List.range hs.length).map fun k => (rmX hs q k).D), .tup (ds.map fun i => (drX i).D)]), some (.lst (hs.map hlD)), some (.lst (es.map enD)), some (.lst ((List.range hs.length).map fun k => dT (nmS q k))), z4, some (.lst (ds.map fun i => (drX i).D)), z6]) := ⟨_, rfl⟩
    rw [W_sSeq]; refine W_cut Z ?_ ?_
    · simp
      refine W_compG es enD (fun e => (drX e.2).D) (fun e => !e.1) (by omega) (fun e he => ?_) ?_
      · obtain ⟨b, i⟩ := e
        cases b
        · simp [wipeD, enD, x_door, drX, DrX.D, optX, x_yes, x_stay]
        · simp [wipeD, enD, x_door]
          decide
      · rw [hZ]
        refine ⟨rfl, z4, none, ?_⟩
        rw [hds, List.map_map]
        rfl
    intro l s' hz
    rw [hZ] at hz
    obtain ⟨rfl, z4, z6, rfl⟩ := hz
    have g4 : Gq 2 (.tup [dT kOut, .int 1, .int 2, .tup []]) := Gq.tup fun d hd => by
      simp only [List.mem_cons, List.not_mem_nil, or_false] at hd
      rcases hd with rfl | rfl | rfl | rfl
      · exact Gq.str 1 (by decide)
      · exact Gq.int 1 _
      · exact Gq.int 1 _
      · exact Gq.tup (by simp)
    have g6 : Gq 3 (.tup (ds.map fun i => (drX i).D)) := Gq.tup fun d hd => by
      obtain ⟨i, _, rfl⟩ := List.mem_map.mp hd
      exact gq_dr i
    have e4 := fun P => eq_self (P := P) g4 (by decide)
    have e6 := fun P => eq_self (P := P) g6 (by decide)
    simp [cut_to, x_out]
    refine (e4 _).mpr ?_
    simp
    exact (e6 _).mpr rfl
  obtain ⟨d, s', h1, rfl, rfl⟩ := h.ok
  exact h1
end
end Law

namespace Law
open PySem Vx
/-! law 56: the law -/
theorem law_read (ca : Nat → Nat) (s : Sto) {t : List Nat} (ht : t.length ≤ 1000000) (hr : ∀ row ∈ wds 10 t, RowOk row) (ho : ¬ oddR X0 (wds 10 t)) :
    ∃ d s', m__law_read ca [.str (tx t)] s = .ok d s' ∧ ((∃ X, readR X0 (wds 10 t) 0 = .inr X ∧ wholeB X.rs = true ∧ d = .tup [dfD X, .int 0]) ∨
      (∃ n : Nat, (readR X0 (wds 10 t) 0 = .inl n ∨ ∃ X, readR X0 (wds 10 t) 0 = .inr X ∧ wholeB X.rs = false ∧ n = (wds 10 t).length + 1) ∧ d = .tup [.non, nD n])) := by
  have h : (m__law_read ca [.str (tx t)] s).S (fun d _ => (∃ X, readR X0 (wds 10 t) 0 = .inr X ∧ wholeB X.rs = true ∧ d = .tup [dfD X, .int 0]) ∨
      (∃ n : Nat, (readR X0 (wds 10 t) 0 = .inl n ∨ ∃ X, readR X0 (wds 10 t) 0 = .inr X ∧ wholeB X.rs = false ∧ n = (wds 10 t).length + 1) ∧ d = .tup [.non, nD n])) NoE := by
    unfold m__law_read b__law_read
    simp only [w_mDef, startD]
    refine ⟨rfl, ?_⟩
    rw [W_sSeq]; simp [-W_sSeq]
    rw [W_sSeq]; simp [-W_sSeq]
    obtain ⟨Z, hZ⟩ : ∃ Z : Sl → Sto → Prop, Z = (fun l _ => (∃ X, readR X0 (wds 10 t) 0 = .inr X ∧ wholeB X.rs = true ∧ l = [some (.str (tx t)), some (dfD X), some (.int 0), none]) ∨
      (∃ n : Nat, (readR X0 (wds 10 t) 0 = .inl n ∨ ∃ X, readR X0 (wds 10 t) 0 = .inr X ∧ wholeB X.rs = false ∧ n = (wds 10 t).length + 1) ∧ l = [some (.str (tx t)), some .non, some (nD n), none])) := ⟨_, rfl⟩
    rw [W_sSeq]; refine W_cut Z ?_ ?_
    · rw [W_sTryAs]
      simp only [W_sSet, w_mCallX, w_mCons, w_mV, atW_zero, atW_succ, w_mNil]
      refine (read (ca := ca) s ht hr ho).imp (fun d s1 h => ?_) (fun x s1 h => ?_)
      · obtain ⟨⟨X, h1, h2, rfl⟩, _⟩ := h
        rw [hZ]
        exact .inl ⟨X, h1, h2, rfl⟩
      · obtain ⟨⟨n, rfl, h1⟩, _⟩ := h
        simp [unread, tabL, List.lookup, mXf]
        rw [hZ]
        exact .inr ⟨n, h1, rfl⟩
    intro l s' hz
    rw [hZ] at hz
    rcases hz with ⟨X, h1, h2, rfl⟩ | ⟨n, h1, rfl⟩
    · simp
      exact .inl ⟨X, h1, h2, rfl⟩
    · simp
      exact .inr ⟨n, h1, rfl⟩
  obtain ⟨d, s', h1, h2⟩ := h.ok
  exact ⟨d, s', h1, h2⟩
theorem x_r1 : Str.ofString "order outer" = tx (kOrd ++ 32 :: kOut) := by rw [tx_lit]; rfl
theorem x_r2 : Str.ofString "letters 1" = tx (kLet ++ 32 :: [49]) := by rw [tx_lit]; rfl
theorem x_r3 : Str.ofString "turns 2" = tx (kTur ++ 32 :: [50]) := by rw [tx_lit]; rfl
theorem x_r4 : Str.ofString "event knock" = tx (kEvt ++ 32 :: kKnk) := by rw [tx_lit]; rfl
theorem x_2sp : Str.ofString "  " = tx [32, 32] := by rw [tx_lit]; rfl
theorem x_dsp : Str.ofString "door " = tx (kDoor ++ [32]) := by rw [tx_lit]; rfl
theorem x_kst : Str.ofString " knock stay" = tx (32 :: (kKnk ++ 32 :: kStay)) := by rw [tx_lit]; rfl
theorem tg2W (i j : Nat) (a b : D) (l : Sl) (P : Sl → Prop) : OW (tg2 i j (.tup [a, b]) l) P ↔ P ((l.set i (some a)).set j (some b)) := by with_unfolding_all exact Iff.rfl
theorem law_true : ∀ ca : Nat → Nat, ∀ ns : List Int, ns.length ≤ 63 → ∃ st', m_law ca [.lst (ns.map .int)] [] = .ok (.bl true) st' := by
  intro ca ns hn
  obtain ⟨hs, hh, h1, h2, h3⟩ := halls hn (s := []) rfl
  obtain ⟨es, he, E⟩ := entries hn h1 h2 []
  have H : HsOk hs := ⟨h2, h3⟩
  have hdue := law_due H E []
  obtain ⟨q, hq⟩ : ∃ q, q = mx ns 1 12 := ⟨_, rfl⟩
  obtain ⟨t1, t2, t3⟩ := text_ok (q := q) H E
  have hro := rows_ok (q := q) H E
  have hel := E.len
  obtain ⟨c1, c2⟩ := core (q := q) H es 0 [] 0 X4 (st_4 hs q) le_4 (by omega) (by rw [E.rooms]; simp) E.doors
  have hodd : ¬ oddR X0 (wds 10 (TL.joinL [10] (rowsT hs q es))) := by rw [t1]; exact odd_4 _ c1
  obtain ⟨d, s', hrd, hd⟩ := law_read ca [] t2 (fun row hr => by rw [t1] at hr; exact (hro row hr).1) hodd
  have er : readR X0 (wds 10 (TL.joinL [10] (rowsT hs q es))) 0 = readR X4 (es.map (rowE hs q)) (4 + 0) := by rw [t1]; exact read_4 _
  have ern : (wds 10 (TL.joinL [10] (rowsT hs q es))).length + 1 = 4 + (es.length + 0 + 1) := by rw [t1]; simp [rowsT, rows0]; omega
  rw [er, ern] at hd
  have main : (m_law ca [.lst (ns.map .int)] []).S (fun d _ => d = .bl true) NoE := by
    unfold m_law b_law
    simp only [w_mDef, startD]
    refine ⟨rfl, ?_⟩
    rw [W_sSeq]; simp [-W_sSeq, hh]
    rw [W_sSeq]; simp [-W_sSeq, he]
    rw [W_sSeq]; simp (disch := omega) [-W_sSeq, mixed ns hn]
    rw [← hq]
    obtain ⟨Z, hZ⟩ : ∃ Z : Sl → Sto → Prop, Z = (fun l s => [] = s ∧ ∃ z5, l = [some (.lst (ns.map .int)), some (.lst (hs.map hlD)), some (.lst (es.map enD)), some (nD q), some (.lst ((List.range hs.length).map fun k => dT (nmS q k))), z5, none, none, none, none]) := ⟨_, rfl⟩
    rw [W_sSeq]; refine W_cut Z ?_ ?_
    · simp
      refine ⟨by omega, W_compR hs.length (fun k => dT (nmS q k)) (fun _ => true) (by omega) (fun k hk => ?_) ?_⟩
      · simp [wipeD, name k q (by omega)]
      · rw [List.filter_eq_self.mpr (by simp), hZ]
        exact ⟨rfl, _, rfl⟩
    intro l s hz
    rw [hZ] at hz
    obtain ⟨rfl, z5, rfl⟩ := hz
    rw [W_sSeq]; simp [-W_sSeq, -W_sFor]
    obtain ⟨I, hI⟩ : ∃ I : List (Bool × Nat) → Sl → Sto → Prop, I = (fun dn l s => [] = s ∧ ∃ z5 z7, l = [some (.lst (ns.map .int)), some (.lst (hs.map hlD)), some (.lst (es.map enD)), some (nD q), some (.lst ((List.range hs.length).map fun k => dT (nmS q k))), z5, some (.lst ((rowsT hs q dn).map dT)), z7, none, none]) := ⟨_, rfl⟩
    rw [W_sSeq]; refine W_cut (I es) ?_ ?_
    · rw [W_sFor]; simp [-W_sIf]
      refine W_forM enD es I ?_ ?_ (fun _ _ h => h)
      · rw [hI]
        refine ⟨rfl, z5, none, ?_⟩
        rw [x_r1, x_r2, x_r3, x_r4]
        rfl
      · intro dn e rest l s hes hi
        rw [hI] at hi
        obtain ⟨rfl, z5, z7, rfl⟩ := hi
        obtain ⟨b, i⟩ := e
        have hmem : (b, i) ∈ es := by rw [hes]; simp
        have hdl : dn.length ≤ 200 := by have := congrArg List.length hes; simp at this; omega
        have rng : ∀ {n k : Nat}, k < n → ∀ P : Nat → Prop, OW (getI (List.range n) (k : Int)) P ↔ P k := fun {n k} hk P => by
          have : getI (List.range n) (k : Int) = some k := by rw [getI_nat _ _ (by omega) (by simp; omega)]; simp [hk]
          rw [this, OW_some]
        have hrl : (rowsT hs q dn).length ≤ 300 := by simp [rowsT, rows0]; omega
        have hadd : rowsT hs q (dn ++ [(b, i)]) = rowsT hs q dn ++ [rowE hs q (b, i)] := by simp [rowsT]
        cases b with
        | true =>
          have hi : i < hs.length := en_room E hmem rfl
          have g0 : ∀ P : Hl → Prop, OW (getI hs (i : Int)) P ↔ P (hlAt hs i) := fun P => by rw [getI_g hi, hlAt_get hi]
          obtain ⟨hk1, hk2⟩ := H.at hi
          obtain ⟨k1, k2, k3⟩ := kd_low hk1
          obtain ⟨n1, n2⟩ := nm_asc (q := q) (k := i) (by omega)
          have hm := fun P => o_mulX (P := P) [32, 32] (hlAt hs i).dp (by omega) (by simp)
          show OW (tg2 7 5 (.tup [dT kRoom, nD i]) _) _
          rw [tg2W]
          refine W_ifD true (by simp [x_room]) ?_; rw [if_pos rfl]
          have hlr := len_rep (hlAt hs i).dp
          simp [g0, rng hi, hlD, x_2sp, x_sp, hm]
          have e1 : rowE hs q (true, i) = (List.replicate (hlAt hs i).dp [32, 32]).flatten ++ ((hlAt hs i).kd ++ 32 :: nmS q i) := by simp [rowE, rowR]
          refine ⟨by omega, by omega, by omega, by omega, ?_⟩
          rw [hI]
          refine ⟨rfl, some (nD i), some (dT kRoom), ?_⟩
          rw [hadd, List.map_append, e1]
          rfl
        | false =>
          have hi : i < hs.length := E.doors (false, i) hmem rfl
          obtain ⟨n1, n2⟩ := nm_asc (q := q) (k := i) (by omega)
          show OW (tg2 7 5 (.tup [dT kDoor, nD i]) _) _
          rw [tg2W]
          refine W_ifD false (by simp [x_room]; decide) ?_; rw [if_neg (by decide)]
          simp [rng hi, x_dsp, x_kst]
          have e1 : rowE hs q (false, i) = kDoor ++ 32 :: (nmS q i ++ 32 :: (kKnk ++ 32 :: kStay)) := by simp [rowE, rowD]
          have l1 : kDoor.length = 4 := rfl
          have l2 : kKnk.length = 5 := rfl
          have l3 : kStay.length = 4 := rfl
          refine ⟨by omega, by omega, by omega, ?_⟩
          rw [hI]
          refine ⟨rfl, some (nD i), some (dT kDoor), ?_⟩
          rw [hadd, List.map_append, e1]
          rfl
    intro l s hi
    rw [hI] at hi
    obtain ⟨rfl, z5, z7, rfl⟩ := hi
    rw [W_sSeq]; simp [-W_sSeq, hdue]
    rw [W_sSeq]; simp [-W_sSeq, x_nl, o_join, hrd]
    refine ⟨by omega, ?_⟩
    rcases c2 with ⟨m, a1, a2, a3⟩ | ⟨X', a1, a2, a3⟩
    · rcases hd with ⟨X, b1, _⟩ | ⟨n, b1, rfl⟩
      · rw [a1] at b1; exact nomatch b1
      · have hn4 : n = 4 + m := by
          rcases b1 with b1 | ⟨X, b1, _⟩
          · rw [a1] at b1; exact (Sum.inl.inj b1).symm
          · rw [a1] at b1; exact nomatch b1
        have a2' : dueF hs es 0 0 0 = m := a2
        rw [a2', hn4]
        rw [W_sSeq]
        refine W_ifD true (by simp; omega) ?_; rw [if_pos rfl]
        simp
    · have a3' : dueF hs es 0 0 0 = if lastPl hs hs.length = true then 0 else es.length + 0 + 1 := a3
      have hw := a2.whole
      by_cases hp : lastPl hs hs.length = true
      · rw [if_pos hp] at a3'
        rcases hd with ⟨X, b1, b2, rfl⟩ | ⟨n, b1, rfl⟩
        · rw [a1] at b1
          obtain rfl := Sum.inr.inj b1
          rw [a3']
          rw [W_sSeq]
          refine W_ifD false (by simp) ?_; rw [if_neg (by decide)]
          simp
          show (m__law_right [dfD X', .lst (hs.map hlD), .lst (es.map enD), .lst ((List.range hs.length).map fun k => dT (nmS q k))] s').S _ _
          rw [law_right H E (by simp) a2]
          simp
        · rcases b1 with b1 | ⟨X, b1, b2, _⟩
          · rw [a1] at b1; exact nomatch b1
          · rw [a1] at b1
            obtain rfl := Sum.inr.inj b1
            rw [hw, hp] at b2; exact nomatch b2
      · rw [if_neg hp] at a3'
        rcases hd with ⟨X, b1, b2, rfl⟩ | ⟨n, b1, rfl⟩
        · rw [a1] at b1
          obtain rfl := Sum.inr.inj b1
          rw [hw] at b2; exact absurd b2 hp
        · have hn4 : n = 4 + (es.length + 0 + 1) := by
            rcases b1 with b1 | ⟨X, b1, b2, b3⟩
            · rw [a1] at b1; exact nomatch b1
            · exact b3
          rw [a3', hn4]
          rw [W_sSeq]
          refine W_ifD true (by simp) ?_; rw [if_pos rfl]
          simp
  obtain ⟨d, s', h1, rfl⟩ := main.ok
  exact ⟨s', h1⟩
end Law

namespace Law
open PySem PySem.Spec L2 Vx
def topS (i : Nat) : Stmt := PySem.Challenge.pw_nesthall_k56_rooms_that_fit.main.body.getD i (.Pass ⟨0, 0, 0, 0⟩)
section
variable [Wd] {P : Program} {w : World} {K : PySem.W.Frag} {mg : Str → Option Value} {base : Heap}
abbrev s_Unread___init__ : Stmt := inClass (topS 3) 0
abbrev n_Unread___init__ : List Str := ["self", "row"]
theorem sc_Unread___init__ : FnScope n_Unread___init__ ["self", "row"] (defScope s_Unread___init__) := ⟨rfl, rfl, rfl, by decide +kernel, rfl, by decide +kernel, by decide +kernel⟩
theorem c_Unread___init__ {ca : Nat → Nat} (F : XDfn K mg "Unread" (ca 15) "row" "Unread.__init__" s_Unread___init__ ["self", "row"]) : XIni P w K mg base 1 "Unread" (ca 15) "row" :=
 xini_of (k := 0) F sc_Unread___init__ rfl rfl fun q cdv A outer s H E => pss_one (ps_ost (pe_var (i := 0) rfl (Or.inl rfl) (by decide) (by decide)) (pe_var (i := 1) rfl (Or.inl rfl) (by decide) (by decide)))
theorem ch_Unread___init__ {ca : Nat → Nat} (F : XDfn K mg "Unread" (ca 15) "row" "Unread.__init__" s_Unread___init__ ["self", "row"]) : XIniH P w K mg base 1 "Unread" (ca 15) "row" :=
 xiniH_of (k := 0) F sc_Unread___init__ rfl rfl fun q cdv A outer s H E p => pss_one (ps_ost (pe_var (i := 0) rfl (Or.inl rfl) (by decide) (by decide)) (pe_var (i := 1) rfl (Or.inl rfl) (by decide) (by decide)))
abbrev s__law_fits : Stmt := topS 28
abbrev n__law_fits : List Str := ["_law_halls_here", "_law_k", "_law_depth_here"]
theorem sc__law_fits : FnScope n__law_fits ["_law_halls_here", "_law_k"] (defScope s__law_fits) := ⟨rfl, rfl, rfl, by decide +kernel, rfl, by decide +kernel, by decide +kernel⟩
theorem c__law_fits (F : Dfn K mg "_law_fits" s__law_fits ["_law_halls_here", "_law_k"]) : Cal P w K mg base 1 "_law_fits" false m__law_fits :=
 cal_of (k := 0) (Γ0 := [false, false, false]) (Γ' := [false, false, false]) (ΓL := []) F sc__law_fits fun q cdv A outer s H E hr =>
 (sss_cons (ss_set 2 (se_ix ixd (sb_se (se_ix ixd (sb_se (se_var 0)) (sb_se (se_var 1)))) (sb_se se_int)) sc__law_fits.nd)
 (sss_cons (ss_if (SW.st (sw_or (st_cmp opd_gt (sb_se (se_var 2)) (sb_se se_int)) (sw_or1 (st_cmp (opd_eq hr.units) (sb_se (se_var 1)) (sb_se se_int)))))
 (sss_one (ss_ret se_bl))
 sss_nil)
 (sss_cons (ss_if (st_cmp (opd_eq hr.units) (sb_se (se_var 1)) (sb_se se_int))
 (sss_one (ss_ret (se_cmp (opd_eq hr.units) (sb_se (se_var 2)) (sb_se se_int))))
 sss_nil)
 (sss_cons (ss_if (st_cmp (opd_eq hr.units) (sb_se (se_ix ixd (sb_se (se_ix ixd (sb_se (se_var 0)) (sb_se (se_bin opd_sub (sb_se (se_var 1)) (sb_se se_int))))) (sb_se se_int))) (sb_se se_str))
 (sss_one (ss_ret (se_chain opd_le opd_le (sb_se se_int) (sb_se (se_var 2)) (sb_se (se_ix ixd (sb_se (se_ix ixd (sb_se (se_var 0)) (sb_se (se_bin opd_sub (sb_se (se_var 1)) (sb_se se_int))))) (sb_se se_int))))))
 sss_nil)
 (sss_one (ss_ret (se_cmp (opd_eq hr.units) (sb_se (se_var 2)) (sb_se (se_bin opd_add (sb_se (se_ix ixd (sb_se (se_ix ixd (sb_se (se_var 0)) (sb_se (se_bin opd_sub (sb_se (se_var 1)) (sb_se se_int))))) (sb_se se_int))) (sb_se se_int))))))))))
abbrev s__law_due : Stmt := topS 29
abbrev n__law_due : List Str := ["_law_halls_here", "_law_entries_here", "_law_rooms", "_law_doors", "_law_k"]
theorem sc__law_due : FnScope n__law_due ["_law_halls_here", "_law_entries_here"] (defScope s__law_due) := ⟨rfl, rfl, rfl, by decide +kernel, rfl, by decide +kernel, by decide +kernel⟩
theorem c__law_due (F : Dfn K mg "_law_due" s__law_due ["_law_halls_here", "_law_entries_here"]) (C__law_fits : Cal P w K mg base 1 "_law_fits" false m__law_fits) (z_len : mg "len" = none) (z_range : mg "range" = none) : Cal P w K mg base 2 "_law_due" false m__law_due :=
 cal_of (k := 1) (Γ0 := [false, false, false, false, false]) (Γ' := [false, false, false, false, false]) (ΓL := []) F sc__law_due fun q cdv A outer s H E hr =>
 (sss_cons (ss_set 2 se_int sc__law_due.nd)
 (sss_cons (ss_set 3 se_int sc__law_due.nd)
 (sss_cons (ss_for PassesOwn.never rfl (si_rg1 z_range (sa_cons (se_callB calld_len z_len bv_len (sab_cons (sb_se (se_var 1)) sab_nil)) sa_nil)) (sg_name 4 sc__law_due.nd)
 (sss_one (ss_if (st_cmp (opd_eq hr.units) (sb_se (se_ix ixd (sb_se (se_ix ixd (sb_se (se_var 1)) (sb_se (se_var 4)))) (sb_se se_int))) (sb_se se_str))
 (sss_cons (ss_if (SW.st (sw_or (st_cmp opd_gt (sb_se (se_var 3)) (sb_se se_int)) (sw_or1 (st_not (st_val (se_c C__law_fits hr (sa_cons (se_var 0) (sa_cons (se_ix ixd (sb_se (se_ix ixd (sb_se (se_var 1)) (sb_se (se_var 4)))) (sb_se se_int)) sa_nil))))))))
 (sss_one (ss_ret (se_bin opd_add (sb_se (se_var 4)) (sb_se se_int))))
 sss_nil)
 (sss_one (ss_set 2 (se_bin opd_add (sb_se (se_var 2)) (sb_se se_int)) sc__law_due.nd)))
 (sss_cons (ss_if (SW.st (sw_or (st_cmp (opd_eq hr.units) (sb_se (se_var 2)) (sb_se se_int)) (sw_or (st_cmp (opd_ne hr.units) (sb_se (se_ix ixd (sb_se (se_ix ixd (sb_se (se_var 0)) (sb_se (se_bin opd_sub (sb_se (se_var 2)) (sb_se se_int))))) (sb_se se_int))) (sb_se se_str)) (sw_or (st_cmp (opd_eq hr.units) (sb_se (se_var 3)) (sb_se se_int)) (sw_or1 (st_cmp opd_ge (sb_se (se_ix ixd (sb_se (se_ix ixd (sb_se (se_var 1)) (sb_se (se_var 4)))) (sb_se se_int))) (sb_se (se_var 2))))))))
 (sss_one (ss_ret (se_bin opd_add (sb_se (se_var 4)) (sb_se se_int))))
 sss_nil)
 (sss_one (ss_set 3 (se_bin opd_add (sb_se (se_var 3)) (sb_se se_int)) sc__law_due.nd))))))
 (sss_cons (ss_if (SW.st (sw_or (st_cmp (opd_eq hr.units) (sb_se (se_var 2)) (sb_se se_int)) (sw_or1 (st_cmp (opd_ne hr.units) (sb_se (se_ix ixd (sb_se (se_ix ixd (sb_se (se_var 0)) (sb_se (se_bin opd_sub (sb_se (se_var 2)) (sb_se se_int))))) (sb_se se_int))) (sb_se se_str)))))
 (sss_one (ss_ret (se_bin opd_add (sb_se (se_callB calld_len z_len bv_len (sab_cons (sb_se (se_var 1)) sab_nil))) (sb_se se_int))))
 sss_nil)
 (sss_one (ss_ret se_int))))))
abbrev s__law_cell_at : Stmt := topS 22
abbrev n__law_cell_at : List Str := ["_law_script", "_law_k"]
theorem sc__law_cell_at : FnScope n__law_cell_at ["_law_script", "_law_k"] (defScope s__law_cell_at) := ⟨rfl, rfl, rfl, by decide +kernel, rfl, by decide +kernel, by decide +kernel⟩
theorem c__law_cell_at (F : Dfn K mg "_law_cell_at" s__law_cell_at ["_law_script", "_law_k"]) (z_len : mg "len" = none) : Cal P w K mg base 1 "_law_cell_at" false m__law_cell_at :=
 cal_of (k := 0) (Γ0 := [false, false]) (Γ' := [false, false]) (ΓL := []) F sc__law_cell_at fun q cdv A outer s H E hr =>
 (sss_cons (ss_if (st_cmp (opd_eq hr.units) (sb_se (se_callB calld_len z_len bv_len (sab_cons (sb_se (se_var 0)) sab_nil))) (sb_se se_int))
 (sss_one (ss_ret se_int))
 sss_nil)
 (sss_one (ss_ret (se_ix ixd (sb_se (se_var 0)) (sb_se (se_bin opd_mod (sb_se (se_var 1)) (sb_se (se_callB calld_len z_len bv_len (sab_cons (sb_se (se_var 0)) sab_nil)))))))))
abbrev s__law_mixed : Stmt := topS 23
abbrev n__law_mixed : List Str := ["_law_script", "_law_k", "_law_salt", "_law_cell", "_law_lap", "_law_near"]
theorem sc__law_mixed : FnScope n__law_mixed ["_law_script", "_law_k", "_law_salt"] (defScope s__law_mixed) := ⟨rfl, rfl, rfl, by decide +kernel, rfl, by decide +kernel, by decide +kernel⟩
theorem c__law_mixed (F : Dfn K mg "_law_mixed" s__law_mixed ["_law_script", "_law_k", "_law_salt"]) (C__law_cell_at : Cal P w K mg base 1 "_law_cell_at" false m__law_cell_at) (z_len : mg "len" = none) (z_max : mg "max" = none) : Cal P w K mg base 2 "_law_mixed" false m__law_mixed :=
 cal_of (k := 1) (Γ0 := [false, false, false, false, false, false]) (Γ' := [false, false, false, false, false, false]) (ΓL := []) F sc__law_mixed fun q cdv A outer s H E hr =>
 (sss_cons (ss_set 3 (se_c C__law_cell_at hr (sa_cons (se_var 0) (sa_cons (se_var 1) sa_nil))) sc__law_mixed.nd)
 (sss_cons (ss_set 4 (se_bin opd_div (sb_se (se_var 1)) (sb_se (se_callB (calld_max2 rfl) z_max bv_max (sab_cons (sb_se se_int) (sab_cons (sb_se (se_callB calld_len z_len bv_len (sab_cons (sb_se (se_var 0)) sab_nil))) sab_nil))))) sc__law_mixed.nd)
 (sss_cons (ss_set 5 (se_bin opd_add (sb_se (se_bin opd_add (sb_se (se_bin opd_add (sb_se (se_bin opd_mask (sb_se (se_var 3)) (sb_se se_int))) (sb_se (se_bin opd_mul (sb_se (se_bin opd_mul (sb_se se_int) (sb_se (se_var 1)))) (sb_se (se_var 1)))))) (sb_se (se_bin opd_mul (sb_se (se_bin opd_mul (sb_se se_int) (sb_se (se_var 2)))) (sb_se (se_var 2)))))) (sb_se se_int)) sc__law_mixed.nd)
 (sss_cons (ss_set 5 (se_bin opd_mod (sb_se (se_bin opd_mul (sb_se (se_var 5)) (sb_se se_int))) (sb_se se_int)) sc__law_mixed.nd)
 (sss_one (ss_ret (se_bin opd_mask (sb_se (se_bin opd_add (sb_se (se_bin opd_shr (sb_se (se_var 3)) (sb_se (se_bin opd_mul (sb_se se_int) (sb_se (se_bin opd_add (sb_se (se_var 2)) (sb_se (se_bin opd_mul (sb_se se_int) (sb_se (se_var 4)))))))))) (sb_se (se_bin opd_mod (sb_se (se_bin opd_mul (sb_se (se_var 5)) (sb_se (se_var 5)))) (sb_se se_int))))) (sb_se se_int))))))))
abbrev s__law_entries : Stmt := topS 27
abbrev n__law_entries : List Str := ["_law_script", "_law_halls_here", "_law_count", "_law_entries_here", "_law_k", "_law_doors", "_law_at"]
theorem sc__law_entries : FnScope n__law_entries ["_law_script", "_law_halls_here"] (defScope s__law_entries) := ⟨rfl, rfl, rfl, by decide +kernel, rfl, by decide +kernel, by decide +kernel⟩
theorem c__law_entries (F : Dfn K mg "_law_entries" s__law_entries ["_law_script", "_law_halls_here"]) (C__law_mixed : Cal P w K mg base 2 "_law_mixed" false m__law_mixed) (z_len : mg "len" = none) (z_range : mg "range" = none) : Cal P w K mg base 3 "_law_entries" false m__law_entries :=
 cal_of (k := 2) (Γ0 := [false, false, false, false, false, false, false]) (Γ' := [false, false, false, false, false, false, false]) (ΓL := []) F sc__law_entries fun q cdv A outer s H E hr =>
 (sss_cons (ss_set 2 (se_bin opd_mod (sb_se (se_c C__law_mixed hr (sa_cons (se_var 0) (sa_cons se_int (sa_cons se_int sa_nil))))) (sb_se se_int)) sc__law_entries.nd)
 (sss_cons (ss_if (st_cmp (opd_eq hr.units) (sb_se (se_bin opd_mod (sb_se (se_c C__law_mixed hr (sa_cons (se_var 0) (sa_cons se_int (sa_cons se_int sa_nil))))) (sb_se se_int))) (sb_se se_int))
 (sss_one (ss_set 2 (se_bin opd_add (sb_se se_int) (sb_se (se_bin opd_mod (sb_se (se_c C__law_mixed hr (sa_cons (se_var 0) (sa_cons se_int (sa_cons se_int sa_nil))))) (sb_se se_int)))) sc__law_entries.nd))
 sss_nil)
 (sss_cons (ss_post [false, false, false, false, false, false, false] [false, false, false, true, false, false, false] (ss_to [false, false, false, true, false, false, false] (ss_setLc 3 rfl sc__law_entries.nd rfl rfl (sw_true rfl rfl rfl (by decide +kernel)) (si_rg1 z_range (sa_cons (se_callB calld_len z_len bv_len (sab_cons (sb_se (se_var 1)) sab_nil)) sa_nil)) (blkOk_by (N := n__law_entries) (sc := defScope s__law_entries) (own := [("_law_k", 4)]) (by decide +kernel)) (fun _ _ _ _ _ => (sg_name 4 sc__law_entries.nd)) (tg1_ok 4) (by decide) (fun _ _ _ _ _ => sts_nil) (fun _ _ _ _ _ => (se_tup (sa_cons se_str (sa_cons (se_var 4) sa_nil)))) (by decide))))
 (sss_cons (ss_post [false, false, false, false, false, false, false] [false, false, false, false, false, true, false] (ss_to [false, false, false, false, false, true, false] (ss_setLc 5 rfl sc__law_entries.nd rfl rfl (sw_true rfl rfl rfl (by decide +kernel)) (si_rg1 z_range (sa_cons (se_var 2) sa_nil)) (blkOk_by (N := n__law_entries) (sc := defScope s__law_entries) (own := [("_law_k", 4)]) (by decide +kernel)) (fun _ _ _ _ _ => (sg_name 4 sc__law_entries.nd)) (tg1_ok 4) (by decide) (fun _ _ _ _ _ => sts_nil) (fun _ _ _ _ _ => (se_tup (sa_cons se_str (sa_cons (se_bin opd_mod (sb_se (se_c C__law_mixed hr (sa_cons (se_var 0) (sa_cons (se_var 4) (sa_cons se_int sa_nil))))) (sb_se (se_callB calld_len z_len bv_len (sab_cons (sb_se (se_var 1)) sab_nil)))) sa_nil)))) (by decide))))
 (sss_cons (ss_if (st_cmp (opd_eq hr.units) (sb_se (se_bin opd_mod (sb_se (se_c C__law_mixed hr (sa_cons (se_var 0) (sa_cons se_int (sa_cons se_int sa_nil))))) (sb_se se_int))) (sb_se se_int))
 (sss_cons (ss_set 6 (se_bin opd_mod (sb_se (se_c C__law_mixed hr (sa_cons (se_var 0) (sa_cons se_int (sa_cons se_int sa_nil))))) (sb_se (se_bin opd_add (sb_se (se_callB calld_len z_len bv_len (sab_cons (sb_se (se_var 1)) sab_nil))) (sb_se se_int)))) sc__law_entries.nd)
 (sss_one (ss_ret (se_bin opd_add (sb_se (se_bin opd_add (sb_se (se_bin opd_add (sb_se (se_cut cutd (sb_se (se_var 3)) so_none (so_some (se_var 6)))) (sb_sf (sf_lst (sa_cons (se_tup (sa_cons se_str (sa_cons se_int sa_nil))) sa_nil))))) (sb_se (se_cut cutd (sb_se (se_var 3)) (so_some (se_var 6)) so_none)))) (sb_se (se_var 5))))))
 sss_nil)
 (sss_one (ss_ret (se_bin opd_add (sb_se (se_var 3)) (sb_se (se_var 5))))))))))
abbrev s__law_depth : Stmt := topS 25
abbrev n__law_depth : List Str := ["_law_number", "_law_ahead"]
theorem sc__law_depth : FnScope n__law_depth ["_law_number", "_law_ahead"] (defScope s__law_depth) := ⟨rfl, rfl, rfl, by decide +kernel, rfl, by decide +kernel, by decide +kernel⟩
theorem c__law_depth (F : Dfn K mg "_law_depth" s__law_depth ["_law_number", "_law_ahead"]) (z_len : mg "len" = none) (z_max : mg "max" = none) : Cal P w K mg base 1 "_law_depth" false m__law_depth :=
 cal_of (k := 0) (Γ0 := [false, false]) (Γ' := [false, false]) (ΓL := []) F sc__law_depth fun q cdv A outer s H E hr =>
 (sss_cons (ss_if (SW.st (sw_and (st_cmp (opd_eq hr.units) (sb_se (se_bin opd_mod (sb_se (se_var 0)) (sb_se se_int))) (sb_se se_int)) (sw_and1 (st_cmp opd_gt (sb_se (se_callB calld_len z_len bv_len (sab_cons (sb_se (se_var 1)) sab_nil))) (sb_se se_int)))))
 (sss_one (ss_ret (se_bin opd_mod (sb_se (se_bin opd_div (sb_se (se_var 0)) (sb_se se_int))) (sb_se (se_bin opd_add (sb_se (se_ix ixd (sb_se (se_ix ixd (sb_se (se_var 1)) (sb_se (se_neg se_int)))) (sb_se se_int))) (sb_se se_int))))))
 sss_nil)
 (sss_cons (ss_if (st_cmp (opd_eq hr.units) (sb_se (se_callB calld_len z_len bv_len (sab_cons (sb_se (se_var 1)) sab_nil))) (sb_se se_int))
 (sss_one (ss_ret (se_callB (calld_max2 rfl) z_max bv_max (sab_cons (sb_se se_int) (sab_cons (sb_se (se_bin opd_sub (sb_se (se_bin opd_mod (sb_se (se_var 0)) (sb_se se_int))) (sb_se se_int))) sab_nil)))))
 sss_nil)
 (sss_cons (ss_if (st_cmp (opd_ne hr.units) (sb_se (se_ix ixd (sb_se (se_ix ixd (sb_se (se_var 1)) (sb_se (se_neg se_int)))) (sb_se se_int))) (sb_se se_str))
 (sss_one (ss_ret (se_bin opd_add (sb_se (se_ix ixd (sb_se (se_ix ixd (sb_se (se_var 1)) (sb_se (se_neg se_int)))) (sb_se se_int))) (sb_se se_int))))
 sss_nil)
 (sss_one (ss_ret (se_bin opd_add (sb_se se_int) (sb_se (se_bin opd_mod (sb_se (se_bin opd_div (sb_se (se_var 0)) (sb_se se_int))) (sb_se (se_callB (calld_max2 rfl) z_max bv_max (sab_cons (sb_se se_int) (sab_cons (sb_se (se_ix ixd (sb_se (se_ix ixd (sb_se (se_var 1)) (sb_se (se_neg se_int)))) (sb_se se_int))) sab_nil))))))))))))
abbrev s__law_halls : Stmt := topS 26
abbrev n__law_halls : List Str := ["_law_script", "_law_many", "_law_sort", "_law_halls_here", "_law_k", "_law_number", "_law_depth_here", "_law_kind"]
theorem sc__law_halls : FnScope n__law_halls ["_law_script"] (defScope s__law_halls) := ⟨rfl, rfl, rfl, by decide +kernel, rfl, by decide +kernel, by decide +kernel⟩
theorem c__law_halls (F : Dfn K mg "_law_halls" s__law_halls ["_law_script"]) (C__law_depth : Cal P w K mg base 1 "_law_depth" false m__law_depth) (C__law_mixed : Cal P w K mg base 2 "_law_mixed" false m__law_mixed) (z_len : mg "len" = none) (z_max : mg "max" = none) (z_range : mg "range" = none) : Cal P w K mg base 3 "_law_halls" false m__law_halls :=
 cal_of (k := 2) (Γ0 := [false, false, false, false, false, false, false, false]) (Γ' := [false, false, false, false, false, false, false, false]) (ΓL := []) F sc__law_halls fun q cdv A outer s H E hr =>
 (sss_cons (ss_set 1 (se_bin opd_add (sb_se se_int) (sb_se (se_bin opd_mod (sb_se (se_c C__law_mixed hr (sa_cons (se_var 0) (sa_cons se_int (sa_cons se_int sa_nil))))) (sb_se se_int)))) sc__law_halls.nd)
 (sss_cons (ss_set 2 (se_bin opd_mod (sb_se (se_c C__law_mixed hr (sa_cons (se_var 0) (sa_cons se_int (sa_cons se_int sa_nil))))) (sb_se se_int)) sc__law_halls.nd)
 (sss_cons (ss_if (st_cmp (opd_eq hr.units) (sb_se (se_var 2)) (sb_se se_int))
 (sss_one (ss_set 1 (se_ix ixd (sb_sf (sf_lst (sa_cons (se_bin opd_add (sb_se se_int) (sb_se (se_bin opd_mod (sb_se (se_c C__law_mixed hr (sa_cons (se_var 0) (sa_cons se_int (sa_cons se_int sa_nil))))) (sb_se se_int)))) (sa_cons se_int (sa_cons se_int (sa_cons se_int sa_nil)))))) (sb_se (se_bin opd_mod (sb_se (se_c C__law_mixed hr (sa_cons (se_var 0) (sa_cons se_int (sa_cons se_int sa_nil))))) (sb_se se_int)))) sc__law_halls.nd))
 sss_nil)
 (sss_cons (ss_if (st_cmp (opd_eq hr.units) (sb_se (se_var 2)) (sb_se se_int))
 (sss_one (ss_set 1 (se_bin opd_add (sb_se se_int) (sb_se (se_bin opd_mod (sb_se (se_c C__law_mixed hr (sa_cons (se_var 0) (sa_cons se_int (sa_cons se_int sa_nil))))) (sb_se se_int)))) sc__law_halls.nd))
 sss_nil)
 (sss_cons (ss_to [false, false, false, true, false, false, false, false] (ss_setF 3 (sf_lst sa_nil) sc__law_halls.nd))
 (sss_cons (ss_for PassesOwn.never rfl (si_rg1 z_range (sa_cons (se_var 1) sa_nil)) (sg_name 4 sc__law_halls.nd)
 (sss_cons (ss_set 5 (se_c C__law_mixed hr (sa_cons (se_var 0) (sa_cons (se_var 4) (sa_cons se_int sa_nil)))) sc__law_halls.nd)
 (sss_cons (ss_set 6 (se_cL C__law_depth hr (sab_cons (sb_se (se_c C__law_mixed hr (sa_cons (se_var 0) (sa_cons (se_var 4) (sa_cons se_int sa_nil))))) (sab_cons (sb_own 3) sab_nil))) sc__law_halls.nd)
 (sss_cons (ss_if (SW.st (sw_and (st_cmp (opd_ne hr.units) (sb_se (se_bin opd_mod (sb_se (se_var 2)) (sb_se se_int))) (sb_se se_int)) (sw_and1 (st_cmp opd_gt (sb_se (se_callB calld_len z_len bv_len (sab_cons (sb_own 3) sab_nil))) (sb_se se_int)))))
 (sss_cons (ss_set 6 (se_bin opd_add (sb_se se_int) (sb_se (se_bin opd_mod (sb_se (se_c C__law_mixed hr (sa_cons (se_var 0) (sa_cons (se_var 4) (sa_cons se_int sa_nil))))) (sb_se (se_callB (calld_max2 rfl) z_max bv_max (sab_cons (sb_se se_int) (sab_cons (sb_se (se_ix ixd (sb_se (se_ix ixd (sb_own 3) (sb_se (se_neg se_int)))) (sb_se se_int))) sab_nil))))))) sc__law_halls.nd)
 (sss_one (ss_if (st_cmp (opd_ne hr.units) (sb_se (se_ix ixd (sb_se (se_ix ixd (sb_own 3) (sb_se (se_neg se_int)))) (sb_se se_int))) (sb_se se_str))
 (sss_one (ss_set 6 (se_bin opd_add (sb_se (se_ix ixd (sb_se (se_ix ixd (sb_own 3) (sb_se (se_neg se_int)))) (sb_se se_int))) (sb_se se_int)) sc__law_halls.nd))
 sss_nil)))
 sss_nil)
 (sss_cons (ss_set 7 (se_ix ixd (sb_sf (sf_lst (sa_cons se_str (sa_cons se_str (sa_cons se_str (sa_cons se_str (sa_cons se_str sa_nil))))))) (sb_se (se_bin opd_mod (sb_se (se_var 5)) (sb_se se_int)))) sc__law_halls.nd)
 (sss_cons (ss_if (st_cmp (opd_eq hr.units) (sb_se (se_var 2)) (sb_se se_int))
 (sss_one (ss_set 7 (se_ix ixd (sb_sf (sf_lst (sa_cons se_str (sa_cons se_str sa_nil)))) (sb_se (se_bin opd_mod (sb_se (se_var 5)) (sb_se se_int)))) sc__law_halls.nd))
 sss_nil)
 (sss_cons (ss_if (SW.st (sw_and (st_cmp (opd_eq hr.units) (sb_se (se_var 4)) (sb_se se_int)) (sw_and (st_cmp opd_gt (sb_se (se_var 1)) (sb_se se_int)) (sw_and1 (st_cmp opd_gt (sb_se (se_bin opd_mod (sb_se (se_bin opd_div (sb_se (se_var 5)) (sb_se se_int))) (sb_se se_int))) (sb_se se_int))))))
 (sss_one (ss_set 7 (se_ix ixd (sb_sf (sf_lst (sa_cons se_str (sa_cons se_str sa_nil)))) (sb_se (se_bin opd_mod (sb_se (se_var 5)) (sb_se se_int)))) sc__law_halls.nd))
 (sss_one (ss_if (SW.st (sw_or (SW.st (sw_and (st_cmp (opd_eq hr.units) (sb_se (se_var 4)) (sb_se (se_bin opd_sub (sb_se (se_var 1)) (sb_se se_int)))) (sw_and1 (st_cmp opd_gt (sb_se (se_bin opd_mod (sb_se (se_bin opd_div (sb_se (se_var 5)) (sb_se se_int))) (sb_se se_int))) (sb_se se_int))))) (sw_or1 (SW.st (sw_and (st_cmp (opd_eq hr.units) (sb_se (se_var 2)) (sb_se se_int)) (sw_and (st_cmp opd_gt (sb_se (se_var 4)) (sb_se se_int)) (sw_and1 (st_cmp opd_gt (sb_se (se_bin opd_mod (sb_se (se_bin opd_div (sb_se (se_var 5)) (sb_se se_int))) (sb_se se_int))) (sb_se se_int)))))))))
 (sss_one (ss_set 7 se_str sc__law_halls.nd))
 sss_nil)))
 (sss_one (ss_app 3 (se_tup (sa_cons (se_var 7) (sa_cons (se_var 6) sa_nil))))))))))))
 (sss_one (ss_pre [false, false, false, false, false, false, false, false] (ss_ret (se_var 3))))))))))
abbrev s__law_name : Stmt := topS 24
abbrev n__law_name : List Str := ["_law_k", "_law_number", "_law_stem", "_law_at"]
theorem sc__law_name : FnScope n__law_name ["_law_k", "_law_number"] (defScope s__law_name) := ⟨rfl, rfl, rfl, by decide +kernel, rfl, by decide +kernel, by decide +kernel⟩
theorem c__law_name (F : Dfn K mg "_law_name" s__law_name ["_law_k", "_law_number"]) (z_len : mg "len" = none) : Cal P w K mg base 1 "_law_name" false m__law_name :=
 cal_of (k := 0) (Γ0 := [false, false, false, false]) (Γ' := [false, false, false, false]) (ΓL := []) F sc__law_name fun q cdv A outer s H E hr =>
 (sss_cons (ss_set 2 (se_ix ixd (sb_sf (sf_lst (sa_cons se_str (sa_cons se_str (sa_cons se_str (sa_cons se_str sa_nil)))))) (sb_se (se_bin opd_mod (sb_se (se_var 1)) (sb_se se_int)))) sc__law_name.nd)
 (sss_cons (ss_set 3 (se_bin opd_mod (sb_se (se_bin opd_div (sb_se (se_var 1)) (sb_se se_int))) (sb_se (se_bin opd_add (sb_se (se_callB calld_len z_len bv_len (sab_cons (sb_se (se_var 2)) sab_nil))) (sb_se se_int)))) sc__law_name.nd)
 (sss_one (ss_ret (se_bin opd_add (sb_se (se_bin opd_add (sb_se (se_bin opd_add (sb_se (se_cut cutd (sb_se (se_var 2)) so_none (so_some (se_var 3)))) (sb_se (se_ix ixd (sb_se se_str) (sb_se (se_bin opd_mod (sb_se (se_var 0)) (sb_se se_int))))))) (sb_se (se_ix ixd (sb_se se_str) (sb_se (se_bin opd_div (sb_se (se_var 0)) (sb_se se_int))))))) (sb_se (se_cut cutd (sb_se (se_var 2)) (so_some (se_var 3)) so_none)))))))
abbrev s_Draft___init__ : Stmt := inClass (topS 19) 0
abbrev n_Draft___init__ : List Str := ["self"]
theorem sc_Draft___init__ : FnScope n_Draft___init__ ["self"] (defScope s_Draft___init__) := ⟨rfl, rfl, rfl, by decide +kernel, rfl, by decide +kernel, by decide +kernel⟩
theorem c_Draft___init__ {ca : Nat → Nat} (F : IDfn K mg (ca 3) "Draft" "Draft.__init__" s_Draft___init__ ["self"]) (cl_Draft : Cls K (ca 3)) (na_Draft_boxes : NoAttr K (ca 3) "boxes") (na_Draft_doors : NoAttr K (ca 3) "doors") (na_Draft_events : NoAttr K (ca 3) "events") (na_Draft_heads : NoAttr K (ca 3) "heads") (na_Draft_last : NoAttr K (ca 3) "last") (na_Draft_rooms : NoAttr K (ca 3) "rooms") : MkI P w K mg base 1 (ca 3) "Draft" false (m_Draft___init__ ca) :=
 mki_of (k := 0) (Γ0 := [false]) (Γ' := [false]) (ΓL := []) F sc_Draft___init__ fun q cdv A outer s H E hr =>
 (sss_cons (ss_fld cl_Draft na_Draft_heads (se_var 0) (se_box (sf_lst sa_nil)))
 (sss_cons (ss_fld cl_Draft na_Draft_boxes (se_var 0) (se_box (sf_lst sa_nil)))
 (sss_cons (ss_fld cl_Draft na_Draft_events (se_var 0) (se_box (sf_lst sa_nil)))
 (sss_cons (ss_fld cl_Draft na_Draft_rooms (se_var 0) (se_box (sf_lst sa_nil)))
 (sss_cons (ss_fld cl_Draft na_Draft_doors (se_var 0) (se_box (sf_lst sa_nil)))
 (sss_one (ss_fld cl_Draft na_Draft_last (se_var 0) se_str)))))))
abbrev s_is_word : Stmt := topS 9
abbrev n_is_word : List Str := ["text", "sign"]
theorem sc_is_word : FnScope n_is_word ["text"] (defScope s_is_word) := ⟨rfl, rfl, rfl, by decide +kernel, rfl, by decide +kernel, by decide +kernel⟩
theorem c_is_word (F : Dfn K mg "is_word" s_is_word ["text"]) (z_len : mg "len" = none) {t_LETTERS : Tok} (k_LETTERS : mg "LETTERS" = some (.str "abcdefghijklmnopqrstuvwxyz" t_LETTERS)) : Cal P w K mg base 1 "is_word" false m_is_word :=
 cal_of (k := 0) (Γ0 := [false, false]) (Γ' := [false, false]) (ΓL := []) F sc_is_word fun q cdv A outer s H E hr =>
 (sss_cons (ss_if (SW.st (sw_or (st_cmp opd_lt (sb_se (se_callB calld_len z_len bv_len (sab_cons (sb_se (se_var 0)) sab_nil))) (sb_se se_int)) (sw_or1 (st_cmp opd_gt (sb_se (se_callB calld_len z_len bv_len (sab_cons (sb_se (se_var 0)) sab_nil))) (sb_se se_int)))))
 (sss_one (ss_ret se_bl))
 sss_nil)
 (sss_cons (ss_for PassesOwn.never rfl (si_str (se_var 0)) (sg_name 1 sc_is_word.nd)
 (sss_one (ss_if (st_cmp (opd_notIn (room65 hr)) (sb_se (se_var 1)) (sb_se (se_globS k_LETTERS)))
 (sss_one (ss_ret se_bl))
 sss_nil)))
 (sss_one (ss_ret se_bl))))
abbrev s_names_of : Stmt := topS 15
abbrev n_names_of : List Str := ["things", "thing"]
theorem sc_names_of : FnScope n_names_of ["things"] (defScope s_names_of) := ⟨rfl, rfl, rfl, by decide +kernel, rfl, by decide +kernel, by decide +kernel⟩
theorem c_names_of (F : Dfn K mg "names_of" s_names_of ["things"]) : Cal P w K mg base 1 "names_of" false m_names_of :=
 cal_of (k := 0) (Γ0 := [false, false]) (Γ' := [false, false]) (ΓL := []) F sc_names_of fun q cdv A outer s H E hr =>
 (sss_one (ss_ret (se_sf (sf_compO rfl sc_names_of.nd (se_var 0) (blkOk_by (N := n_names_of) (sc := defScope s_names_of) (own := [("thing", 1)]) (by decide +kernel)) (fun _ _ _ _ _ => (sg_name 1 sc_names_of.nd)) (tg1_ok 1) (by decide) (fun _ _ _ _ _ => sts_nil) (fun _ _ _ _ _ => (se_ix ixd (sb_se (se_var 1)) (sb_se se_int))) (by decide)))))
abbrev s_read_number : Stmt := topS 6
abbrev n_read_number : List Str := ["text", "figures", "sign"]
theorem sc_read_number : FnScope n_read_number ["text"] (defScope s_read_number) := ⟨rfl, rfl, rfl, by decide +kernel, rfl, by decide +kernel, by decide +kernel⟩
theorem c_read_number {ca : Nat → Nat} (F : Dfn K mg "read_number" s_read_number ["text"]) (z_int : mg "int" = none) {t_FIGURES : Tok} (k_FIGURES : mg "FIGURES" = some (.str "0123456789" t_FIGURES)) (xc_NoWords : XC0 K mg "NoWords" (ca 14)) : CalXN P w K mg base 1 "read_number" false (m_read_number ca) :=
 calXN_of (k := 0) (Γ0 := [false, false, false]) (Γ' := [false, false, false]) (ΓL := []) F sc_read_number fun q cdv A outer s H E W hr tk po =>
 (sss_cons (ss_set 1 (se_var 0) sc_read_number.nd)
 (sss_cons (ss_if (st_val (se_st PySem.F.slot_str_startswith PySem.F.type_str_startswith std_startswith (se_var 0) (sb_se se_str)))
 (sss_one (ss_set 1 (se_cut cutd (sb_se (se_var 0)) (so_some se_int) so_none) sc_read_number.nd))
 sss_nil)
 (sss_cons (ss_for po rfl (si_str (se_var 1)) (sg_name 2 sc_read_number.nd)
 (sss_one (ss_if (st_cmp (opd_notIn (room65 hr)) (sb_se (se_var 2)) (sb_se (se_globS k_FIGURES)))
 (sss_one (ss_raise0N 14 rfl tk xc_NoWords))
 sss_nil)))
 (sss_cons (ss_if (SW.st (sw_or (st_cmp (opd_eq hr.units) (sb_se (se_var 1)) (sb_se se_str)) (sw_or1 (SW.st (sw_and (st_val (se_st PySem.F.slot_str_startswith PySem.F.type_str_startswith std_startswith (se_var 1) (sb_se se_str))) (sw_and1 (st_cmp (opd_ne hr.units) (sb_se (se_var 0)) (sb_se se_str))))))))
 (sss_one (ss_raise0N 14 rfl tk xc_NoWords))
 sss_nil)
 (sss_one (ss_ret (se_callTy calld_intT z_int bv_int (sab_cons (sb_se (se_var 0)) sab_nil))))))))
abbrev s_sure : Stmt := topS 12
abbrev n_sure : List Str := ["good"]
theorem sc_sure : FnScope n_sure ["good"] (defScope s_sure) := ⟨rfl, rfl, rfl, by decide +kernel, rfl, by decide +kernel, by decide +kernel⟩
theorem c_sure {ca : Nat → Nat} (F : Dfn K mg "sure" s_sure ["good"]) (xc_NoWords : XC0 K mg "NoWords" (ca 14)) : CalXN P w K mg base 1 "sure" false (m_sure ca) :=
 calXN_of (k := 0) (Γ0 := [false]) (Γ' := [false]) (ΓL := []) F sc_sure fun q cdv A outer s H E W hr tk po =>
 (sss_one (ss_if (st_not (st_val (se_var 0)))
 (sss_one (ss_raise0N 14 rfl tk xc_NoWords))
 sss_nil))
abbrev s_number_from : Stmt := topS 13
abbrev n_number_from : List Str := ["words", "at", "least", "most", "number"]
theorem sc_number_from : FnScope n_number_from ["words", "at", "least", "most"] (defScope s_number_from) := ⟨rfl, rfl, rfl, by decide +kernel, rfl, by decide +kernel, by decide +kernel⟩
theorem c_number_from {ca : Nat → Nat} (F : Dfn K mg "number_from" s_number_from ["words", "at", "least", "most"]) (C_read_number : CalXN P w K mg base 1 "read_number" false (m_read_number ca)) (C_sure : CalXN P w K mg base 1 "sure" false (m_sure ca)) (z_len : mg "len" = none) : CalXN P w K mg base 2 "number_from" false (m_number_from ca) :=
 calXN_of (k := 1) (Γ0 := [false, false, false, false, false]) (Γ' := [false, false, false, false, false]) (ΓL := []) F sc_number_from fun q cdv A outer s H E W hr tk po =>
 (sss_cons (ss_exp (se_cXN C_sure hr tk (sa_cons (se_cmp opd_lt (sb_se (se_var 1)) (sb_se (se_callB calld_len z_len bv_len (sab_cons (sb_se (se_var 0)) sab_nil)))) sa_nil)))
 (sss_cons (ss_set 4 (se_cXN C_read_number hr tk (sa_cons (se_ix ixd (sb_se (se_var 0)) (sb_se (se_var 1))) sa_nil)) sc_number_from.nd)
 (sss_cons (ss_exp (se_cXN C_sure hr tk (sa_cons (se_chain opd_le opd_le (sb_se (se_var 2)) (sb_se (se_var 4)) (sb_se (se_var 3))) sa_nil)))
 (sss_one (ss_ret (se_var 4))))))
abbrev s_Draft_box : Stmt := inClass (topS 19) 2
abbrev n_Draft_box : List Str := ["self", "words", "size"]
theorem sc_Draft_box : FnScope n_Draft_box ["self", "words"] (defScope s_Draft_box) := ⟨rfl, rfl, rfl, by decide +kernel, rfl, by decide +kernel, by decide +kernel⟩
theorem c_Draft_box {ca : Nat → Nat} (F : MDfn K (ca 3) "box" "Draft.box" s_Draft_box ["self", "words"]) (C_is_word : Cal P w K mg base 1 "is_word" false m_is_word) (C_names_of : Cal P w K mg base 1 "names_of" false m_names_of) (C_number_from : CalXN P w K mg base 2 "number_from" false (m_number_from ca)) (C_sure : CalXN P w K mg base 1 "sure" false (m_sure ca)) (z_len : mg "len" = none) {t_FAR : Tok} (k_FAR : mg "FAR" = some (.int 1000000000000000000000000000000 t_FAR)) (cl_Draft : Cls K (ca 3)) (na_Draft_boxes : NoAttr K (ca 3) "boxes") (na_Draft_events : NoAttr K (ca 3) "events") (na_Draft_rooms : NoAttr K (ca 3) "rooms") : McalX P w K mg base 3 (ca 3) "box" false (m_Draft_box ca) :=
 mcalX_of (k := 2) (Γ0 := [false, false, false]) (Γ' := [false, false, false]) (ΓL := []) F sc_Draft_box fun q cdv A outer s H E W hr tk po =>
 (sss_cons (ss_exp (se_cXN C_sure hr tk (sa_cons (se_and (se_cmp (opd_eq hr.units) (sb_se (se_callBO calld_len z_len bv_len (sab_cons (sb_se (se_fld cl_Draft na_Draft_events (se_var 0))) sab_nil))) (sb_se se_int)) (se_and (se_cmp (opd_eq hr.units) (sb_se (se_callBO calld_len z_len bv_len (sab_cons (sb_se (se_fld cl_Draft na_Draft_rooms (se_var 0))) sab_nil))) (sb_se se_int)) (se_one (se_cmp opd_lt (sb_se (se_callBO calld_len z_len bv_len (sab_cons (sb_se (se_fld cl_Draft na_Draft_boxes (se_var 0))) sab_nil))) (sb_se se_int))))) sa_nil)))
 (sss_cons (ss_exp (se_cXN C_sure hr tk (sa_cons (se_and (se_cmp (opd_eq hr.units) (sb_se (se_callB calld_len z_len bv_len (sab_cons (sb_se (se_var 1)) sab_nil))) (sb_se se_int)) (se_and (se_c C_is_word hr (sa_cons (se_ix ixd (sb_se (se_var 1)) (sb_se se_int)) sa_nil)) (se_one (se_cmp (opd_notIn (room65 hr)) (sb_se (se_ix ixd (sb_se (se_var 1)) (sb_se se_int))) (sb_se (se_c C_names_of hr (sa_cons (se_fld cl_Draft na_Draft_boxes (se_var 0)) sa_nil))))))) sa_nil)))
 (sss_cons (ss_set 2 (se_cXN C_number_from hr tk (sa_cons (se_var 1) (sa_cons se_int (sa_cons se_int (sa_cons (se_globI k_FAR) sa_nil))))) sc_Draft_box.nd)
 (sss_one (ss_exp (se_methO PySem.F.slot_list_append PySem.F.type_list_append methd_append (se_fld cl_Draft na_Draft_boxes (se_var 0)) (sa_cons (se_tup (sa_cons (se_ix ixd (sb_se (se_var 1)) (sb_se se_int)) (sa_cons (se_var 2) (sa_cons (se_cXN C_number_from hr tk (sa_cons (se_var 1) (sa_cons se_int (sa_cons se_int (sa_cons (se_bin opd_sub (sb_se (se_var 2)) (sb_se se_int)) sa_nil))))) sa_nil)))) sa_nil)))))))
abbrev s_Draft_whole : Stmt := inClass (topS 19) 7
abbrev n_Draft_whole : List Str := ["self"]
theorem sc_Draft_whole : FnScope n_Draft_whole ["self"] (defScope s_Draft_whole) := ⟨rfl, rfl, rfl, by decide +kernel, rfl, by decide +kernel, by decide +kernel⟩
theorem c_Draft_whole {ca : Nat → Nat} (F : MDfn K (ca 3) "whole" "Draft.whole" s_Draft_whole ["self"]) (z_len : mg "len" = none) (cl_Draft : Cls K (ca 3)) (na_Draft_rooms : NoAttr K (ca 3) "rooms") : McalI P w K mg base 1 (ca 3) "whole" false (m_Draft_whole ca) :=
 mcal_of (k := 0) (Γ0 := [false]) (Γ' := [false]) (ΓL := []) F sc_Draft_whole fun q cdv A outer s H E hr =>
 (sss_one (ss_ret (se_and (se_cmp opd_gt (sb_se (se_callBO calld_len z_len bv_len (sab_cons (sb_se (se_fld cl_Draft na_Draft_rooms (se_var 0))) sab_nil))) (sb_se se_int)) (se_one (se_cmp (opd_eq hr.units) (sb_se (se_ix ixd (sb_se (se_ixO ixd (sb_se (se_fld cl_Draft na_Draft_rooms (se_var 0))) (sb_se (se_neg se_int)))) (sb_se se_int))) (sb_se se_str))))))
abbrev s_place_from : Stmt := topS 14
abbrev n_place_from : List Str := ["words", "at", "names"]
theorem sc_place_from : FnScope n_place_from ["words", "at", "names"] (defScope s_place_from) := ⟨rfl, rfl, rfl, by decide +kernel, rfl, by decide +kernel, by decide +kernel⟩
theorem c_place_from {ca : Nat → Nat} (F : Dfn K mg "place_from" s_place_from ["words", "at", "names"]) (C_sure : CalXN P w K mg base 1 "sure" false (m_sure ca)) (z_len : mg "len" = none) : CalXN P w K mg base 2 "place_from" false (m_place_from ca) :=
 calXN_of (k := 1) (Γ0 := [false, false, false]) (Γ' := [false, false, false]) (ΓL := []) F sc_place_from fun q cdv A outer s H E W hr tk po =>
 (sss_cons (ss_exp (se_cXN C_sure hr tk (sa_cons (se_and (se_cmp opd_lt (sb_se (se_var 1)) (sb_se (se_callB calld_len z_len bv_len (sab_cons (sb_se (se_var 0)) sab_nil)))) (se_one (se_cmpO (opd_in (room65 hr)) (sb_se (se_ix ixd (sb_se (se_var 0)) (sb_se (se_var 1)))) (sb_se (se_var 2))))) sa_nil)))
 (sss_one (ss_ret (se_indexO (sb_se (se_var 2)) (sb_se (se_ix ixd (sb_se (se_var 0)) (sb_se (se_var 1))))))))
abbrev s_Draft_door : Stmt := inClass (topS 19) 8
abbrev n_Draft_door : List Str := ["self", "words", "names", "room", "event", "goal"]
theorem sc_Draft_door : FnScope n_Draft_door ["self", "words"] (defScope s_Draft_door) := ⟨rfl, rfl, rfl, by decide +kernel, rfl, by decide +kernel, by decide +kernel⟩
theorem c_Draft_door {ca : Nat → Nat} (F : MDfn K (ca 3) "door" "Draft.door" s_Draft_door ["self", "words"]) (C_names_of : Cal P w K mg base 1 "names_of" false m_names_of) (C_place_from : CalXN P w K mg base 2 "place_from" false (m_place_from ca)) (C_sure : CalXN P w K mg base 1 "sure" false (m_sure ca)) (z_len : mg "len" = none) (M_Draft_whole : McalI P w K mg base 1 (ca 3) "whole" false (m_Draft_whole ca)) (cl_Draft : Cls K (ca 3)) (na_Draft_doors : NoAttr K (ca 3) "doors") (na_Draft_events : NoAttr K (ca 3) "events") (na_Draft_rooms : NoAttr K (ca 3) "rooms") : McalX P w K mg base 3 (ca 3) "door" false (m_Draft_door ca) :=
 mcalX_of (k := 2) (Γ0 := [false, false, false, false, false, false]) (Γ' := [false, false, false, false, false, false]) (ΓL := []) F sc_Draft_door fun q cdv A outer s H E W hr tk po =>
 (sss_cons (ss_exp (se_cXN C_sure hr tk (sa_cons (se_and (se_m0 M_Draft_whole hr (se_var 0) ) (se_and (se_cmp opd_lt (sb_se (se_callBO calld_len z_len bv_len (sab_cons (sb_se (se_fld cl_Draft na_Draft_doors (se_var 0))) sab_nil))) (sb_se se_int)) (se_one (se_chain opd_le opd_le (sb_se se_int) (sb_se (se_callB calld_len z_len bv_len (sab_cons (sb_se (se_var 1)) sab_nil))) (sb_se se_int))))) sa_nil)))
 (sss_cons (ss_set 2 (se_c C_names_of hr (sa_cons (se_fld cl_Draft na_Draft_rooms (se_var 0)) sa_nil)) sc_Draft_door.nd)
 (sss_cons (ss_set 3 (se_cXN C_place_from hr tk (sa_cons (se_var 1) (sa_cons se_int (sa_cons (se_var 2) sa_nil)))) sc_Draft_door.nd)
 (sss_cons (ss_set 4 (se_cXN C_place_from hr tk (sa_cons (se_var 1) (sa_cons se_int (sa_cons (se_fld cl_Draft na_Draft_events (se_var 0)) sa_nil)))) sc_Draft_door.nd)
 (sss_cons (ss_set 5 se_non sc_Draft_door.nd)
 (sss_cons (ss_if (st_cmp (opd_eq hr.units) (sb_se (se_ix ixd (sb_se (se_var 1)) (sb_se se_int))) (sb_se se_str))
 (sss_one (ss_exp (se_cXN C_sure hr tk (sa_cons (se_cmp (opd_eq hr.units) (sb_se (se_callB calld_len z_len bv_len (sab_cons (sb_se (se_var 1)) sab_nil))) (sb_se se_int)) sa_nil))))
 (sss_cons (ss_set 5 (se_cXN C_place_from hr tk (sa_cons (se_var 1) (sa_cons se_int (sa_cons (se_var 2) sa_nil)))) sc_Draft_door.nd)
 (sss_one (ss_exp (se_cXN C_sure hr tk (sa_cons (se_or (se_cmp (opd_eq hr.units) (sb_se (se_ix ixd (sb_se (se_var 1)) (sb_se se_int))) (sb_se se_str)) (se_one (se_and (se_cmp (opd_eq hr.units) (sb_se (se_ix ixd (sb_se (se_var 1)) (sb_se se_int))) (sb_se se_str)) (se_one (se_cmp (opd_ne hr.units) (sb_se (se_ix ixd (sb_se (se_ixO ixd (sb_se (se_fld cl_Draft na_Draft_rooms (se_var 0))) (sb_se (se_var 5)))) (sb_se se_int))) (sb_se se_str)))))) sa_nil))))))
 (sss_one (ss_exp (se_methO PySem.F.slot_list_append PySem.F.type_list_append methd_append (se_fld cl_Draft na_Draft_doors (se_var 0)) (sa_cons (se_tup (sa_cons (se_var 3) (sa_cons (se_var 4) (sa_cons (se_tup (sa_cons se_str sa_nil)) (sa_cons (se_tup sa_nil) (sa_cons (se_ix ixd (sb_se (se_var 1)) (sb_se se_int)) (sa_cons (se_var 5) sa_nil))))))) sa_nil))))))))))
abbrev s_read_deed : Stmt := topS 18
abbrev n_read_deed : List Str := ["text", "boxes", "events", "words", "word", "box"]
theorem sc_read_deed : FnScope n_read_deed ["text", "boxes", "events"] (defScope s_read_deed) := ⟨rfl, rfl, rfl, by decide +kernel, rfl, by decide +kernel, by decide +kernel⟩
theorem c_read_deed {ca : Nat → Nat} (F : Dfn K mg "read_deed" s_read_deed ["text", "boxes", "events"]) (C_is_word : Cal P w K mg base 1 "is_word" false m_is_word) (C_names_of : Cal P w K mg base 1 "names_of" false m_names_of) (C_number_from : CalXN P w K mg base 2 "number_from" false (m_number_from ca)) (C_place_from : CalXN P w K mg base 2 "place_from" false (m_place_from ca)) (C_sure : CalXN P w K mg base 1 "sure" false (m_sure ca)) (z_len : mg "len" = none) (z_list : mg "list" = none) {t_FAR : Tok} (k_FAR : mg "FAR" = some (.int 1000000000000000000000000000000 t_FAR)) : CalXN P w K mg base 3 "read_deed" false (m_read_deed ca) :=
 calXN_of (k := 2) (Γ0 := [false, false, false, false, false, false]) (Γ' := [false, false, false, false, false, false]) (ΓL := []) F sc_read_deed fun q cdv A outer s H E W hr tk po =>
 (sss_cons (ss_set 3 (se_sf (sf_split (se_var 0) (sb_se se_str))) sc_read_deed.nd)
 (sss_cons (ss_set 4 (se_ix ixd (sb_se (se_var 3)) (sb_se se_int)) sc_read_deed.nd)
 (sss_cons (ss_if (st_cmp (opd_eq hr.units) (sb_se (se_var 4)) (sb_se se_str))
 (sss_cons (ss_exp (se_cXN C_sure hr tk (sa_cons (se_and (se_cmp (opd_eq hr.units) (sb_se (se_callB calld_len z_len bv_len (sab_cons (sb_se (se_var 3)) sab_nil))) (sb_se se_int)) (se_one (se_c C_is_word hr (sa_cons (se_ix ixd (sb_se (se_var 3)) (sb_se se_int)) sa_nil)))) sa_nil)))
 (sss_one (ss_ret (se_tup (sa_cons (se_var 4) (sa_cons (se_ix ixd (sb_se (se_var 3)) (sb_se se_int)) sa_nil))))))
 sss_nil)
 (sss_cons (ss_if (st_cmp (opd_eq hr.units) (sb_se (se_var 4)) (sb_se se_str))
 (sss_cons (ss_exp (se_cXN C_sure hr tk (sa_cons (se_cmp (opd_eq hr.units) (sb_se (se_callB calld_len z_len bv_len (sab_cons (sb_se (se_var 3)) sab_nil))) (sb_se se_int)) sa_nil)))
 (sss_one (ss_ret (se_tup (sa_cons (se_var 4) (sa_cons (se_cXN C_place_from hr tk (sa_cons (se_var 3) (sa_cons se_int (sa_cons (se_sf (sf_callTyO callf_list z_list bv_list (sab_cons (sb_se (se_var 2)) sab_nil))) sa_nil)))) sa_nil))))))
 sss_nil)
 (sss_cons (ss_exp (se_cXN C_sure hr tk (sa_cons (se_and (se_or (se_cmp (opd_eq hr.units) (sb_se (se_var 4)) (sb_se se_str)) (se_one (se_cmp (opd_eq hr.units) (sb_se (se_var 4)) (sb_se se_str)))) (se_one (se_cmp (opd_eq hr.units) (sb_se (se_callB calld_len z_len bv_len (sab_cons (sb_se (se_var 3)) sab_nil))) (sb_se se_int)))) sa_nil)))
 (sss_cons (ss_set 5 (se_cXN C_place_from hr tk (sa_cons (se_var 3) (sa_cons se_int (sa_cons (se_c C_names_of hr (sa_cons (se_var 1) sa_nil)) sa_nil)))) sc_read_deed.nd)
 (sss_cons (ss_if (st_cmp (opd_eq hr.units) (sb_se (se_var 4)) (sb_se se_str))
 (sss_one (ss_ret (se_tup (sa_cons (se_var 4) (sa_cons (se_var 5) (sa_cons (se_cXN C_number_from hr tk (sa_cons (se_var 3) (sa_cons se_int (sa_cons se_int (sa_cons (se_bin opd_sub (sb_se (se_ix ixd (sb_se (se_ixO ixd (sb_se (se_var 1)) (sb_se (se_var 5)))) (sb_se se_int))) (sb_se se_int)) sa_nil))))) sa_nil))))))
 sss_nil)
 (sss_one (ss_ret (se_tup (sa_cons (se_var 4) (sa_cons (se_var 5) (sa_cons (se_cXN C_number_from hr tk (sa_cons (se_var 3) (sa_cons se_int (sa_cons (se_neg (se_globI k_FAR)) (sa_cons (se_globI k_FAR) sa_nil))))) sa_nil)))))))))))))
abbrev s_Draft_going : Stmt := inClass (topS 19) 6
abbrev n_Draft_going : List Str := ["self", "word", "text", "room", "ins", "outs", "deed"]
theorem sc_Draft_going : FnScope n_Draft_going ["self", "word", "text"] (defScope s_Draft_going) := ⟨rfl, rfl, rfl, by decide +kernel, rfl, by decide +kernel, by decide +kernel⟩
theorem c_Draft_going {ca : Nat → Nat} (F : MDfn K (ca 3) "going" "Draft.going" s_Draft_going ["self", "word", "text"]) (C_read_deed : CalXN P w K mg base 3 "read_deed" false (m_read_deed ca)) (C_sure : CalXN P w K mg base 1 "sure" false (m_sure ca)) (z_len : mg "len" = none) (cl_Draft : Cls K (ca 3)) (na_Draft_boxes : NoAttr K (ca 3) "boxes") (na_Draft_events : NoAttr K (ca 3) "events") (na_Draft_last : NoAttr K (ca 3) "last") (na_Draft_rooms : NoAttr K (ca 3) "rooms") : McalX P w K mg base 4 (ca 3) "going" false (m_Draft_going ca) :=
 mcalX_of (k := 3) (Γ0 := [false, false, false, false, false, false, false]) (Γ' := [false, false, false, false, false, false, false]) (ΓL := []) F sc_Draft_going fun q cdv A outer s H E W hr tk po =>
 (sss_cons (ss_exp (se_cXN C_sure hr tk (sa_cons (se_or (se_cmp (opd_eq hr.units) (sb_se (se_fld cl_Draft na_Draft_last (se_var 0))) (sb_se se_str)) (se_or (se_cmp (opd_eq hr.units) (sb_se (se_fld cl_Draft na_Draft_last (se_var 0))) (sb_se se_str)) (se_one (se_and (se_cmp (opd_eq hr.units) (sb_se (se_fld cl_Draft na_Draft_last (se_var 0))) (sb_se se_str)) (se_one (se_cmp (opd_eq hr.units) (sb_se (se_var 1)) (sb_se se_str))))))) sa_nil)))
 (sss_cons (ss_set 3 (se_methO0 PySem.F.slot_list_pop PySem.F.type_list_pop methd_pop0 (se_fld cl_Draft na_Draft_rooms (se_var 0))) sc_Draft_going.nd)
 (sss_cons (ss_set 4 (se_ix ixd (sb_se (se_var 3)) (sb_se se_int)) sc_Draft_going.nd)
 (sss_cons (ss_set 5 (se_ix ixd (sb_se (se_var 3)) (sb_se se_int)) sc_Draft_going.nd)
 (sss_cons (ss_set 6 (se_tup (sa_cons (se_cXN C_read_deed hr tk (sa_cons (se_var 2) (sa_cons (se_fld cl_Draft na_Draft_boxes (se_var 0)) (sa_cons (se_fld cl_Draft na_Draft_events (se_var 0)) sa_nil)))) sa_nil)) sc_Draft_going.nd)
 (sss_cons (ss_if (st_cmp (opd_eq hr.units) (sb_se (se_var 1)) (sb_se se_str))
 (sss_one (ss_set 4 (se_bin opd_add (sb_se (se_var 4)) (sb_se (se_var 6))) sc_Draft_going.nd))
 (sss_one (ss_set 5 (se_bin opd_add (sb_se (se_var 5)) (sb_se (se_var 6))) sc_Draft_going.nd)))
 (sss_cons (ss_exp (se_cXN C_sure hr tk (sa_cons (se_and (se_cmp opd_le (sb_se (se_callB calld_len z_len bv_len (sab_cons (sb_se (se_var 4)) sab_nil))) (sb_se se_int)) (se_one (se_cmp opd_le (sb_se (se_callB calld_len z_len bv_len (sab_cons (sb_se (se_var 5)) sab_nil))) (sb_se se_int)))) sa_nil)))
 (sss_one (ss_exp (se_methO PySem.F.slot_list_append PySem.F.type_list_append methd_append (se_fld cl_Draft na_Draft_rooms (se_var 0)) (sa_cons (se_bin opd_add (sb_se (se_cut cutd (sb_se (se_var 3)) so_none (so_some se_int))) (sb_se (se_tup (sa_cons (se_var 4) (sa_cons (se_var 5) sa_nil))))) sa_nil)))))))))))
abbrev s_Draft_happening : Stmt := inClass (topS 19) 3
abbrev n_Draft_happening : List Str := ["self", "words"]
theorem sc_Draft_happening : FnScope n_Draft_happening ["self", "words"] (defScope s_Draft_happening) := ⟨rfl, rfl, rfl, by decide +kernel, rfl, by decide +kernel, by decide +kernel⟩
theorem c_Draft_happening {ca : Nat → Nat} (F : MDfn K (ca 3) "happening" "Draft.happening" s_Draft_happening ["self", "words"]) (C_is_word : Cal P w K mg base 1 "is_word" false m_is_word) (C_sure : CalXN P w K mg base 1 "sure" false (m_sure ca)) (z_len : mg "len" = none) (cl_Draft : Cls K (ca 3)) (na_Draft_events : NoAttr K (ca 3) "events") (na_Draft_rooms : NoAttr K (ca 3) "rooms") : McalX P w K mg base 2 (ca 3) "happening" false (m_Draft_happening ca) :=
 mcalX_of (k := 1) (Γ0 := [false, false]) (Γ' := [false, false]) (ΓL := []) F sc_Draft_happening fun q cdv A outer s H E W hr tk po =>
 (sss_cons (ss_exp (se_cXN C_sure hr tk (sa_cons (se_and (se_cmp (opd_eq hr.units) (sb_se (se_callBO calld_len z_len bv_len (sab_cons (sb_se (se_fld cl_Draft na_Draft_rooms (se_var 0))) sab_nil))) (sb_se se_int)) (se_one (se_cmp opd_lt (sb_se (se_callBO calld_len z_len bv_len (sab_cons (sb_se (se_fld cl_Draft na_Draft_events (se_var 0))) sab_nil))) (sb_se se_int)))) sa_nil)))
 (sss_cons (ss_exp (se_cXN C_sure hr tk (sa_cons (se_and (se_cmp (opd_eq hr.units) (sb_se (se_callB calld_len z_len bv_len (sab_cons (sb_se (se_var 1)) sab_nil))) (sb_se se_int)) (se_and (se_c C_is_word hr (sa_cons (se_ix ixd (sb_se (se_var 1)) (sb_se se_int)) sa_nil)) (se_one (se_cmpO (opd_notIn (room65 hr)) (sb_se (se_ix ixd (sb_se (se_var 1)) (sb_se se_int))) (sb_se (se_fld cl_Draft na_Draft_events (se_var 0))))))) sa_nil)))
 (sss_one (ss_exp (se_methO PySem.F.slot_list_append PySem.F.type_list_append methd_append (se_fld cl_Draft na_Draft_events (se_var 0)) (sa_cons (se_ix ixd (sb_se (se_var 1)) (sb_se se_int)) sa_nil))))))
abbrev s_Draft_head : Stmt := inClass (topS 19) 1
abbrev n_Draft_head : List Str := ["self", "words"]
theorem sc_Draft_head : FnScope n_Draft_head ["self", "words"] (defScope s_Draft_head) := ⟨rfl, rfl, rfl, by decide +kernel, rfl, by decide +kernel, by decide +kernel⟩
theorem c_Draft_head {ca : Nat → Nat} (F : MDfn K (ca 3) "head" "Draft.head" s_Draft_head ["self", "words"]) (C_number_from : CalXN P w K mg base 2 "number_from" false (m_number_from ca)) (C_sure : CalXN P w K mg base 1 "sure" false (m_sure ca)) (z_len : mg "len" = none) (cl_Draft : Cls K (ca 3)) (na_Draft_heads : NoAttr K (ca 3) "heads") : McalX P w K mg base 3 (ca 3) "head" false (m_Draft_head ca) :=
 mcalX_of (k := 2) (Γ0 := [false, false]) (Γ' := [false, false]) (ΓL := []) F sc_Draft_head fun q cdv A outer s H E W hr tk po =>
 (sss_cons (ss_exp (se_cXN C_sure hr tk (sa_cons (se_and (se_cmp (opd_eq hr.units) (sb_se (se_callB calld_len z_len bv_len (sab_cons (sb_se (se_var 1)) sab_nil))) (sb_se se_int)) (se_one (se_cmp (opd_eq hr.units) (sb_se (se_ix ixd (sb_se (se_var 1)) (sb_se se_int))) (sb_se (se_ix ixd (sb_sf (sf_lst (sa_cons se_str (sa_cons se_str (sa_cons se_str sa_nil))))) (sb_se (se_callBO calld_len z_len bv_len (sab_cons (sb_se (se_fld cl_Draft na_Draft_heads (se_var 0))) sab_nil)))))))) sa_nil)))
 (sss_one (ss_if (st_cmp (opd_eq hr.units) (sb_se (se_ix ixd (sb_se (se_var 1)) (sb_se se_int))) (sb_se se_str))
 (sss_cons (ss_exp (se_cXN C_sure hr tk (sa_cons (se_or (se_cmp (opd_eq hr.units) (sb_se (se_ix ixd (sb_se (se_var 1)) (sb_se se_int))) (sb_se se_str)) (se_one (se_cmp (opd_eq hr.units) (sb_se (se_ix ixd (sb_se (se_var 1)) (sb_se se_int))) (sb_se se_str)))) sa_nil)))
 (sss_one (ss_exp (se_methO PySem.F.slot_list_append PySem.F.type_list_append methd_append (se_fld cl_Draft na_Draft_heads (se_var 0)) (sa_cons (se_ix ixd (sb_se (se_var 1)) (sb_se se_int)) sa_nil)))))
 (sss_one (ss_if (st_cmp (opd_eq hr.units) (sb_se (se_ix ixd (sb_se (se_var 1)) (sb_se se_int))) (sb_se se_str))
 (sss_one (ss_exp (se_methO PySem.F.slot_list_append PySem.F.type_list_append methd_append (se_fld cl_Draft na_Draft_heads (se_var 0)) (sa_cons (se_cXN C_number_from hr tk (sa_cons (se_var 1) (sa_cons se_int (sa_cons se_int (sa_cons se_int sa_nil))))) sa_nil))))
 (sss_one (ss_exp (se_methO PySem.F.slot_list_append PySem.F.type_list_append methd_append (se_fld cl_Draft na_Draft_heads (se_var 0)) (sa_cons (se_cXN C_number_from hr tk (sa_cons (se_var 1) (sa_cons se_int (sa_cons se_int (sa_cons se_int sa_nil))))) sa_nil)))))))))
abbrev s_guard_from : Stmt := topS 16
abbrev n_guard_from : List Str := ["words", "at", "high", "boxes", "rooms", "word", "box", "one", "other"]
theorem sc_guard_from : FnScope n_guard_from ["words", "at", "high", "boxes", "rooms"] (defScope s_guard_from) := ⟨rfl, rfl, rfl, by decide +kernel, rfl, by decide +kernel, by decide +kernel⟩
theorem cr_guard_from {ca : Nat → Nat} (F : Dfn K mg "guard_from" s_guard_from ["words", "at", "high", "boxes", "rooms"]) (C_number_from : CalXN P w K mg base 2 "number_from" false (m_number_from ca)) (C_place_from : CalXN P w K mg base 2 "place_from" false (m_place_from ca)) (C_sure : CalXN P w K mg base 1 "sure" false (m_sure ca)) (z_len : mg "len" = none) {t_FAR : Tok} (k_FAR : mg "FAR" = some (.int 1000000000000000000000000000000 t_FAR)) : ∀ n : Nat, CalXN P w K mg base (2 + n) "guard_from" false (r_guard_from ca n)
 | 0 => calXN_zero F
 | n + 1 => have C_rec := cr_guard_from F C_number_from C_place_from C_sure z_len k_FAR n
  calXN_of (k := 2 + n) (Γ0 := [false, false, false, false, false, false, false, false, false]) (Γ' := [false, false, false, false, false, false, false, false, false]) (ΓL := []) F sc_guard_from fun q cdv A outer s H E W hr tk po =>
 (sss_cons (ss_exp (se_cXN C_sure hr tk (sa_cons (se_and (se_cmp opd_gt (sb_se (se_var 2)) (sb_se se_int)) (se_one (se_cmp opd_lt (sb_se (se_var 1)) (sb_se (se_callB calld_len z_len bv_len (sab_cons (sb_se (se_var 0)) sab_nil)))))) sa_nil)))
 (sss_cons (ss_set 5 (se_ix ixd (sb_se (se_var 0)) (sb_se (se_var 1))) sc_guard_from.nd)
 (sss_cons (ss_if (st_cmp (opd_eq hr.units) (sb_se (se_var 5)) (sb_se se_str))
 (sss_one (ss_ret (se_tup (sa_cons (se_tup (sa_cons (se_var 5) sa_nil)) (sa_cons (se_bin opd_add (sb_se (se_var 1)) (sb_se se_int)) sa_nil)))))
 sss_nil)
 (sss_cons (ss_if (st_cmp (opd_eq hr.units) (sb_se (se_var 5)) (sb_se se_str))
 (sss_one (ss_ret (se_tup (sa_cons (se_tup (sa_cons (se_var 5) (sa_cons (se_cXN C_place_from hr tk (sa_cons (se_var 0) (sa_cons (se_bin opd_add (sb_se (se_var 1)) (sb_se se_int)) (sa_cons (se_var 4) sa_nil)))) sa_nil))) (sa_cons (se_bin opd_add (sb_se (se_var 1)) (sb_se se_int)) sa_nil)))))
 sss_nil)
 (sss_cons (ss_if (SW.st (sw_or (st_cmp (opd_eq hr.units) (sb_se (se_var 5)) (sb_se se_str)) (sw_or1 (st_cmp (opd_eq hr.units) (sb_se (se_var 5)) (sb_se se_str)))))
 (sss_cons (ss_set 6 (se_cXN C_place_from hr tk (sa_cons (se_var 0) (sa_cons (se_bin opd_add (sb_se (se_var 1)) (sb_se se_int)) (sa_cons (se_var 3) sa_nil)))) sc_guard_from.nd)
 (sss_one (ss_ret (se_tup (sa_cons (se_tup (sa_cons (se_var 5) (sa_cons (se_var 6) (sa_cons (se_cXN C_number_from hr tk (sa_cons (se_var 0) (sa_cons (se_bin opd_add (sb_se (se_var 1)) (sb_se se_int)) (sa_cons (se_neg (se_globI k_FAR)) (sa_cons (se_globI k_FAR) sa_nil))))) sa_nil)))) (sa_cons (se_bin opd_add (sb_se (se_var 1)) (sb_se se_int)) sa_nil))))))
 sss_nil)
 (sss_cons (ss_exp (se_cXN C_sure hr tk (sa_cons (se_or (se_cmp (opd_eq hr.units) (sb_se (se_var 5)) (sb_se se_str)) (se_or (se_cmp (opd_eq hr.units) (sb_se (se_var 5)) (sb_se se_str)) (se_one (se_cmp (opd_eq hr.units) (sb_se (se_var 5)) (sb_se se_str))))) sa_nil)))
 (sss_cons (ss_set 7 (se_cXN C_rec hr tk (sa_cons (se_var 0) (sa_cons (se_bin opd_add (sb_se (se_var 1)) (sb_se se_int)) (sa_cons (se_bin opd_sub (sb_se (se_var 2)) (sb_se se_int)) (sa_cons (se_var 3) (sa_cons (se_var 4) sa_nil)))))) sc_guard_from.nd)
 (sss_cons (ss_if (st_cmp (opd_eq hr.units) (sb_se (se_var 5)) (sb_se se_str))
 (sss_one (ss_ret (se_tup (sa_cons (se_tup (sa_cons (se_var 5) (sa_cons (se_ix ixd (sb_se (se_var 7)) (sb_se se_int)) sa_nil))) (sa_cons (se_ix ixd (sb_se (se_var 7)) (sb_se se_int)) sa_nil)))))
 sss_nil)
 (sss_cons (ss_set 8 (se_cXN C_rec hr tk (sa_cons (se_var 0) (sa_cons (se_ix ixd (sb_se (se_var 7)) (sb_se se_int)) (sa_cons (se_bin opd_sub (sb_se (se_var 2)) (sb_se se_int)) (sa_cons (se_var 3) (sa_cons (se_var 4) sa_nil)))))) sc_guard_from.nd)
 (sss_one (ss_ret (se_tup (sa_cons (se_tup (sa_cons (se_var 5) (sa_cons (se_ix ixd (sb_se (se_var 7)) (sb_se se_int)) (sa_cons (se_ix ixd (sb_se (se_var 8)) (sb_se se_int)) sa_nil)))) (sa_cons (se_ix ixd (sb_se (se_var 8)) (sb_se se_int)) sa_nil))))))))))))))
theorem c_guard_from {ca : Nat → Nat} (F : Dfn K mg "guard_from" s_guard_from ["words", "at", "high", "boxes", "rooms"]) (C_number_from : CalXN P w K mg base 2 "number_from" false (m_number_from ca)) (C_place_from : CalXN P w K mg base 2 "place_from" false (m_place_from ca)) (C_sure : CalXN P w K mg base 1 "sure" false (m_sure ca)) (z_len : mg "len" = none) {t_FAR : Tok} (k_FAR : mg "FAR" = some (.int 1000000000000000000000000000000 t_FAR)) : CalXN P w K mg base 52 "guard_from" false (m_guard_from ca) := cr_guard_from F C_number_from C_place_from C_sure z_len k_FAR 50
abbrev s_read_guard : Stmt := topS 17
abbrev n_read_guard : List Str := ["text", "boxes", "rooms", "words", "found"]
theorem sc_read_guard : FnScope n_read_guard ["text", "boxes", "rooms"] (defScope s_read_guard) := ⟨rfl, rfl, rfl, by decide +kernel, rfl, by decide +kernel, by decide +kernel⟩
theorem c_read_guard {ca : Nat → Nat} (F : Dfn K mg "read_guard" s_read_guard ["text", "boxes", "rooms"]) (C_guard_from : CalXN P w K mg base 52 "guard_from" false (m_guard_from ca)) (C_names_of : Cal P w K mg base 1 "names_of" false m_names_of) (C_sure : CalXN P w K mg base 1 "sure" false (m_sure ca)) (z_len : mg "len" = none) : CalXN P w K mg base 53 "read_guard" false (m_read_guard ca) :=
 calXN_of (k := 52) (Γ0 := [false, false, false, false, false]) (Γ' := [false, false, false, false, false]) (ΓL := []) F sc_read_guard fun q cdv A outer s H E W hr tk po =>
 (sss_cons (ss_set 3 (se_sf (sf_split (se_var 0) (sb_se se_str))) sc_read_guard.nd)
 (sss_cons (ss_set 4 (se_cXN C_guard_from hr tk (sa_cons (se_var 3) (sa_cons se_int (sa_cons se_int (sa_cons (se_c C_names_of hr (sa_cons (se_var 1) sa_nil)) (sa_cons (se_c C_names_of hr (sa_cons (se_var 2) sa_nil)) sa_nil)))))) sc_read_guard.nd)
 (sss_cons (ss_exp (se_cXN C_sure hr tk (sa_cons (se_cmp (opd_eq hr.units) (sb_se (se_ix ixd (sb_se (se_var 4)) (sb_se se_int))) (sb_se (se_callB calld_len z_len bv_len (sab_cons (sb_se (se_var 3)) sab_nil)))) sa_nil)))
 (sss_one (ss_ret (se_ix ixd (sb_se (se_var 4)) (sb_se se_int)))))))
abbrev s_Draft_passing : Stmt := inClass (topS 19) 9
abbrev n_Draft_passing : List Str := ["self", "word", "text", "door", "guard", "deeds"]
theorem sc_Draft_passing : FnScope n_Draft_passing ["self", "word", "text"] (defScope s_Draft_passing) := ⟨rfl, rfl, rfl, by decide +kernel, rfl, by decide +kernel, by decide +kernel⟩
theorem c_Draft_passing {ca : Nat → Nat} (F : MDfn K (ca 3) "passing" "Draft.passing" s_Draft_passing ["self", "word", "text"]) (C_read_deed : CalXN P w K mg base 3 "read_deed" false (m_read_deed ca)) (C_read_guard : CalXN P w K mg base 53 "read_guard" false (m_read_guard ca)) (C_sure : CalXN P w K mg base 1 "sure" false (m_sure ca)) (z_len : mg "len" = none) (cl_Draft : Cls K (ca 3)) (na_Draft_boxes : NoAttr K (ca 3) "boxes") (na_Draft_doors : NoAttr K (ca 3) "doors") (na_Draft_events : NoAttr K (ca 3) "events") (na_Draft_last : NoAttr K (ca 3) "last") (na_Draft_rooms : NoAttr K (ca 3) "rooms") : McalX P w K mg base 54 (ca 3) "passing" false (m_Draft_passing ca) :=
 mcalX_of (k := 53) (Γ0 := [false, false, false, false, false, false]) (Γ' := [false, false, false, false, false, false]) (ΓL := []) F sc_Draft_passing fun q cdv A outer s H E W hr tk po =>
 (sss_cons (ss_exp (se_cXN C_sure hr tk (sa_cons (se_or (se_cmp (opd_eq hr.units) (sb_se (se_fld cl_Draft na_Draft_last (se_var 0))) (sb_se se_str)) (se_one (se_and (se_cmp (opd_eq hr.units) (sb_se (se_var 1)) (sb_se se_str)) (se_one (se_or (se_cmp (opd_eq hr.units) (sb_se (se_fld cl_Draft na_Draft_last (se_var 0))) (sb_se se_str)) (se_one (se_cmp (opd_eq hr.units) (sb_se (se_fld cl_Draft na_Draft_last (se_var 0))) (sb_se se_str)))))))) sa_nil)))
 (sss_cons (ss_set 3 (se_methO0 PySem.F.slot_list_pop PySem.F.type_list_pop methd_pop0 (se_fld cl_Draft na_Draft_doors (se_var 0))) sc_Draft_passing.nd)
 (sss_cons (ss_set 4 (se_ix ixd (sb_se (se_var 3)) (sb_se se_int)) sc_Draft_passing.nd)
 (sss_cons (ss_set 5 (se_ix ixd (sb_se (se_var 3)) (sb_se se_int)) sc_Draft_passing.nd)
 (sss_cons (ss_if (st_cmp (opd_eq hr.units) (sb_se (se_var 1)) (sb_se se_str))
 (sss_cons (ss_set 4 (se_cXN C_read_guard hr tk (sa_cons (se_var 2) (sa_cons (se_fld cl_Draft na_Draft_boxes (se_var 0)) (sa_cons (se_fld cl_Draft na_Draft_rooms (se_var 0)) sa_nil)))) sc_Draft_passing.nd)
 (sss_one (ss_exp (se_cXN C_sure hr tk (sa_cons (se_cmp (opd_ne hr.units) (sb_se (se_var 4)) (sb_se (se_tup (sa_cons se_str sa_nil)))) sa_nil)))))
 (sss_cons (ss_set 5 (se_bin opd_add (sb_se (se_var 5)) (sb_se (se_tup (sa_cons (se_cXN C_read_deed hr tk (sa_cons (se_var 2) (sa_cons (se_fld cl_Draft na_Draft_boxes (se_var 0)) (sa_cons (se_fld cl_Draft na_Draft_events (se_var 0)) sa_nil)))) sa_nil)))) sc_Draft_passing.nd)
 (sss_one (ss_exp (se_cXN C_sure hr tk (sa_cons (se_cmp opd_le (sb_se (se_callB calld_len z_len bv_len (sab_cons (sb_se (se_var 5)) sab_nil))) (sb_se se_int)) sa_nil))))))
 (sss_one (ss_exp (se_methO PySem.F.slot_list_append PySem.F.type_list_append methd_append (se_fld cl_Draft na_Draft_doors (se_var 0)) (sa_cons (se_tup (sa_cons (se_ix ixd (sb_se (se_var 3)) (sb_se se_int)) (sa_cons (se_ix ixd (sb_se (se_var 3)) (sb_se se_int)) (sa_cons (se_var 4) (sa_cons (se_var 5) (sa_cons (se_ix ixd (sb_se (se_var 3)) (sb_se se_int)) (sa_cons (se_ix ixd (sb_se (se_var 3)) (sb_se se_int)) sa_nil))))))) sa_nil)))))))))
abbrev s_Draft_fits : Stmt := inClass (topS 19) 4
abbrev n_Draft_fits : List Str := ["self", "depth", "ahead"]
theorem sc_Draft_fits : FnScope n_Draft_fits ["self", "depth"] (defScope s_Draft_fits) := ⟨rfl, rfl, rfl, by decide +kernel, rfl, by decide +kernel, by decide +kernel⟩
theorem c_Draft_fits {ca : Nat → Nat} (F : MDfn K (ca 3) "fits" "Draft.fits" s_Draft_fits ["self", "depth"]) (z_len : mg "len" = none) (cl_Draft : Cls K (ca 3)) (na_Draft_rooms : NoAttr K (ca 3) "rooms") : McalI P w K mg base 1 (ca 3) "fits" false (m_Draft_fits ca) :=
 mcal_of (k := 0) (Γ0 := [false, false, false]) (Γ' := [false, false, false]) (ΓL := []) F sc_Draft_fits fun q cdv A outer s H E hr =>
 (sss_cons (ss_if (st_cmp (opd_eq hr.units) (sb_se (se_callBO calld_len z_len bv_len (sab_cons (sb_se (se_fld cl_Draft na_Draft_rooms (se_var 0))) sab_nil))) (sb_se se_int))
 (sss_one (ss_ret (se_cmp (opd_eq hr.units) (sb_se (se_var 1)) (sb_se se_int))))
 sss_nil)
 (sss_cons (ss_set 2 (se_ixO ixd (sb_se (se_fld cl_Draft na_Draft_rooms (se_var 0))) (sb_se (se_neg se_int))) sc_Draft_fits.nd)
 (sss_cons (ss_if (st_cmp (opd_eq hr.units) (sb_se (se_ix ixd (sb_se (se_var 2)) (sb_se se_int))) (sb_se se_str))
 (sss_one (ss_ret (se_chain opd_le opd_le (sb_se se_int) (sb_se (se_var 1)) (sb_se (se_ix ixd (sb_se (se_var 2)) (sb_se se_int))))))
 sss_nil)
 (sss_one (ss_ret (se_and (se_cmp (opd_eq hr.units) (sb_se (se_var 1)) (sb_se (se_bin opd_add (sb_se (se_ix ixd (sb_se (se_var 2)) (sb_se se_int))) (sb_se se_int)))) (se_one (se_cmp opd_le (sb_se (se_var 1)) (sb_se se_int)))))))))
abbrev s_Draft_room : Stmt := inClass (topS 19) 5
abbrev n_Draft_room : List Str := ["self", "row", "bare", "depth", "words", "kind", "keeps", "lamp", "rest"]
theorem sc_Draft_room : FnScope n_Draft_room ["self", "row"] (defScope s_Draft_room) := ⟨rfl, rfl, rfl, by decide +kernel, rfl, by decide +kernel, by decide +kernel⟩
theorem c_Draft_room {ca : Nat → Nat} (F : MDfn K (ca 3) "room" "Draft.room" s_Draft_room ["self", "row"]) (C_is_word : Cal P w K mg base 1 "is_word" false m_is_word) (C_names_of : Cal P w K mg base 1 "names_of" false m_names_of) (C_sure : CalXN P w K mg base 1 "sure" false (m_sure ca)) (z_len : mg "len" = none) (M_Draft_fits : McalI P w K mg base 1 (ca 3) "fits" false (m_Draft_fits ca)) (cl_Draft : Cls K (ca 3)) (na_Draft_doors : NoAttr K (ca 3) "doors") (na_Draft_rooms : NoAttr K (ca 3) "rooms") : McalX P w K mg base 2 (ca 3) "room" false (m_Draft_room ca) :=
 mcalX_of (k := 1) (Γ0 := [false, false, false, false, false, false, false, false, false]) (Γ' := [false, false, false, false, false, false, false, false, false]) (ΓL := []) F sc_Draft_room fun q cdv A outer s H E W hr tk po =>
 (sss_cons (ss_set 2 (se_st PySem.F.slot_str_lstrip PySem.F.type_str_lstrip std_lstrip (se_var 1) (sb_se se_str)) sc_Draft_room.nd)
 (sss_cons (ss_set 3 (se_bin opd_div (sb_se (se_bin opd_sub (sb_se (se_callB calld_len z_len bv_len (sab_cons (sb_se (se_var 1)) sab_nil))) (sb_se (se_callB calld_len z_len bv_len (sab_cons (sb_se (se_var 2)) sab_nil))))) (sb_se se_int)) sc_Draft_room.nd)
 (sss_cons (ss_exp (se_cXN C_sure hr tk (sa_cons (se_and (se_cmp (opd_eq hr.units) (sb_se (se_bin opd_mul (sb_se se_int) (sb_se (se_var 3)))) (sb_se (se_bin opd_sub (sb_se (se_callB calld_len z_len bv_len (sab_cons (sb_se (se_var 1)) sab_nil))) (sb_se (se_callB calld_len z_len bv_len (sab_cons (sb_se (se_var 2)) sab_nil)))))) (se_one (se_m M_Draft_fits hr (se_var 0) (sa_cons (se_var 3) sa_nil)))) sa_nil)))
 (sss_cons (ss_set 4 (se_sf (sf_split (se_var 2) (sb_se se_str))) sc_Draft_room.nd)
 (sss_cons (ss_exp (se_cXN C_sure hr tk (sa_cons (se_and (se_cmp opd_lt (sb_se (se_callBO calld_len z_len bv_len (sab_cons (sb_se (se_fld cl_Draft na_Draft_rooms (se_var 0))) sab_nil))) (sb_se se_int)) (se_and (se_cmp (opd_eq hr.units) (sb_se (se_callBO calld_len z_len bv_len (sab_cons (sb_se (se_fld cl_Draft na_Draft_doors (se_var 0))) sab_nil))) (sb_se se_int)) (se_one (se_cmp opd_gt (sb_se (se_callB calld_len z_len bv_len (sab_cons (sb_se (se_var 4)) sab_nil))) (sb_se se_int))))) sa_nil)))
 (sss_cons (ss_set 5 (se_ix ixd (sb_se (se_var 4)) (sb_se se_int)) sc_Draft_room.nd)
 (sss_cons (ss_exp (se_cXN C_sure hr tk (sa_cons (se_or (se_cmp (opd_eq hr.units) (sb_se (se_var 5)) (sb_se se_str)) (se_or (se_cmp (opd_eq hr.units) (sb_se (se_var 5)) (sb_se se_str)) (se_one (se_cmp (opd_eq hr.units) (sb_se (se_var 5)) (sb_se se_str))))) sa_nil)))
 (sss_cons (ss_exp (se_cXN C_sure hr tk (sa_cons (se_and (se_c C_is_word hr (sa_cons (se_ix ixd (sb_se (se_var 4)) (sb_se se_int)) sa_nil)) (se_one (se_cmp (opd_notIn (room65 hr)) (sb_se (se_ix ixd (sb_se (se_var 4)) (sb_se se_int))) (sb_se (se_c C_names_of hr (sa_cons (se_fld cl_Draft na_Draft_rooms (se_var 0)) sa_nil)))))) sa_nil)))
 (sss_cons (ss_set 6 se_str sc_Draft_room.nd)
 (sss_cons (ss_set 7 se_str sc_Draft_room.nd)
 (sss_cons (ss_set 8 (se_cut cutd (sb_se (se_var 4)) (so_some se_int) so_none) sc_Draft_room.nd)
 (sss_cons (ss_if (st_cmp (opd_eq hr.units) (sb_se (se_cut cutd (sb_se (se_var 8)) so_none (so_some se_int))) (sb_sf (sf_lst (sa_cons se_str sa_nil))))
 (sss_cons (ss_set 6 (se_st PySem.F.slot_str_join PySem.F.type_str_join std_join se_str (sb_se (se_cut cutd (sb_se (se_var 8)) (so_some se_int) (so_some se_int)))) sc_Draft_room.nd)
 (sss_cons (ss_exp (se_cXN C_sure hr tk (sa_cons (se_or (se_and (se_cmp (opd_eq hr.units) (sb_se (se_var 6)) (sb_se se_str)) (se_one (se_cmp (opd_eq hr.units) (sb_se (se_var 5)) (sb_se se_str)))) (se_one (se_and (se_cmp (opd_eq hr.units) (sb_se (se_var 6)) (sb_se se_str)) (se_one (se_cmp (opd_ne hr.units) (sb_se (se_var 5)) (sb_se se_str)))))) sa_nil)))
 (sss_one (ss_set 8 (se_cut cutd (sb_se (se_var 8)) (so_some se_int) so_none) sc_Draft_room.nd))))
 sss_nil)
 (sss_cons (ss_if (st_cmp (opd_eq hr.units) (sb_se (se_cut cutd (sb_se (se_var 8)) so_none (so_some se_int))) (sb_sf (sf_lst (sa_cons se_str sa_nil))))
 (sss_cons (ss_set 7 (se_st PySem.F.slot_str_join PySem.F.type_str_join std_join se_str (sb_se (se_cut cutd (sb_se (se_var 8)) (so_some se_int) (so_some se_int)))) sc_Draft_room.nd)
 (sss_cons (ss_exp (se_cXN C_sure hr tk (sa_cons (se_c C_is_word hr (sa_cons (se_var 7) sa_nil)) sa_nil)))
 (sss_one (ss_set 8 (se_cut cutd (sb_se (se_var 8)) (so_some se_int) so_none) sc_Draft_room.nd))))
 sss_nil)
 (sss_cons (ss_exp (se_cXN C_sure hr tk (sa_cons (se_cmp (opd_eq hr.units) (sb_se (se_callB calld_len z_len bv_len (sab_cons (sb_se (se_var 8)) sab_nil))) (sb_se se_int)) sa_nil)))
 (sss_one (ss_exp (se_methO PySem.F.slot_list_append PySem.F.type_list_append methd_append (se_fld cl_Draft na_Draft_rooms (se_var 0)) (sa_cons (se_tup (sa_cons (se_ix ixd (sb_se (se_var 4)) (sb_se se_int)) (sa_cons (se_var 5) (sa_cons (se_var 3) (sa_cons (se_var 6) (sa_cons (se_var 7) (sa_cons (se_tup sa_nil) (sa_cons (se_tup sa_nil) sa_nil)))))))) sa_nil))))))))))))))))))
abbrev s_Draft_take : Stmt := inClass (topS 19) 10
abbrev n_Draft_take : List Str := ["self", "row", "words", "word"]
theorem sc_Draft_take : FnScope n_Draft_take ["self", "row"] (defScope s_Draft_take) := ⟨rfl, rfl, rfl, by decide +kernel, rfl, by decide +kernel, by decide +kernel⟩
theorem c_Draft_take {ca : Nat → Nat} (F : MDfn K (ca 3) "take" "Draft.take" s_Draft_take ["self", "row"]) (z_len : mg "len" = none) (M_Draft_box : McalX P w K mg base 3 (ca 3) "box" false (m_Draft_box ca)) (M_Draft_door : McalX P w K mg base 3 (ca 3) "door" false (m_Draft_door ca)) (M_Draft_going : McalX P w K mg base 4 (ca 3) "going" false (m_Draft_going ca)) (M_Draft_happening : McalX P w K mg base 2 (ca 3) "happening" false (m_Draft_happening ca)) (M_Draft_head : McalX P w K mg base 3 (ca 3) "head" false (m_Draft_head ca)) (M_Draft_passing : McalX P w K mg base 54 (ca 3) "passing" false (m_Draft_passing ca)) (M_Draft_room : McalX P w K mg base 2 (ca 3) "room" false (m_Draft_room ca)) (cl_Draft : Cls K (ca 3)) (na_Draft_heads : NoAttr K (ca 3) "heads") (na_Draft_last : NoAttr K (ca 3) "last") : McalX P w K mg base 55 (ca 3) "take" false (m_Draft_take ca) :=
 mcalX_of (k := 54) (Γ0 := [false, false, false, false]) (Γ' := [false, false, false, false]) (ΓL := []) F sc_Draft_take fun q cdv A outer s H E W hr tk po =>
 (sss_cons (ss_set 2 (se_sf (sf_split (se_var 1) (sb_se se_str))) sc_Draft_take.nd)
 (sss_cons (ss_set 3 (se_ix ixd (sb_se (se_var 2)) (sb_se se_int)) sc_Draft_take.nd)
 (sss_cons (ss_if (st_cmp opd_lt (sb_se (se_callBO calld_len z_len bv_len (sab_cons (sb_se (se_fld cl_Draft na_Draft_heads (se_var 0))) sab_nil))) (sb_se se_int))
 (sss_one (ss_exp (se_mX M_Draft_head hr tk (se_var 0) (sa_cons (se_var 2) sa_nil))))
 (sss_one (ss_if (st_cmp (opd_eq hr.units) (sb_se (se_var 3)) (sb_se se_str))
 (sss_one (ss_exp (se_mX M_Draft_box hr tk (se_var 0) (sa_cons (se_var 2) sa_nil))))
 (sss_one (ss_if (st_cmp (opd_eq hr.units) (sb_se (se_var 3)) (sb_se se_str))
 (sss_one (ss_exp (se_mX M_Draft_happening hr tk (se_var 0) (sa_cons (se_var 2) sa_nil))))
 (sss_one (ss_if (SW.st (sw_or (st_cmp (opd_eq hr.units) (sb_se (se_var 3)) (sb_se se_str)) (sw_or1 (st_cmp (opd_eq hr.units) (sb_se (se_var 3)) (sb_se se_str)))))
 (sss_one (ss_exp (se_mX M_Draft_going hr tk (se_var 0) (sa_cons (se_var 3) (sa_cons (se_ix ixd (sb_se (se_st PySem.F.slot_str_partition PySem.F.type_str_partition std_partition (se_var 1) (sb_se se_str))) (sb_se se_int)) sa_nil)))))
 (sss_one (ss_if (st_cmp (opd_eq hr.units) (sb_se (se_var 3)) (sb_se se_str))
 (sss_one (ss_exp (se_mX M_Draft_door hr tk (se_var 0) (sa_cons (se_var 2) sa_nil))))
 (sss_one (ss_if (SW.st (sw_or (st_cmp (opd_eq hr.units) (sb_se (se_var 3)) (sb_se se_str)) (sw_or1 (st_cmp (opd_eq hr.units) (sb_se (se_var 3)) (sb_se se_str)))))
 (sss_one (ss_exp (se_mX M_Draft_passing hr tk (se_var 0) (sa_cons (se_var 3) (sa_cons (se_ix ixd (sb_se (se_st PySem.F.slot_str_partition PySem.F.type_str_partition std_partition (se_var 1) (sb_se se_str))) (sb_se se_int)) sa_nil)))))
 (sss_cons (ss_exp (se_mX M_Draft_room hr tk (se_var 0) (sa_cons (se_var 1) sa_nil)))
 (sss_one (ss_set 3 se_str sc_Draft_take.nd))))))))))))))
 (sss_one (ss_fld cl_Draft na_Draft_last (se_var 0) (se_var 3))))))
abbrev s_Draft_told : Stmt := inClass (topS 19) 11
abbrev n_Draft_told : List Str := ["self", "lists"]
theorem sc_Draft_told : FnScope n_Draft_told ["self"] (defScope s_Draft_told) := ⟨rfl, rfl, rfl, by decide +kernel, rfl, by decide +kernel, by decide +kernel⟩
theorem c_Draft_told {ca : Nat → Nat} (F : MDfn K (ca 3) "told" "Draft.told" s_Draft_told ["self"]) (z_tuple : mg "tuple" = none) (cl_Draft : Cls K (ca 3)) (na_Draft_boxes : NoAttr K (ca 3) "boxes") (na_Draft_doors : NoAttr K (ca 3) "doors") (na_Draft_events : NoAttr K (ca 3) "events") (na_Draft_heads : NoAttr K (ca 3) "heads") (na_Draft_rooms : NoAttr K (ca 3) "rooms") : McalI P w K mg base 1 (ca 3) "told" false (m_Draft_told ca) :=
 mcal_of (k := 0) (Γ0 := [false, false]) (Γ' := [false, false]) (ΓL := []) F sc_Draft_told fun q cdv A outer s H E hr =>
 (sss_cons (ss_set 1 (se_tup (sa_cons (se_callTyO calld_tuple z_tuple bv_tuple (sab_cons (sb_se (se_fld cl_Draft na_Draft_boxes (se_var 0))) sab_nil)) (sa_cons (se_callTyO calld_tuple z_tuple bv_tuple (sab_cons (sb_se (se_fld cl_Draft na_Draft_events (se_var 0))) sab_nil)) (sa_cons (se_callTyO calld_tuple z_tuple bv_tuple (sab_cons (sb_se (se_fld cl_Draft na_Draft_rooms (se_var 0))) sab_nil)) (sa_cons (se_callTyO calld_tuple z_tuple bv_tuple (sab_cons (sb_se (se_fld cl_Draft na_Draft_doors (se_var 0))) sab_nil)) sa_nil))))) sc_Draft_told.nd)
 (sss_one (ss_ret (se_bin opd_add (sb_se (se_callTyO calld_tuple z_tuple bv_tuple (sab_cons (sb_se (se_fld cl_Draft na_Draft_heads (se_var 0))) sab_nil))) (sb_se (se_var 1))))))
abbrev s_read : Stmt := topS 20
abbrev n_read : List Str := ["text", "rows", "draft", "k"]
theorem sc_read : FnScope n_read ["text"] (defScope s_read) := ⟨rfl, rfl, rfl, by decide +kernel, rfl, by decide +kernel, by decide +kernel⟩
theorem c_read {ca : Nat → Nat} (F : Dfn K mg "read" s_read ["text"]) (z_len : mg "len" = none) (z_range : mg "range" = none) (M_Draft___init__ : MkI P w K mg base 1 (ca 3) "Draft" false (m_Draft___init__ ca)) (M_Draft_take : McalX P w K mg base 55 (ca 3) "take" false (m_Draft_take ca)) (M_Draft_told : McalI P w K mg base 1 (ca 3) "told" false (m_Draft_told ca)) (M_Draft_whole : McalI P w K mg base 1 (ca 3) "whole" false (m_Draft_whole ca)) (em_NoWords_NoWords : PySem.W.exmOne K (.ref (ca 14)) (.ref (ca 14)) = some true) (mc_NoWords : mg "NoWords" = some (.ref (ca 14))) (mc_Unread : mg "Unread" = some (.ref (ca 15))) (xh_Unread : XIniH P w K mg base 1 "Unread" (ca 15) "row") (xi_Unread : XIni P w K mg base 1 "Unread" (ca 15) "row") : CalX P w K mg base 56 "read" false (m_read ca) :=
 calX_of (k := 55) (Γ0 := [false, false, false, false]) (Γ' := [false, false, false, false]) (ΓL := []) F sc_read fun q cdv A outer s H E W hr tk po =>
 (sss_cons (ss_set 1 (se_sf (sf_split (se_var 0) (sb_se se_str))) sc_read.nd)
 (sss_cons (ss_set 2 (se_mk0 M_Draft___init__ hr) sc_read.nd)
 (sss_cons (ss_for po rfl (si_rg1 z_range (sa_cons (se_callB calld_len z_len bv_len (sab_cons (sb_se (se_var 1)) sab_nil)) sa_nil)) (sg_name 3 sc_read.nd)
 (sss_one (ss_tryX ca (tabL [(14, true)]) rfl rfl ⟨rfl, by decide, .inl mc_NoWords⟩ (fun hd => PassesOwnAt.leaving) tk (hx_cons em_NoWords_NoWords hx_nil) (fun W1 pn xe t1 q1 =>
 (sss_one (ss_exp (se_mX M_Draft_take hr t1 (se_var 2) (sa_cons (se_ix ixd (sb_se (se_var 1)) (sb_se (se_var 3))) sa_nil)))))
 (fun a oe pn t2 h2 =>
 (sss_one (ss_raiseFH (C := (ca 15)) 15 h2 t2 xh_Unread (L2H.roomH_mark hr _) (se_bin opd_add (sb_se (se_var 3)) (sb_se se_int))))))))
 (sss_cons (ss_if (st_not (st_val (se_m0 M_Draft_whole hr (se_var 2) )))
 (sss_one (ss_raiseF (C := (ca 15)) 15 rfl tk xi_Unread hr (se_bin opd_add (sb_se (se_callB calld_len z_len bv_len (sab_cons (sb_se (se_var 1)) sab_nil))) (sb_se se_int))))
 sss_nil)
 (sss_one (ss_ret (se_m0 M_Draft_told hr (se_var 2) )))))))
abbrev s__law_read : Stmt := topS 30
abbrev n__law_read : List Str := ["_law_text", "_law_found", "_law_row", "e"]
theorem sc__law_read : FnScope n__law_read ["_law_text"] (defScope s__law_read) := ⟨rfl, rfl, rfl, by decide +kernel, rfl, by decide +kernel, by decide +kernel⟩
theorem c__law_read {ca : Nat → Nat} (F : Dfn K mg "_law_read" s__law_read ["_law_text"]) (C_read : CalX P w K mg base 56 "read" false (m_read ca)) (em_Unread_Unread : PySem.W.exmOne K (.ref (ca 15)) (.ref (ca 15)) = some true) (mc_Unread : mg "Unread" = some (.ref (ca 15))) (xf_Unread : XfC K (ca 15)) (xn_Unread : PySem.W.findIn K (.ref (ca 15)) "row" = some none) : Cal P w K mg base 57 "_law_read" false (m__law_read ca) :=
 cal_of (k := 56) (Γ0 := [false, false, false, false]) (Γ' := [false, false, false, false]) (ΓL := []) F sc__law_read fun q cdv A outer s H E hr =>
 (sss_cons (ss_set 1 se_non sc__law_read.nd)
 (sss_cons (ss_set 2 se_int sc__law_read.nd)
 (sss_cons (ss_tryAs 3 ca (tabL [(15, true)]) rfl rfl sc__law_read.nd ⟨rfl, by decide, .inl mc_Unread⟩ takes_w0 (hx_cons em_Unread_Unread hx_nil) (fun W1 pn xe t1 q1 =>
 (sss_one (ss_set 1 (se_cX C_read hr t1 (sa_cons (se_var 0) sa_nil)) sc__law_read.nd)))
 (fun a oe pn x cl d z1 z2 =>
 (sssc_set 2 (sec_xf (C := (ca 15)) xf_Unread xn_Unread z1 z2) (sssc_of sss_nil) sc__law_read.nd)))
 (sss_one (ss_ret (se_tup (sa_cons (se_var 1) (sa_cons (se_var 2) sa_nil))))))))
abbrev s__law_right : Stmt := topS 31
abbrev n__law_right : List Str := ["_law_found", "_law_halls_here", "_law_entries_here", "_law_names", "_law_k", "_law_doors", "_law_entry"]
theorem sc__law_right : FnScope n__law_right ["_law_found", "_law_halls_here", "_law_entries_here", "_law_names"] (defScope s__law_right) := ⟨rfl, rfl, rfl, by decide +kernel, rfl, by decide +kernel, by decide +kernel⟩
theorem c__law_right (F : Dfn K mg "_law_right" s__law_right ["_law_found", "_law_halls_here", "_law_entries_here", "_law_names"]) (z_isinstance : mg "isinstance" = none) (z_len : mg "len" = none) (z_range : mg "range" = none) (z_tuple : mg "tuple" = none) : Cal P w K mg base 1 "_law_right" false m__law_right :=
 cal_of (k := 0) (Γ0 := [false, false, false, false, false, false, false]) (Γ' := [false, false, false, false, false, false, false]) (ΓL := []) F sc__law_right fun q cdv A outer s H E hr =>
 (sss_cons (ss_if (SW.st (sw_or (st_not (st_val (se_isi isi_tuple z_isinstance z_tuple (by decide +kernel) (sb_se (se_var 0))))) (sw_or (st_cmp (opd_ne hr.units) (sb_se (se_callB calld_len z_len bv_len (sab_cons (sb_se (se_var 0)) sab_nil))) (sb_se se_int)) (sw_or (st_cmp (opd_ne hr.units) (sb_se (se_ix ixd (sb_se (se_var 0)) (sb_se se_int))) (sb_se (se_tup (sa_cons se_str sa_nil)))) (sw_or1 (st_cmp (opd_ne hr.units) (sb_se (se_callB calld_len z_len bv_len (sab_cons (sb_se (se_ix ixd (sb_se (se_var 0)) (sb_se se_int))) sab_nil))) (sb_se (se_callB calld_len z_len bv_len (sab_cons (sb_se (se_var 1)) sab_nil)))))))))
 (sss_one (ss_ret se_bl))
 sss_nil)
 (sss_cons (ss_for PassesOwn.never rfl (si_rg1 z_range (sa_cons (se_callB calld_len z_len bv_len (sab_cons (sb_se (se_var 1)) sab_nil)) sa_nil)) (sg_name 4 sc__law_right.nd)
 (sss_one (ss_if (st_cmp (opd_ne hr.units) (sb_se (se_ix ixd (sb_se (se_ix ixd (sb_se (se_var 0)) (sb_se se_int))) (sb_se (se_var 4)))) (sb_se (se_tup (sa_cons (se_ix ixd (sb_se (se_var 3)) (sb_se (se_var 4))) (sa_cons (se_ix ixd (sb_se (se_ix ixd (sb_se (se_var 1)) (sb_se (se_var 4)))) (sb_se se_int)) (sa_cons (se_ix ixd (sb_se (se_ix ixd (sb_se (se_var 1)) (sb_se (se_var 4)))) (sb_se se_int)) (sa_cons se_str (sa_cons se_str (sa_cons (se_tup sa_nil) (sa_cons (se_tup sa_nil) sa_nil))))))))))
 (sss_one (ss_ret se_bl))
 sss_nil)))
 (sss_cons (ss_post [false, false, false, false, false, false, false] [false, false, false, false, false, true, false] (ss_to [false, false, false, false, false, true, false] (ss_setLc 5 rfl sc__law_right.nd rfl rfl (sw_true rfl rfl rfl (by decide +kernel)) (si_seq (se_var 2)) (blkOk_by (N := n__law_right) (sc := defScope s__law_right) (own := [("_law_entry", 6)]) (by decide +kernel)) (fun _ _ _ _ _ => (sg_name 6 sc__law_right.nd)) (tg1_ok 6) (by decide) (fun _ _ _ _ _ => (sts_one (st_cmp (opd_eq hr.units) (sb_se (se_ix ixd (sb_se (se_var 6)) (sb_se se_int))) (sb_se se_str)))) (fun _ _ _ _ _ => (se_tup (sa_cons (se_ix ixd (sb_se (se_var 6)) (sb_se se_int)) (sa_cons se_int (sa_cons (se_tup (sa_cons se_str sa_nil)) (sa_cons (se_tup sa_nil) (sa_cons se_str (sa_cons se_non sa_nil)))))))) (by decide))))
 (sss_one (ss_ret (se_and (se_cmp (opd_eq hr.units) (sb_se (se_cut cutd (sb_se (se_var 0)) so_none (so_some se_int))) (sb_se (se_tup (sa_cons se_str (sa_cons se_int (sa_cons se_int (sa_cons (se_tup sa_nil) sa_nil))))))) (se_one (se_cmp (opd_eq hr.units) (sb_se (se_ix ixd (sb_se (se_var 0)) (sb_se se_int))) (sb_se (se_callTy calld_tuple z_tuple bv_tuple (sab_cons (sb_se (se_var 5)) sab_nil)))))))))))
abbrev s_law : Stmt := topS 32
abbrev n_law : List Str := ["_law_script", "_law_halls_here", "_law_entries_here", "_law_number", "_law_names", "_law_k", "_law_rows", "_law_word", "_law_due_here", "_law_told"]
theorem sc_law : FnScope n_law ["_law_script"] (defScope s_law) := ⟨rfl, rfl, rfl, by decide +kernel, rfl, by decide +kernel, by decide +kernel⟩
theorem f_law {ca : Nat → Nat} {q : Addr} {fd : FuncData} (F : Fun K "law" "law" s_law q fd) (C__law_due : Cal P w K mg base 2 "_law_due" false m__law_due) (C__law_entries : Cal P w K mg base 3 "_law_entries" false m__law_entries) (C__law_halls : Cal P w K mg base 3 "_law_halls" false m__law_halls) (C__law_mixed : Cal P w K mg base 2 "_law_mixed" false m__law_mixed) (C__law_name : Cal P w K mg base 1 "_law_name" false m__law_name) (C__law_read : Cal P w K mg base 57 "_law_read" false (m__law_read ca)) (C__law_right : Cal P w K mg base 1 "_law_right" false m__law_right) (z_bool : mg "bool" = none) (z_int : mg "int" = none) (z_isinstance : mg "isinstance" = none) (z_len : mg "len" = none) (z_range : mg "range" = none) : FnOk P w K mg base CX0 58 q fd ["_law_script"] (FSpec K false (m_law ca)) :=
 fn_okL (k := 57) (Γ0 := [false, false, false, false, false, false, false, false, false, false]) (Γ' := [false, false, false, false, false, false, false, false, false, false]) (ΓL := []) F sc_law fun cdv A outer s H E hr =>
 (sss_cons (ss_set 1 (se_c C__law_halls hr (sa_cons (se_var 0) sa_nil)) sc_law.nd)
 (sss_cons (ss_set 2 (se_c C__law_entries hr (sa_cons (se_var 0) (sa_cons (se_var 1) sa_nil))) sc_law.nd)
 (sss_cons (ss_set 3 (se_c C__law_mixed hr (sa_cons (se_var 0) (sa_cons se_int (sa_cons se_int sa_nil)))) sc_law.nd)
 (sss_cons (ss_post [false, false, false, false, false, false, false, false, false, false] [false, false, false, false, true, false, false, false, false, false] (ss_to [false, false, false, false, true, false, false, false, false, false] (ss_setLc 4 rfl sc_law.nd rfl rfl (sw_true rfl rfl rfl (by decide +kernel)) (si_rg1 z_range (sa_cons (se_callB calld_len z_len bv_len (sab_cons (sb_se (se_var 1)) sab_nil)) sa_nil)) (blkOk_by (N := n_law) (sc := defScope s_law) (own := [("_law_k", 5)]) (by decide +kernel)) (fun _ _ _ _ _ => (sg_name 5 sc_law.nd)) (tg1_ok 5) (by decide) (fun _ _ _ _ _ => sts_nil) (fun _ _ _ _ _ => (se_c C__law_name hr (sa_cons (se_var 5) (sa_cons (se_var 3) sa_nil)))) (by decide))))
 (sss_cons (ss_to [false, false, false, false, false, false, true, false, false, false] (ss_setF 6 (sf_lst (sa_cons se_str (sa_cons se_str (sa_cons se_str (sa_cons se_str sa_nil))))) sc_law.nd))
 (sss_cons (ss_for PassesOwn.never rfl (si_seq (se_var 2)) (sg_pair 7 5 rfl sc_law.nd)
 (sss_one (ss_if (st_cmp (opd_eq hr.units) (sb_se (se_var 7)) (sb_se se_str))
 (sss_one (ss_app 6 (se_bin opd_add (sb_se (se_bin opd_add (sb_se (se_bin opd_add (sb_se (se_bin opd_mulS (sb_se se_str) (sb_se (se_ix ixd (sb_se (se_ix ixd (sb_se (se_var 1)) (sb_se (se_var 5)))) (sb_se se_int))))) (sb_se (se_ix ixd (sb_se (se_ix ixd (sb_se (se_var 1)) (sb_se (se_var 5)))) (sb_se se_int))))) (sb_se se_str))) (sb_se (se_ix ixd (sb_se (se_var 4)) (sb_se (se_var 5)))))))
 (sss_one (ss_app 6 (se_bin opd_add (sb_se (se_bin opd_add (sb_se se_str) (sb_se (se_ix ixd (sb_se (se_var 4)) (sb_se (se_var 5)))))) (sb_se se_str)))))))
 (sss_cons (ss_set 8 (se_c C__law_due hr (sa_cons (se_var 1) (sa_cons (se_var 2) sa_nil))) sc_law.nd)
 (sss_cons (ss_set 9 (se_c C__law_read hr (sa_cons (se_st PySem.F.slot_str_join PySem.F.type_str_join std_join se_str (sb_own 6)) sa_nil)) sc_law.nd)
 (sss_cons (ss_if (st_cmp opd_gt (sb_se (se_var 8)) (sb_se se_int))
 (sss_one (ss_ret (se_and (se_isi isi_int z_isinstance z_int (by decide +kernel) (sb_se (se_ix ixd (sb_se (se_var 9)) (sb_se se_int)))) (se_and (se_not (se_isi isi_bool z_isinstance z_bool (by decide +kernel) (sb_se (se_ix ixd (sb_se (se_var 9)) (sb_se se_int))))) (se_one (se_cmp (opd_eq hr.units) (sb_se (se_ix ixd (sb_se (se_var 9)) (sb_se se_int))) (sb_se (se_bin opd_add (sb_se se_int) (sb_se (se_var 8))))))))))
 sss_nil)
 (sss_one (ss_ret (se_and (se_cmp (opd_eq hr.units) (sb_se (se_ix ixd (sb_se (se_var 9)) (sb_se se_int))) (sb_se se_int)) (se_one (se_c C__law_right hr (sa_cons (se_ix ixd (sb_se (se_var 9)) (sb_se se_int)) (sa_cons (se_var 1) (sa_cons (se_var 2) (sa_cons (se_var 4) sa_nil))))))))))))))))))
end
end Law

namespace Law
open PySem PySem.Spec L2 Vx
set_option maxHeartbeats 4000000 in
theorem all_mk {fa f1 f2 f3 f4 f5 f6 f7 f8 f9 f10 f11 f12 f13 f14 f15 f16 f17 f18 f19 f20 f21 f22 f23 f24 f25 f26 f27 f28 f29 f30 f31 f32 f33 fUnread : Addr} {od1 an1 od2 an2 od3 an3 od4 an4 od5 an5 od6 an6 od7 an7 od8 an8 od9 an9 od10 an10 od11 an11 od12 an12 od13 an13 od14 an14 od15 an15 od16 an16 od17 an17 od18 an18 od19 an19 od20 an20 od21 an21 od22 an22 od23 an23 od24 an24 od25 an25 od26 an26 od27 an27 od28 an28 od29 an29 od30 an30 od31 an31 od32 an32 od33 an33 odUnread anUnread : Option Addr} {sl1 sl2 sl3 sl4 sl5 sl6 sl7 sl8 sl9 sl10 sl11 sl12 sl13 sl14 sl15 sl16 sl17 sl18 sl19 sl20 sl21 sl22 sl23 sl24 sl25 sl26 sl27 sl28 sl29 sl30 sl31 sl32 sl33 slUnread : Array (Option Value)} {oc1 kV1 dc1 pm1 cd1 ct1 oc2 kV2 dc2 pm2 cd2 ct2 oc3 kV3 dc3 pm3 cd3 ct3 oc4 kV4 dc4 pm4 cd4 ct4 oc5 kV5 dc5 pm5 cd5 ct5 oc6 kV6 dc6 pm6 cd6 ct6 oc7 kV7 dc7 pm7 cd7 ct7 oc8 kV8 dc8 pm8 cd8 ct8 oc9 kV9 dc9 pm9 cd9 ct9 oc10 kV10 dc10 pm10 cd10 ct10 oc11 kV11 dc11 pm11 cd11 ct11 oc12 kV12 dc12 pm12 cd12 ct12 oc13 kV13 dc13 pm13 cd13 ct13 oc14 kV14 dc14 pm14 cd14 ct14 oc15 kV15 dc15 pm15 cd15 ct15 oc16 kV16 dc16 pm16 cd16 ct16 oc17 kV17 dc17 pm17 cd17 ct17 oc18 kV18 dc18 pm18 cd18 ct18 oc19 kV19 dc19 pm19 cd19 ct19 oc20 kV20 dc20 pm20 cd20 ct20 oc21 kV21 dc21 pm21 cd21 ct21 oc22 kV22 dc22 pm22 cd22 ct22 oc23 kV23 dc23 pm23 cd23 ct23 oc24 kV24 dc24 pm24 cd24 ct24 oc25 kV25 dc25 pm25 cd25 ct25 oc26 kV26 dc26 pm26 cd26 ct26 oc27 kV27 dc27 pm27 cd27 ct27 oc28 kV28 dc28 pm28 cd28 ct28 oc29 kV29 dc29 pm29 cd29 ct29 oc30 kV30 dc30 pm30 cd30 ct30 oc31 kV31 dc31 pm31 cd31 ct31 oc32 kV32 dc32 pm32 cd32 ct32 oc33 kV33 dc33 pm33 cd33 ct33 ocUnread kVUnread dcUnread pmUnread cdUnread ctUnread : Value} {CDraft CNoWords CUnread : Addr} {t_FAR t_FIGURES t_LETTERS : Tok} {l : PySem.W.OpenLaw} {w : World} {K : PySem.W.Frag} {h : Heap} {mg : Str → Option Value} (X : K.In h) (G : h.Ns mainGlobals mg) (hfa : mg "law" = some (.ref fa))
  (aX_NoWords : PySem.W.nsIn K mainGlobals "NoWords" = some (some (.ref CNoWords)))
  (aX_Unread : PySem.W.nsIn K mainGlobals "Unread" = some (some (.ref CUnread)))
  (ex_NoWords : PySem.W.excIn K CNoWords [.type "ValueError", .type "Exception", .type "BaseException", .type "object"] "ValueError.__new__" = true)
  (kx_NoWords : PySem.W.keepIn K (.ref CNoWords) = true)
  (ty_NoWords : PySem.W.typeIn K (.ref CNoWords) = some (.type "type"))
  (sb_NoWords : PySem.W.subIn K (.ref CNoWords) (.type "BaseException") = some true)
  (xn_Unread : PySem.W.findIn K (.ref CUnread) "row" = some none)
  (xq_Unread : PySem.W.excInitIn K CUnread [.type "ValueError", .type "Exception", .type "BaseException", .type "object"] "ValueError.__new__" = true)
  (kx_Unread : PySem.W.keepIn K (.ref CUnread) = true)
  (xs_Unread : PySem.W.findIn K (.ref CUnread) "__setattr__" = some (some (.builtin "object.__setattr__")))
  (iA_Unread : PySem.W.findIn K (.ref CUnread) "__init__" = some (some (.ref fUnread)))
  (iT_Unread : PySem.W.typeIn K (.ref fUnread) = some (.type "function"))
  (iL_Unread : K.lookup fUnread = some ⟨ocUnread, odUnread, .func (PySem.W.fnOf "__init__" "Unread.__init__" (defArgs s_Unread___init__) (defBody s_Unread___init__) (defScope s_Unread___init__) .none kVUnread dcUnread pmUnread anUnread cdUnread ctUnread), slUnread⟩)
  (iC_Unread : PySem.W.codeIn K cdUnread "Unread.__init__" = true)
  (iK_Unread : PySem.W.keepIn K (.ref fUnread) = true)
  (ty_Unread : PySem.W.typeIn K (.ref CUnread) = some (.type "type"))
  (sb_Unread : PySem.W.subIn K (.ref CUnread) (.type "BaseException") = some true)
  (hg_Unread : PySem.W.findIn K (.ref CUnread) "__getattribute__" = some (some (.builtin "BaseException.__getattribute__")))
  (hk_Unread : PySem.W.findIn K (.ref CUnread) "__getattr__" = some none)
  (hd_NoWords : PySem.W.hasDictIn K CNoWords = true)
  (hd_Unread : PySem.W.hasDictIn K CUnread = true)
  (su_NoWords_NoWords : PySem.W.subIn K (.ref CNoWords) (.ref CNoWords) = some true)
  (su_Unread_Unread : PySem.W.subIn K (.ref CUnread) (.ref CUnread) = some true)
  (aC_Draft : PySem.W.nsIn K mainGlobals "Draft" = some (some (.ref CDraft)))
  (a1 : PySem.W.nsIn K mainGlobals "_law_fits" = some (some (.ref f1))) (l1 : K.lookup f1 = some ⟨oc1, od1, .func (PySem.W.fnOf "_law_fits" "_law_fits" (defArgs s__law_fits) (defBody s__law_fits) (defScope s__law_fits) .none kV1 dc1 pm1 an1 cd1 ct1), sl1⟩) (c1 : PySem.W.codeIn K cd1 "_law_fits" = true) (k1 : PySem.W.keepIn K (.ref f1) = true)
  (a2 : PySem.W.nsIn K mainGlobals "_law_due" = some (some (.ref f2))) (l2 : K.lookup f2 = some ⟨oc2, od2, .func (PySem.W.fnOf "_law_due" "_law_due" (defArgs s__law_due) (defBody s__law_due) (defScope s__law_due) .none kV2 dc2 pm2 an2 cd2 ct2), sl2⟩) (c2 : PySem.W.codeIn K cd2 "_law_due" = true) (k2 : PySem.W.keepIn K (.ref f2) = true)
  (a3 : PySem.W.nsIn K mainGlobals "_law_cell_at" = some (some (.ref f3))) (l3 : K.lookup f3 = some ⟨oc3, od3, .func (PySem.W.fnOf "_law_cell_at" "_law_cell_at" (defArgs s__law_cell_at) (defBody s__law_cell_at) (defScope s__law_cell_at) .none kV3 dc3 pm3 an3 cd3 ct3), sl3⟩) (c3 : PySem.W.codeIn K cd3 "_law_cell_at" = true) (k3 : PySem.W.keepIn K (.ref f3) = true)
  (a4 : PySem.W.nsIn K mainGlobals "_law_mixed" = some (some (.ref f4))) (l4 : K.lookup f4 = some ⟨oc4, od4, .func (PySem.W.fnOf "_law_mixed" "_law_mixed" (defArgs s__law_mixed) (defBody s__law_mixed) (defScope s__law_mixed) .none kV4 dc4 pm4 an4 cd4 ct4), sl4⟩) (c4 : PySem.W.codeIn K cd4 "_law_mixed" = true) (k4 : PySem.W.keepIn K (.ref f4) = true)
  (a5 : PySem.W.nsIn K mainGlobals "_law_entries" = some (some (.ref f5))) (l5 : K.lookup f5 = some ⟨oc5, od5, .func (PySem.W.fnOf "_law_entries" "_law_entries" (defArgs s__law_entries) (defBody s__law_entries) (defScope s__law_entries) .none kV5 dc5 pm5 an5 cd5 ct5), sl5⟩) (c5 : PySem.W.codeIn K cd5 "_law_entries" = true) (k5 : PySem.W.keepIn K (.ref f5) = true)
  (a6 : PySem.W.nsIn K mainGlobals "_law_depth" = some (some (.ref f6))) (l6 : K.lookup f6 = some ⟨oc6, od6, .func (PySem.W.fnOf "_law_depth" "_law_depth" (defArgs s__law_depth) (defBody s__law_depth) (defScope s__law_depth) .none kV6 dc6 pm6 an6 cd6 ct6), sl6⟩) (c6 : PySem.W.codeIn K cd6 "_law_depth" = true) (k6 : PySem.W.keepIn K (.ref f6) = true)
  (a7 : PySem.W.nsIn K mainGlobals "_law_halls" = some (some (.ref f7))) (l7 : K.lookup f7 = some ⟨oc7, od7, .func (PySem.W.fnOf "_law_halls" "_law_halls" (defArgs s__law_halls) (defBody s__law_halls) (defScope s__law_halls) .none kV7 dc7 pm7 an7 cd7 ct7), sl7⟩) (c7 : PySem.W.codeIn K cd7 "_law_halls" = true) (k7 : PySem.W.keepIn K (.ref f7) = true)
  (a8 : PySem.W.nsIn K mainGlobals "_law_name" = some (some (.ref f8))) (l8 : K.lookup f8 = some ⟨oc8, od8, .func (PySem.W.fnOf "_law_name" "_law_name" (defArgs s__law_name) (defBody s__law_name) (defScope s__law_name) .none kV8 dc8 pm8 an8 cd8 ct8), sl8⟩) (c8 : PySem.W.codeIn K cd8 "_law_name" = true) (k8 : PySem.W.keepIn K (.ref f8) = true)
  (a9 : PySem.W.findIn K (.ref CDraft) "__init__" = some (some (.ref f9))) (i9 : PySem.W.isFn K (.ref f9) = true) (l9 : K.lookup f9 = some ⟨oc9, od9, .func (PySem.W.fnOf "__init__" "Draft.__init__" (defArgs s_Draft___init__) (defBody s_Draft___init__) (defScope s_Draft___init__) .none kV9 dc9 pm9 an9 cd9 ct9), sl9⟩) (c9 : PySem.W.codeIn K cd9 "Draft.__init__" = true) (k9 : PySem.W.keepIn K (.ref f9) = true)
  (a10 : PySem.W.nsIn K mainGlobals "is_word" = some (some (.ref f10))) (l10 : K.lookup f10 = some ⟨oc10, od10, .func (PySem.W.fnOf "is_word" "is_word" (defArgs s_is_word) (defBody s_is_word) (defScope s_is_word) .none kV10 dc10 pm10 an10 cd10 ct10), sl10⟩) (c10 : PySem.W.codeIn K cd10 "is_word" = true) (k10 : PySem.W.keepIn K (.ref f10) = true)
  (a11 : PySem.W.nsIn K mainGlobals "names_of" = some (some (.ref f11))) (l11 : K.lookup f11 = some ⟨oc11, od11, .func (PySem.W.fnOf "names_of" "names_of" (defArgs s_names_of) (defBody s_names_of) (defScope s_names_of) .none kV11 dc11 pm11 an11 cd11 ct11), sl11⟩) (c11 : PySem.W.codeIn K cd11 "names_of" = true) (k11 : PySem.W.keepIn K (.ref f11) = true)
  (a12 : PySem.W.nsIn K mainGlobals "read_number" = some (some (.ref f12))) (l12 : K.lookup f12 = some ⟨oc12, od12, .func (PySem.W.fnOf "read_number" "read_number" (defArgs s_read_number) (defBody s_read_number) (defScope s_read_number) .none kV12 dc12 pm12 an12 cd12 ct12), sl12⟩) (c12 : PySem.W.codeIn K cd12 "read_number" = true) (k12 : PySem.W.keepIn K (.ref f12) = true)
  (a13 : PySem.W.nsIn K mainGlobals "sure" = some (some (.ref f13))) (l13 : K.lookup f13 = some ⟨oc13, od13, .func (PySem.W.fnOf "sure" "sure" (defArgs s_sure) (defBody s_sure) (defScope s_sure) .none kV13 dc13 pm13 an13 cd13 ct13), sl13⟩) (c13 : PySem.W.codeIn K cd13 "sure" = true) (k13 : PySem.W.keepIn K (.ref f13) = true)
  (a14 : PySem.W.nsIn K mainGlobals "number_from" = some (some (.ref f14))) (l14 : K.lookup f14 = some ⟨oc14, od14, .func (PySem.W.fnOf "number_from" "number_from" (defArgs s_number_from) (defBody s_number_from) (defScope s_number_from) .none kV14 dc14 pm14 an14 cd14 ct14), sl14⟩) (c14 : PySem.W.codeIn K cd14 "number_from" = true) (k14 : PySem.W.keepIn K (.ref f14) = true)
  (a15 : PySem.W.findIn K (.ref CDraft) "box" = some (some (.ref f15))) (i15 : PySem.W.isFn K (.ref f15) = true) (l15 : K.lookup f15 = some ⟨oc15, od15, .func (PySem.W.fnOf "box" "Draft.box" (defArgs s_Draft_box) (defBody s_Draft_box) (defScope s_Draft_box) .none kV15 dc15 pm15 an15 cd15 ct15), sl15⟩) (c15 : PySem.W.codeIn K cd15 "Draft.box" = true) (k15 : PySem.W.keepIn K (.ref f15) = true)
  (a16 : PySem.W.findIn K (.ref CDraft) "whole" = some (some (.ref f16))) (i16 : PySem.W.isFn K (.ref f16) = true) (l16 : K.lookup f16 = some ⟨oc16, od16, .func (PySem.W.fnOf "whole" "Draft.whole" (defArgs s_Draft_whole) (defBody s_Draft_whole) (defScope s_Draft_whole) .none kV16 dc16 pm16 an16 cd16 ct16), sl16⟩) (c16 : PySem.W.codeIn K cd16 "Draft.whole" = true) (k16 : PySem.W.keepIn K (.ref f16) = true)
  (a17 : PySem.W.nsIn K mainGlobals "place_from" = some (some (.ref f17))) (l17 : K.lookup f17 = some ⟨oc17, od17, .func (PySem.W.fnOf "place_from" "place_from" (defArgs s_place_from) (defBody s_place_from) (defScope s_place_from) .none kV17 dc17 pm17 an17 cd17 ct17), sl17⟩) (c17 : PySem.W.codeIn K cd17 "place_from" = true) (k17 : PySem.W.keepIn K (.ref f17) = true)
  (a18 : PySem.W.findIn K (.ref CDraft) "door" = some (some (.ref f18))) (i18 : PySem.W.isFn K (.ref f18) = true) (l18 : K.lookup f18 = some ⟨oc18, od18, .func (PySem.W.fnOf "door" "Draft.door" (defArgs s_Draft_door) (defBody s_Draft_door) (defScope s_Draft_door) .none kV18 dc18 pm18 an18 cd18 ct18), sl18⟩) (c18 : PySem.W.codeIn K cd18 "Draft.door" = true) (k18 : PySem.W.keepIn K (.ref f18) = true)
  (a19 : PySem.W.nsIn K mainGlobals "read_deed" = some (some (.ref f19))) (l19 : K.lookup f19 = some ⟨oc19, od19, .func (PySem.W.fnOf "read_deed" "read_deed" (defArgs s_read_deed) (defBody s_read_deed) (defScope s_read_deed) .none kV19 dc19 pm19 an19 cd19 ct19), sl19⟩) (c19 : PySem.W.codeIn K cd19 "read_deed" = true) (k19 : PySem.W.keepIn K (.ref f19) = true)
  (a20 : PySem.W.findIn K (.ref CDraft) "going" = some (some (.ref f20))) (i20 : PySem.W.isFn K (.ref f20) = true) (l20 : K.lookup f20 = some ⟨oc20, od20, .func (PySem.W.fnOf "going" "Draft.going" (defArgs s_Draft_going) (defBody s_Draft_going) (defScope s_Draft_going) .none kV20 dc20 pm20 an20 cd20 ct20), sl20⟩) (c20 : PySem.W.codeIn K cd20 "Draft.going" = true) (k20 : PySem.W.keepIn K (.ref f20) = true)
  (a21 : PySem.W.findIn K (.ref CDraft) "happening" = some (some (.ref f21))) (i21 : PySem.W.isFn K (.ref f21) = true) (l21 : K.lookup f21 = some ⟨oc21, od21, .func (PySem.W.fnOf "happening" "Draft.happening" (defArgs s_Draft_happening) (defBody s_Draft_happening) (defScope s_Draft_happening) .none kV21 dc21 pm21 an21 cd21 ct21), sl21⟩) (c21 : PySem.W.codeIn K cd21 "Draft.happening" = true) (k21 : PySem.W.keepIn K (.ref f21) = true)
  (a22 : PySem.W.findIn K (.ref CDraft) "head" = some (some (.ref f22))) (i22 : PySem.W.isFn K (.ref f22) = true) (l22 : K.lookup f22 = some ⟨oc22, od22, .func (PySem.W.fnOf "head" "Draft.head" (defArgs s_Draft_head) (defBody s_Draft_head) (defScope s_Draft_head) .none kV22 dc22 pm22 an22 cd22 ct22), sl22⟩) (c22 : PySem.W.codeIn K cd22 "Draft.head" = true) (k22 : PySem.W.keepIn K (.ref f22) = true)
  (a23 : PySem.W.nsIn K mainGlobals "guard_from" = some (some (.ref f23))) (l23 : K.lookup f23 = some ⟨oc23, od23, .func (PySem.W.fnOf "guard_from" "guard_from" (defArgs s_guard_from) (defBody s_guard_from) (defScope s_guard_from) .none kV23 dc23 pm23 an23 cd23 ct23), sl23⟩) (c23 : PySem.W.codeIn K cd23 "guard_from" = true) (k23 : PySem.W.keepIn K (.ref f23) = true)
  (a24 : PySem.W.nsIn K mainGlobals "read_guard" = some (some (.ref f24))) (l24 : K.lookup f24 = some ⟨oc24, od24, .func (PySem.W.fnOf "read_guard" "read_guard" (defArgs s_read_guard) (defBody s_read_guard) (defScope s_read_guard) .none kV24 dc24 pm24 an24 cd24 ct24), sl24⟩) (c24 : PySem.W.codeIn K cd24 "read_guard" = true) (k24 : PySem.W.keepIn K (.ref f24) = true)
  (a25 : PySem.W.findIn K (.ref CDraft) "passing" = some (some (.ref f25))) (i25 : PySem.W.isFn K (.ref f25) = true) (l25 : K.lookup f25 = some ⟨oc25, od25, .func (PySem.W.fnOf "passing" "Draft.passing" (defArgs s_Draft_passing) (defBody s_Draft_passing) (defScope s_Draft_passing) .none kV25 dc25 pm25 an25 cd25 ct25), sl25⟩) (c25 : PySem.W.codeIn K cd25 "Draft.passing" = true) (k25 : PySem.W.keepIn K (.ref f25) = true)
  (a26 : PySem.W.findIn K (.ref CDraft) "fits" = some (some (.ref f26))) (i26 : PySem.W.isFn K (.ref f26) = true) (l26 : K.lookup f26 = some ⟨oc26, od26, .func (PySem.W.fnOf "fits" "Draft.fits" (defArgs s_Draft_fits) (defBody s_Draft_fits) (defScope s_Draft_fits) .none kV26 dc26 pm26 an26 cd26 ct26), sl26⟩) (c26 : PySem.W.codeIn K cd26 "Draft.fits" = true) (k26 : PySem.W.keepIn K (.ref f26) = true)
  (a27 : PySem.W.findIn K (.ref CDraft) "room" = some (some (.ref f27))) (i27 : PySem.W.isFn K (.ref f27) = true) (l27 : K.lookup f27 = some ⟨oc27, od27, .func (PySem.W.fnOf "room" "Draft.room" (defArgs s_Draft_room) (defBody s_Draft_room) (defScope s_Draft_room) .none kV27 dc27 pm27 an27 cd27 ct27), sl27⟩) (c27 : PySem.W.codeIn K cd27 "Draft.room" = true) (k27 : PySem.W.keepIn K (.ref f27) = true)
  (a28 : PySem.W.findIn K (.ref CDraft) "take" = some (some (.ref f28))) (i28 : PySem.W.isFn K (.ref f28) = true) (l28 : K.lookup f28 = some ⟨oc28, od28, .func (PySem.W.fnOf "take" "Draft.take" (defArgs s_Draft_take) (defBody s_Draft_take) (defScope s_Draft_take) .none kV28 dc28 pm28 an28 cd28 ct28), sl28⟩) (c28 : PySem.W.codeIn K cd28 "Draft.take" = true) (k28 : PySem.W.keepIn K (.ref f28) = true)
  (a29 : PySem.W.findIn K (.ref CDraft) "told" = some (some (.ref f29))) (i29 : PySem.W.isFn K (.ref f29) = true) (l29 : K.lookup f29 = some ⟨oc29, od29, .func (PySem.W.fnOf "told" "Draft.told" (defArgs s_Draft_told) (defBody s_Draft_told) (defScope s_Draft_told) .none kV29 dc29 pm29 an29 cd29 ct29), sl29⟩) (c29 : PySem.W.codeIn K cd29 "Draft.told" = true) (k29 : PySem.W.keepIn K (.ref f29) = true)
  (a30 : PySem.W.nsIn K mainGlobals "read" = some (some (.ref f30))) (l30 : K.lookup f30 = some ⟨oc30, od30, .func (PySem.W.fnOf "read" "read" (defArgs s_read) (defBody s_read) (defScope s_read) .none kV30 dc30 pm30 an30 cd30 ct30), sl30⟩) (c30 : PySem.W.codeIn K cd30 "read" = true) (k30 : PySem.W.keepIn K (.ref f30) = true)
  (a31 : PySem.W.nsIn K mainGlobals "_law_read" = some (some (.ref f31))) (l31 : K.lookup f31 = some ⟨oc31, od31, .func (PySem.W.fnOf "_law_read" "_law_read" (defArgs s__law_read) (defBody s__law_read) (defScope s__law_read) .none kV31 dc31 pm31 an31 cd31 ct31), sl31⟩) (c31 : PySem.W.codeIn K cd31 "_law_read" = true) (k31 : PySem.W.keepIn K (.ref f31) = true)
  (a32 : PySem.W.nsIn K mainGlobals "_law_right" = some (some (.ref f32))) (l32 : K.lookup f32 = some ⟨oc32, od32, .func (PySem.W.fnOf "_law_right" "_law_right" (defArgs s__law_right) (defBody s__law_right) (defScope s__law_right) .none kV32 dc32 pm32 an32 cd32 ct32), sl32⟩) (c32 : PySem.W.codeIn K cd32 "_law_right" = true) (k32 : PySem.W.keepIn K (.ref f32) = true)
  (a33 : PySem.W.nsIn K mainGlobals "law" = some (some (.ref f33))) (l33 : K.lookup f33 = some ⟨oc33, od33, .func (PySem.W.fnOf "law" "law" (defArgs s_law) (defBody s_law) (defScope s_law) .none kV33 dc33 pm33 an33 cd33 ct33), sl33⟩) (c33 : PySem.W.codeIn K cd33 "law" = true) (k33 : PySem.W.keepIn K (.ref f33) = true)
  (pg_Draft : PySem.W.plainGet K CDraft Str.empty = true) (hd_Draft : PySem.W.hasDictIn K CDraft = true) (po_Draft : PySem.W.plainOver K CDraft = true) (sa_Draft : PySem.W.findIn K (.ref CDraft) "__setattr__" = some (some (.builtin "object.__setattr__"))) (mk_Draft : PySem.W.makesIn K CDraft = true) (kc_Draft : PySem.W.keepIn K (.ref CDraft) = true)
  (na_Draft_boxes : PySem.W.findIn K (.ref CDraft) "boxes" = some none)
  (na_Draft_doors : PySem.W.findIn K (.ref CDraft) "doors" = some none)
  (na_Draft_events : PySem.W.findIn K (.ref CDraft) "events" = some none)
  (na_Draft_heads : PySem.W.findIn K (.ref CDraft) "heads" = some none)
  (na_Draft_last : PySem.W.findIn K (.ref CDraft) "last" = some none)
  (na_Draft_rooms : PySem.W.findIn K (.ref CDraft) "rooms" = some none)
  (z_bool : PySem.W.nsIn K mainGlobals "bool" = some none)
  (z_int : PySem.W.nsIn K mainGlobals "int" = some none)
  (z_isinstance : PySem.W.nsIn K mainGlobals "isinstance" = some none)
  (z_len : PySem.W.nsIn K mainGlobals "len" = some none)
  (z_list : PySem.W.nsIn K mainGlobals "list" = some none)
  (z_max : PySem.W.nsIn K mainGlobals "max" = some none)
  (z_range : PySem.W.nsIn K mainGlobals "range" = some none)
  (z_tuple : PySem.W.nsIn K mainGlobals "tuple" = some none)
  (k_FAR : PySem.W.nsIn K mainGlobals "FAR" = some (some (.int 1000000000000000000000000000000 t_FAR)))
  (k_FIGURES : PySem.W.nsIn K mainGlobals "FIGURES" = some (some (.str "0123456789" t_FIGURES)))
  (k_LETTERS : PySem.W.nsIn K mainGlobals "LETTERS" = some (some (.str "abcdefghijklmnopqrstuvwxyz" t_LETTERS))) (hlaw : ∀ ca : Nat → Nat, ∀ ns : List Int, ns.length ≤ 63 → ∃ st', m_law ca [.lst (ns.map .int)] [] = .ok (.bl true) st') :
  ∃ fd : FuncData, (∀ (s : Shared) (v : Value), BindsTo s fd ⟨[v], []⟩ [("_law_script", v)]) ∧ ∀ base : Heap, K.In base → base.Ns mainGlobals mg → FnOk l.prog w K mg base CX0 58 fa fd ["_law_script"] (spLaw K) := by
  letI : Wd := ⟨w⟩
  have hw : w = Wd.w := rfl
  have e := hfa.symm.trans (PySem.W.mg_of X G a33)
  cases e
  have z_bool := PySem.W.mg_none_of X G z_bool
  have z_int := PySem.W.mg_none_of X G z_int
  have z_isinstance := PySem.W.mg_none_of X G z_isinstance
  have z_len := PySem.W.mg_none_of X G z_len
  have z_list := PySem.W.mg_none_of X G z_list
  have z_max := PySem.W.mg_none_of X G z_max
  have z_range := PySem.W.mg_none_of X G z_range
  have z_tuple := PySem.W.mg_none_of X G z_tuple
  have k_FAR := PySem.W.mg_of X G k_FAR
  have k_FIGURES := PySem.W.mg_of X G k_FIGURES
  have k_LETTERS := PySem.W.mg_of X G k_LETTERS
  have mc_NoWords := PySem.W.mg_of X G aX_NoWords
  have xc_NoWords : XC0 K mg "NoWords" CNoWords := ⟨ex_NoWords, kx_NoWords, sb_NoWords, ty_NoWords, mc_NoWords⟩
  have mc_Unread := PySem.W.mg_of X G aX_Unread
  have xf_Unread : XfC K CUnread := ⟨hg_Unread, hk_Unread, sb_Unread, hd_Unread⟩
  have Fi_Unread := fun_mk (st := s_Unread___init__) iL_Unread iC_Unread iK_Unread
  have em_NoWords_NoWords := PySem.W.exm_ref (cls := .ref CNoWords) sb_NoWords hd_NoWords ty_NoWords su_NoWords_NoWords
  have em_Unread_Unread := PySem.W.exm_ref (cls := .ref CUnread) sb_Unread hd_Unread ty_Unread su_Unread_Unread
  have cl_Draft : Cls K CDraft := ⟨pg_Draft, hd_Draft, po_Draft, sa_Draft⟩
  have F1 := fun_mk (st := s__law_fits) l1 c1 k1
  have D__law_fits : Dfn K mg "_law_fits" s__law_fits ["_law_halls_here", "_law_k"] := ⟨_, _, F1, PySem.W.mg_of X G a1, F1.binds (ps := ["_law_halls_here", "_law_k"]) fun _ _ _ _ _ _ us hl => match us, hl with | [_, _], _ => rfl⟩
  have F2 := fun_mk (st := s__law_due) l2 c2 k2
  have D__law_due : Dfn K mg "_law_due" s__law_due ["_law_halls_here", "_law_entries_here"] := ⟨_, _, F2, PySem.W.mg_of X G a2, F2.binds (ps := ["_law_halls_here", "_law_entries_here"]) fun _ _ _ _ _ _ us hl => match us, hl with | [_, _], _ => rfl⟩
  have F3 := fun_mk (st := s__law_cell_at) l3 c3 k3
  have D__law_cell_at : Dfn K mg "_law_cell_at" s__law_cell_at ["_law_script", "_law_k"] := ⟨_, _, F3, PySem.W.mg_of X G a3, F3.binds (ps := ["_law_script", "_law_k"]) fun _ _ _ _ _ _ us hl => match us, hl with | [_, _], _ => rfl⟩
  have F4 := fun_mk (st := s__law_mixed) l4 c4 k4
  have D__law_mixed : Dfn K mg "_law_mixed" s__law_mixed ["_law_script", "_law_k", "_law_salt"] := ⟨_, _, F4, PySem.W.mg_of X G a4, F4.binds (ps := ["_law_script", "_law_k", "_law_salt"]) fun _ _ _ _ _ _ us hl => match us, hl with | [_, _, _], _ => rfl⟩
  have F5 := fun_mk (st := s__law_entries) l5 c5 k5
  have D__law_entries : Dfn K mg "_law_entries" s__law_entries ["_law_script", "_law_halls_here"] := ⟨_, _, F5, PySem.W.mg_of X G a5, F5.binds (ps := ["_law_script", "_law_halls_here"]) fun _ _ _ _ _ _ us hl => match us, hl with | [_, _], _ => rfl⟩
  have F6 := fun_mk (st := s__law_depth) l6 c6 k6
  have D__law_depth : Dfn K mg "_law_depth" s__law_depth ["_law_number", "_law_ahead"] := ⟨_, _, F6, PySem.W.mg_of X G a6, F6.binds (ps := ["_law_number", "_law_ahead"]) fun _ _ _ _ _ _ us hl => match us, hl with | [_, _], _ => rfl⟩
  have F7 := fun_mk (st := s__law_halls) l7 c7 k7
  have D__law_halls : Dfn K mg "_law_halls" s__law_halls ["_law_script"] := ⟨_, _, F7, PySem.W.mg_of X G a7, F7.binds (ps := ["_law_script"]) fun _ _ _ _ _ _ us hl => match us, hl with | [_], _ => rfl⟩
  have F8 := fun_mk (st := s__law_name) l8 c8 k8
  have D__law_name : Dfn K mg "_law_name" s__law_name ["_law_k", "_law_number"] := ⟨_, _, F8, PySem.W.mg_of X G a8, F8.binds (ps := ["_law_k", "_law_number"]) fun _ _ _ _ _ _ us hl => match us, hl with | [_, _], _ => rfl⟩
  have F9 := fun_mk (st := s_Draft___init__) l9 c9 k9
  have D_Draft___init__ : IDfn K mg CDraft "Draft" "Draft.__init__" s_Draft___init__ ["self"] := ⟨_, _, F9, PySem.W.mg_of X G aC_Draft, ⟨mk_Draft, a9, i9, kc_Draft⟩, F9.binds (ps := ["self"]) fun _ _ _ _ _ _ us hl => match us, hl with | [_], _ => rfl⟩
  have F10 := fun_mk (st := s_is_word) l10 c10 k10
  have D_is_word : Dfn K mg "is_word" s_is_word ["text"] := ⟨_, _, F10, PySem.W.mg_of X G a10, F10.binds (ps := ["text"]) fun _ _ _ _ _ _ us hl => match us, hl with | [_], _ => rfl⟩
  have F11 := fun_mk (st := s_names_of) l11 c11 k11
  have D_names_of : Dfn K mg "names_of" s_names_of ["things"] := ⟨_, _, F11, PySem.W.mg_of X G a11, F11.binds (ps := ["things"]) fun _ _ _ _ _ _ us hl => match us, hl with | [_], _ => rfl⟩
  have F12 := fun_mk (st := s_read_number) l12 c12 k12
  have D_read_number : Dfn K mg "read_number" s_read_number ["text"] := ⟨_, _, F12, PySem.W.mg_of X G a12, F12.binds (ps := ["text"]) fun _ _ _ _ _ _ us hl => match us, hl with | [_], _ => rfl⟩
  have F13 := fun_mk (st := s_sure) l13 c13 k13
  have D_sure : Dfn K mg "sure" s_sure ["good"] := ⟨_, _, F13, PySem.W.mg_of X G a13, F13.binds (ps := ["good"]) fun _ _ _ _ _ _ us hl => match us, hl with | [_], _ => rfl⟩
  have F14 := fun_mk (st := s_number_from) l14 c14 k14
  have D_number_from : Dfn K mg "number_from" s_number_from ["words", "at", "least", "most"] := ⟨_, _, F14, PySem.W.mg_of X G a14, F14.binds (ps := ["words", "at", "least", "most"]) fun _ _ _ _ _ _ us hl => match us, hl with | [_, _, _, _], _ => rfl⟩
  have F15 := fun_mk (st := s_Draft_box) l15 c15 k15
  have D_Draft_box : MDfn K CDraft "box" "Draft.box" s_Draft_box ["self", "words"] := ⟨_, _, F15, cl_Draft, ⟨a15, i15, k15⟩, F15.binds (ps := ["self", "words"]) fun _ _ _ _ _ _ us hl => match us, hl with | [_, _], _ => rfl⟩
  have F16 := fun_mk (st := s_Draft_whole) l16 c16 k16
  have D_Draft_whole : MDfn K CDraft "whole" "Draft.whole" s_Draft_whole ["self"] := ⟨_, _, F16, cl_Draft, ⟨a16, i16, k16⟩, F16.binds (ps := ["self"]) fun _ _ _ _ _ _ us hl => match us, hl with | [_], _ => rfl⟩
  have F17 := fun_mk (st := s_place_from) l17 c17 k17
  have D_place_from : Dfn K mg "place_from" s_place_from ["words", "at", "names"] := ⟨_, _, F17, PySem.W.mg_of X G a17, F17.binds (ps := ["words", "at", "names"]) fun _ _ _ _ _ _ us hl => match us, hl with | [_, _, _], _ => rfl⟩
  have F18 := fun_mk (st := s_Draft_door) l18 c18 k18
  have D_Draft_door : MDfn K CDraft "door" "Draft.door" s_Draft_door ["self", "words"] := ⟨_, _, F18, cl_Draft, ⟨a18, i18, k18⟩, F18.binds (ps := ["self", "words"]) fun _ _ _ _ _ _ us hl => match us, hl with | [_, _], _ => rfl⟩
  have F19 := fun_mk (st := s_read_deed) l19 c19 k19
  have D_read_deed : Dfn K mg "read_deed" s_read_deed ["text", "boxes", "events"] := ⟨_, _, F19, PySem.W.mg_of X G a19, F19.binds (ps := ["text", "boxes", "events"]) fun _ _ _ _ _ _ us hl => match us, hl with | [_, _, _], _ => rfl⟩
  have F20 := fun_mk (st := s_Draft_going) l20 c20 k20
  have D_Draft_going : MDfn K CDraft "going" "Draft.going" s_Draft_going ["self", "word", "text"] := ⟨_, _, F20, cl_Draft, ⟨a20, i20, k20⟩, F20.binds (ps := ["self", "word", "text"]) fun _ _ _ _ _ _ us hl => match us, hl with | [_, _, _], _ => rfl⟩
  have F21 := fun_mk (st := s_Draft_happening) l21 c21 k21
  have D_Draft_happening : MDfn K CDraft "happening" "Draft.happening" s_Draft_happening ["self", "words"] := ⟨_, _, F21, cl_Draft, ⟨a21, i21, k21⟩, F21.binds (ps := ["self", "words"]) fun _ _ _ _ _ _ us hl => match us, hl with | [_, _], _ => rfl⟩
  have F22 := fun_mk (st := s_Draft_head) l22 c22 k22
  have D_Draft_head : MDfn K CDraft "head" "Draft.head" s_Draft_head ["self", "words"] := ⟨_, _, F22, cl_Draft, ⟨a22, i22, k22⟩, F22.binds (ps := ["self", "words"]) fun _ _ _ _ _ _ us hl => match us, hl with | [_, _], _ => rfl⟩
  have F23 := fun_mk (st := s_guard_from) l23 c23 k23
  have D_guard_from : Dfn K mg "guard_from" s_guard_from ["words", "at", "high", "boxes", "rooms"] := ⟨_, _, F23, PySem.W.mg_of X G a23, F23.binds (ps := ["words", "at", "high", "boxes", "rooms"]) fun _ _ _ _ _ _ us hl => match us, hl with | [_, _, _, _, _], _ => rfl⟩
  have F24 := fun_mk (st := s_read_guard) l24 c24 k24
  have D_read_guard : Dfn K mg "read_guard" s_read_guard ["text", "boxes", "rooms"] := ⟨_, _, F24, PySem.W.mg_of X G a24, F24.binds (ps := ["text", "boxes", "rooms"]) fun _ _ _ _ _ _ us hl => match us, hl with | [_, _, _], _ => rfl⟩
  have F25 := fun_mk (st := s_Draft_passing) l25 c25 k25
  have D_Draft_passing : MDfn K CDraft "passing" "Draft.passing" s_Draft_passing ["self", "word", "text"] := ⟨_, _, F25, cl_Draft, ⟨a25, i25, k25⟩, F25.binds (ps := ["self", "word", "text"]) fun _ _ _ _ _ _ us hl => match us, hl with | [_, _, _], _ => rfl⟩
  have F26 := fun_mk (st := s_Draft_fits) l26 c26 k26
  have D_Draft_fits : MDfn K CDraft "fits" "Draft.fits" s_Draft_fits ["self", "depth"] := ⟨_, _, F26, cl_Draft, ⟨a26, i26, k26⟩, F26.binds (ps := ["self", "depth"]) fun _ _ _ _ _ _ us hl => match us, hl with | [_, _], _ => rfl⟩
  have F27 := fun_mk (st := s_Draft_room) l27 c27 k27
  have D_Draft_room : MDfn K CDraft "room" "Draft.room" s_Draft_room ["self", "row"] := ⟨_, _, F27, cl_Draft, ⟨a27, i27, k27⟩, F27.binds (ps := ["self", "row"]) fun _ _ _ _ _ _ us hl => match us, hl with | [_, _], _ => rfl⟩
  have F28 := fun_mk (st := s_Draft_take) l28 c28 k28
  have D_Draft_take : MDfn K CDraft "take" "Draft.take" s_Draft_take ["self", "row"] := ⟨_, _, F28, cl_Draft, ⟨a28, i28, k28⟩, F28.binds (ps := ["self", "row"]) fun _ _ _ _ _ _ us hl => match us, hl with | [_, _], _ => rfl⟩
  have F29 := fun_mk (st := s_Draft_told) l29 c29 k29
  have D_Draft_told : MDfn K CDraft "told" "Draft.told" s_Draft_told ["self"] := ⟨_, _, F29, cl_Draft, ⟨a29, i29, k29⟩, F29.binds (ps := ["self"]) fun _ _ _ _ _ _ us hl => match us, hl with | [_], _ => rfl⟩
  have F30 := fun_mk (st := s_read) l30 c30 k30
  have D_read : Dfn K mg "read" s_read ["text"] := ⟨_, _, F30, PySem.W.mg_of X G a30, F30.binds (ps := ["text"]) fun _ _ _ _ _ _ us hl => match us, hl with | [_], _ => rfl⟩
  have F31 := fun_mk (st := s__law_read) l31 c31 k31
  have D__law_read : Dfn K mg "_law_read" s__law_read ["_law_text"] := ⟨_, _, F31, PySem.W.mg_of X G a31, F31.binds (ps := ["_law_text"]) fun _ _ _ _ _ _ us hl => match us, hl with | [_], _ => rfl⟩
  have F32 := fun_mk (st := s__law_right) l32 c32 k32
  have D__law_right : Dfn K mg "_law_right" s__law_right ["_law_found", "_law_halls_here", "_law_entries_here", "_law_names"] := ⟨_, _, F32, PySem.W.mg_of X G a32, F32.binds (ps := ["_law_found", "_law_halls_here", "_law_entries_here", "_law_names"]) fun _ _ _ _ _ _ us hl => match us, hl with | [_, _, _, _], _ => rfl⟩
  have F33 := fun_mk (st := s_law) l33 c33 k33
  have D_law : Dfn K mg "law" s_law ["_law_script"] := ⟨_, _, F33, PySem.W.mg_of X G a33, F33.binds (ps := ["_law_script"]) fun _ _ _ _ _ _ us hl => match us, hl with | [_], _ => rfl⟩
  refine ⟨PySem.W.fnOf "law" "law" (defArgs s_law) (defBody s_law) (defScope s_law) .none kV33 dc33 pm33 an33 cd33 ct33, fun s v => .of_eq rfl, fun base _ _ => ?_⟩
  have xi_Unread := c_Unread___init__ (P := l.prog) (w := w) (base := base) (ca := (fun n => match n with | 3 => CDraft | 14 => CNoWords | _ => CUnread)) ⟨⟨_, _, Fi_Unread, mc_Unread, iA_Unread, iT_Unread, Fi_Unread.binds (ps := ["self", "row"]) fun _ _ _ _ _ _ us hl => match us, hl with | [_, _], _ => rfl⟩, oexC_of xq_Unread hd_Unread xs_Unread sb_Unread ty_Unread kx_Unread, xn_Unread⟩
  have xh_Unread := ch_Unread___init__ (P := l.prog) (w := w) (base := base) (ca := (fun n => match n with | 3 => CDraft | 14 => CNoWords | _ => CUnread)) ⟨⟨_, _, Fi_Unread, mc_Unread, iA_Unread, iT_Unread, Fi_Unread.binds (ps := ["self", "row"]) fun _ _ _ _ _ _ us hl => match us, hl with | [_, _], _ => rfl⟩, oexC_of xq_Unread hd_Unread xs_Unread sb_Unread ty_Unread kx_Unread, xn_Unread⟩
  have C__law_fits := c__law_fits (P := l.prog) (w := w) (mg := mg) (base := base) D__law_fits
  have C__law_due := c__law_due (P := l.prog) (w := w) (mg := mg) (base := base) D__law_due C__law_fits z_len z_range
  have C__law_cell_at := c__law_cell_at (P := l.prog) (w := w) (mg := mg) (base := base) D__law_cell_at z_len
  have C__law_mixed := c__law_mixed (P := l.prog) (w := w) (mg := mg) (base := base) D__law_mixed C__law_cell_at z_len z_max
  have C__law_entries := c__law_entries (P := l.prog) (w := w) (mg := mg) (base := base) D__law_entries C__law_mixed z_len z_range
  have C__law_depth := c__law_depth (P := l.prog) (w := w) (mg := mg) (base := base) D__law_depth z_len z_max
  have C__law_halls := c__law_halls (P := l.prog) (w := w) (mg := mg) (base := base) D__law_halls C__law_depth C__law_mixed z_len z_max z_range
  have C__law_name := c__law_name (P := l.prog) (w := w) (mg := mg) (base := base) D__law_name z_len
  have M_Draft___init__ := c_Draft___init__ (P := l.prog) (w := w) (mg := mg) (base := base) (ca := (fun n => match n with | 3 => CDraft | 14 => CNoWords | _ => CUnread)) D_Draft___init__ cl_Draft na_Draft_boxes na_Draft_doors na_Draft_events na_Draft_heads na_Draft_last na_Draft_rooms
  have C_is_word := c_is_word (P := l.prog) (w := w) (mg := mg) (base := base) D_is_word z_len k_LETTERS
  have C_names_of := c_names_of (P := l.prog) (w := w) (mg := mg) (base := base) D_names_of
  have C_read_number := c_read_number (P := l.prog) (w := w) (mg := mg) (base := base) (ca := (fun n => match n with | 3 => CDraft | 14 => CNoWords | _ => CUnread)) D_read_number z_int k_FIGURES xc_NoWords
  have C_sure := c_sure (P := l.prog) (w := w) (mg := mg) (base := base) (ca := (fun n => match n with | 3 => CDraft | 14 => CNoWords | _ => CUnread)) D_sure xc_NoWords
  have C_number_from := c_number_from (P := l.prog) (w := w) (mg := mg) (base := base) (ca := (fun n => match n with | 3 => CDraft | 14 => CNoWords | _ => CUnread)) D_number_from C_read_number C_sure z_len
  have M_Draft_box := c_Draft_box (P := l.prog) (w := w) (mg := mg) (base := base) (ca := (fun n => match n with | 3 => CDraft | 14 => CNoWords | _ => CUnread)) D_Draft_box C_is_word C_names_of C_number_from C_sure z_len k_FAR cl_Draft na_Draft_boxes na_Draft_events na_Draft_rooms
  have M_Draft_whole := c_Draft_whole (P := l.prog) (w := w) (mg := mg) (base := base) (ca := (fun n => match n with | 3 => CDraft | 14 => CNoWords | _ => CUnread)) D_Draft_whole z_len cl_Draft na_Draft_rooms
  have C_place_from := c_place_from (P := l.prog) (w := w) (mg := mg) (base := base) (ca := (fun n => match n with | 3 => CDraft | 14 => CNoWords | _ => CUnread)) D_place_from C_sure z_len
  have M_Draft_door := c_Draft_door (P := l.prog) (w := w) (mg := mg) (base := base) (ca := (fun n => match n with | 3 => CDraft | 14 => CNoWords | _ => CUnread)) D_Draft_door C_names_of C_place_from C_sure z_len M_Draft_whole cl_Draft na_Draft_doors na_Draft_events na_Draft_rooms
  have C_read_deed := c_read_deed (P := l.prog) (w := w) (mg := mg) (base := base) (ca := (fun n => match n with | 3 => CDraft | 14 => CNoWords | _ => CUnread)) D_read_deed C_is_word C_names_of C_number_from C_place_from C_sure z_len z_list k_FAR
  have M_Draft_going := c_Draft_going (P := l.prog) (w := w) (mg := mg) (base := base) (ca := (fun n => match n with | 3 => CDraft | 14 => CNoWords | _ => CUnread)) D_Draft_going C_read_deed C_sure z_len cl_Draft na_Draft_boxes na_Draft_events na_Draft_last na_Draft_rooms
  have M_Draft_happening := c_Draft_happening (P := l.prog) (w := w) (mg := mg) (base := base) (ca := (fun n => match n with | 3 => CDraft | 14 => CNoWords | _ => CUnread)) D_Draft_happening C_is_word C_sure z_len cl_Draft na_Draft_events na_Draft_rooms
  have M_Draft_head := c_Draft_head (P := l.prog) (w := w) (mg := mg) (base := base) (ca := (fun n => match n with | 3 => CDraft | 14 => CNoWords | _ => CUnread)) D_Draft_head C_number_from C_sure z_len cl_Draft na_Draft_heads
  have C_guard_from := c_guard_from (P := l.prog) (w := w) (mg := mg) (base := base) (ca := (fun n => match n with | 3 => CDraft | 14 => CNoWords | _ => CUnread)) D_guard_from C_number_from C_place_from C_sure z_len k_FAR
  have C_read_guard := c_read_guard (P := l.prog) (w := w) (mg := mg) (base := base) (ca := (fun n => match n with | 3 => CDraft | 14 => CNoWords | _ => CUnread)) D_read_guard C_guard_from C_names_of C_sure z_len
  have M_Draft_passing := c_Draft_passing (P := l.prog) (w := w) (mg := mg) (base := base) (ca := (fun n => match n with | 3 => CDraft | 14 => CNoWords | _ => CUnread)) D_Draft_passing C_read_deed C_read_guard C_sure z_len cl_Draft na_Draft_boxes na_Draft_doors na_Draft_events na_Draft_last na_Draft_rooms
  have M_Draft_fits := c_Draft_fits (P := l.prog) (w := w) (mg := mg) (base := base) (ca := (fun n => match n with | 3 => CDraft | 14 => CNoWords | _ => CUnread)) D_Draft_fits z_len cl_Draft na_Draft_rooms
  have M_Draft_room := c_Draft_room (P := l.prog) (w := w) (mg := mg) (base := base) (ca := (fun n => match n with | 3 => CDraft | 14 => CNoWords | _ => CUnread)) D_Draft_room C_is_word C_names_of C_sure z_len M_Draft_fits cl_Draft na_Draft_doors na_Draft_rooms
  have M_Draft_take := c_Draft_take (P := l.prog) (w := w) (mg := mg) (base := base) (ca := (fun n => match n with | 3 => CDraft | 14 => CNoWords | _ => CUnread)) D_Draft_take z_len M_Draft_box M_Draft_door M_Draft_going M_Draft_happening M_Draft_head M_Draft_passing M_Draft_room cl_Draft na_Draft_heads na_Draft_last
  have M_Draft_told := c_Draft_told (P := l.prog) (w := w) (mg := mg) (base := base) (ca := (fun n => match n with | 3 => CDraft | 14 => CNoWords | _ => CUnread)) D_Draft_told z_tuple cl_Draft na_Draft_boxes na_Draft_doors na_Draft_events na_Draft_heads na_Draft_rooms
  have C_read := c_read (P := l.prog) (w := w) (mg := mg) (base := base) (ca := (fun n => match n with | 3 => CDraft | 14 => CNoWords | _ => CUnread)) D_read z_len z_range M_Draft___init__ M_Draft_take M_Draft_told M_Draft_whole em_NoWords_NoWords mc_NoWords mc_Unread xh_Unread xi_Unread
  have C__law_read := c__law_read (P := l.prog) (w := w) (mg := mg) (base := base) (ca := (fun n => match n with | 3 => CDraft | 14 => CNoWords | _ => CUnread)) D__law_read C_read em_Unread_Unread mc_Unread xf_Unread xn_Unread
  have C__law_right := c__law_right (P := l.prog) (w := w) (mg := mg) (base := base) D__law_right z_isinstance z_len z_range z_tuple
  exact law_spec (f_law (P := l.prog) (w := w) (base := base) (ca := (fun n => match n with | 3 => CDraft | 14 => CNoWords | _ => CUnread)) F33 C__law_due C__law_entries C__law_halls C__law_mixed C__law_name C__law_read C__law_right z_bool z_int z_isinstance z_len z_range) (hlaw _)
end Law
open PySem PySem.W PyProof.Rows
set_option maxRecDepth 100000 in
set_option maxHeartbeats 0 in
theorem PySem.Challenge.cw_nesthall_k56_rooms_that_fit_holds : PySem.Challenge.rw_nesthall_k56_rooms_that_fit.Holds := by
  w_on; o_law; k_head; (case hw => w_witness2)
  k_fill
  refine Vx.walk (l := PySem.Challenge.rw_nesthall_k56_rooms_that_fit) (k := 58) (x := "_law_script") rfl rfl ⟨rfl, by decide, by decide⟩ (fun w h Y => PySem.W.kIn_of Y) ?F
  case F =>
    intro w mg fa h KX G hmg
    refine' Law.all_mk KX G hmg ?aX_NoWords ?aX_Unread ?ex_NoWords ?kx_NoWords ?ty_NoWords ?sb_NoWords ?xn_Unread ?xq_Unread ?kx_Unread ?xs_Unread ?iA_Unread ?iT_Unread ?iL_Unread ?iC_Unread ?iK_Unread ?ty_Unread ?sb_Unread ?hg_Unread ?hk_Unread ?hd_NoWords ?hd_Unread ?su_NoWords_NoWords ?su_Unread_Unread ?aC_Draft ?a1 ?l1 ?c1 ?k1 ?a2 ?l2 ?c2 ?k2 ?a3 ?l3 ?c3 ?k3 ?a4 ?l4 ?c4 ?k4 ?a5 ?l5 ?c5 ?k5 ?a6 ?l6 ?c6 ?k6 ?a7 ?l7 ?c7 ?k7 ?a8 ?l8 ?c8 ?k8 ?a9 ?i9 ?l9 ?c9 ?k9 ?a10 ?l10 ?c10 ?k10 ?a11 ?l11 ?c11 ?k11 ?a12 ?l12 ?c12 ?k12 ?a13 ?l13 ?c13 ?k13 ?a14 ?l14 ?c14 ?k14 ?a15 ?i15 ?l15 ?c15 ?k15 ?a16 ?i16 ?l16 ?c16 ?k16 ?a17 ?l17 ?c17 ?k17 ?a18 ?i18 ?l18 ?c18 ?k18 ?a19 ?l19 ?c19 ?k19 ?a20 ?i20 ?l20 ?c20 ?k20 ?a21 ?i21 ?l21 ?c21 ?k21 ?a22 ?i22 ?l22 ?c22 ?k22 ?a23 ?l23 ?c23 ?k23 ?a24 ?l24 ?c24 ?k24 ?a25 ?i25 ?l25 ?c25 ?k25 ?a26 ?i26 ?l26 ?c26 ?k26 ?a27 ?i27 ?l27 ?c27 ?k27 ?a28 ?i28 ?l28 ?c28 ?k28 ?a29 ?i29 ?l29 ?c29 ?k29 ?a30 ?l30 ?c30 ?k30 ?a31 ?l31 ?c31 ?k31 ?a32 ?l32 ?c32 ?k32 ?a33 ?l33 ?c33 ?k33 ?pg_Draft ?hd_Draft ?po_Draft ?sa_Draft ?mk_Draft ?kc_Draft ?na_Draft_boxes ?na_Draft_doors ?na_Draft_events ?na_Draft_heads ?na_Draft_last ?na_Draft_rooms ?z_bool ?z_int ?z_isinstance ?z_len ?z_list ?z_max ?z_range ?z_tuple ?k_FAR ?k_FIGURES ?k_LETTERS Law.law_true
    (case aX_NoWords => k_is)
    (case aX_Unread => k_is)
    (case ex_NoWords => k_exc)
    (case kx_NoWords => k_is)
    (case ty_NoWords => k_is)
    (case sb_NoWords => k_is)
    (case xn_Unread => k_is)
    (case xq_Unread => kx_is)
    (case kx_Unread => k_is)
    (case xs_Unread => k_is)
    (case iA_Unread => k_is)
    (case iT_Unread => k_is)
    (case iL_Unread => k_is)
    (case iC_Unread => k_is)
    (case iK_Unread => k_is)
    (case ty_Unread => k_is)
    (case sb_Unread => k_is)
    (case hg_Unread => k_is)
    (case hk_Unread => k_is)
    (case hd_NoWords => k_is)
    (case hd_Unread => k_is)
    (case su_NoWords_NoWords => k_is)
    (case su_Unread_Unread => k_is)
    (case aC_Draft => k_is)
    (case a1 => k_is)
    (case l1 => k_is)
    (case c1 => k_is)
    (case k1 => k_is)
    (case a2 => k_is)
    (case l2 => k_is)
    (case c2 => k_is)
    (case k2 => k_is)
    (case a3 => k_is)
    (case l3 => k_is)
    (case c3 => k_is)
    (case k3 => k_is)
    (case a4 => k_is)
    (case l4 => k_is)
    (case c4 => k_is)
    (case k4 => k_is)
    (case a5 => k_is)
    (case l5 => k_is)
    (case c5 => k_is)
    (case k5 => k_is)
    (case a6 => k_is)
    (case l6 => k_is)
    (case c6 => k_is)
    (case k6 => k_is)
    (case a7 => k_is)
    (case l7 => k_is)
    (case c7 => k_is)
    (case k7 => k_is)
    (case a8 => k_is)
    (case l8 => k_is)
    (case c8 => k_is)
    (case k8 => k_is)
    (case a9 => k_is)
    (case i9 => k_is)
    (case l9 => k_is)
    (case c9 => k_is)
    (case k9 => k_is)
    (case a10 => k_is)
    (case l10 => k_is)
    (case c10 => k_is)
    (case k10 => k_is)
    (case a11 => k_is)
    (case l11 => k_is)
    (case c11 => k_is)
    (case k11 => k_is)
    (case a12 => k_is)
    (case l12 => k_is)
    (case c12 => k_is)
    (case k12 => k_is)
    (case a13 => k_is)
    (case l13 => k_is)
    (case c13 => k_is)
    (case k13 => k_is)
    (case a14 => k_is)
    (case l14 => k_is)
    (case c14 => k_is)
    (case k14 => k_is)
    (case a15 => k_is)
    (case i15 => k_is)
    (case l15 => k_is)
    (case c15 => k_is)
    (case k15 => k_is)
    (case a16 => k_is)
    (case i16 => k_is)
    (case l16 => k_is)
    (case c16 => k_is)
    (case k16 => k_is)
    (case a17 => k_is)
    (case l17 => k_is)
    (case c17 => k_is)
    (case k17 => k_is)
    (case a18 => k_is)
    (case i18 => k_is)
    (case l18 => k_is)
    (case c18 => k_is)
    (case k18 => k_is)
    (case a19 => k_is)
    (case l19 => k_is)
    (case c19 => k_is)
    (case k19 => k_is)
    (case a20 => k_is)
    (case i20 => k_is)
    (case l20 => k_is)
    (case c20 => k_is)
    (case k20 => k_is)
    (case a21 => k_is)
    (case i21 => k_is)
    (case l21 => k_is)
    (case c21 => k_is)
    (case k21 => k_is)
    (case a22 => k_is)
    (case i22 => k_is)
    (case l22 => k_is)
    (case c22 => k_is)
    (case k22 => k_is)
    (case a23 => k_is)
    (case l23 => k_is)
    (case c23 => k_is)
    (case k23 => k_is)
    (case a24 => k_is)
    (case l24 => k_is)
    (case c24 => k_is)
    (case k24 => k_is)
    (case a25 => k_is)
    (case i25 => k_is)
    (case l25 => k_is)
    (case c25 => k_is)
    (case k25 => k_is)
    (case a26 => k_is)
    (case i26 => k_is)
    (case l26 => k_is)
    (case c26 => k_is)
    (case k26 => k_is)
    (case a27 => k_is)
    (case i27 => k_is)
    (case l27 => k_is)
    (case c27 => k_is)
    (case k27 => k_is)
    (case a28 => k_is)
    (case i28 => k_is)
    (case l28 => k_is)
    (case c28 => k_is)
    (case k28 => k_is)
    (case a29 => k_is)
    (case i29 => k_is)
    (case l29 => k_is)
    (case c29 => k_is)
    (case k29 => k_is)
    (case a30 => k_is)
    (case l30 => k_is)
    (case c30 => k_is)
    (case k30 => k_is)
    (case a31 => k_is)
    (case l31 => k_is)
    (case c31 => k_is)
    (case k31 => k_is)
    (case a32 => k_is)
    (case l32 => k_is)
    (case c32 => k_is)
    (case k32 => k_is)
    (case a33 => k_is)
    (case l33 => k_is)
    (case c33 => k_is)
    (case k33 => k_is)
    (case pg_Draft => k_is)
    (case hd_Draft => k_is)
    (case po_Draft => k_is)
    (case sa_Draft => k_is)
    (case mk_Draft => k_is)
    (case kc_Draft => k_is)
    (case na_Draft_boxes => k_is)
    (case na_Draft_doors => k_is)
    (case na_Draft_events => k_is)
    (case na_Draft_heads => k_is)
    (case na_Draft_last => k_is)
    (case na_Draft_rooms => k_is)
    (case z_bool => k_is)
    (case z_int => k_is)
    (case z_isinstance => k_is)
    (case z_len => k_is)
    (case z_list => k_is)
    (case z_max => k_is)
    (case z_range => k_is)
    (case z_tuple => k_is)
    (case k_FAR => k_is)
    (case k_FIGURES => k_is)
    (case k_LETTERS => k_is)
