import PyProof.Rows.All
import Wide.All
import OpenK.AllK
import Wide.FinOn
import PyProof.P3Statements
import PyProof.StrCalls6
import PyProof.StrBlockL
import PyProof.FitsReplace
import PyProof.StrLawsFirst
import HandS.ForMost
import HandS.Wide
import HandS.IsInst
import HandS.Rev
import HandS.Style
import HandS.TupAny
import HandS.StrMore
import HandS.Deep
import HandS.WideBits
import HandS.More
import HandS.Zip
import HandS.Small
import HandS.SetFor
import HandS.RevRange
import KE.GoesMore
import KE.GoesEnum
import PySem.Challenge.RW_nesthall_k24_a_door_closes_what_it_opene
set_option Elab.async false
set_option linter.all false
set_option maxRecDepth 100000
/-! VSem: values without a heap, and what statements and expressions of the text do with them. No program in sight. -/
namespace Vx
open PySem

/-- a value; obj n: the n-th object of the store -/
inductive D where
  | non | bl (b : Bool) | int (i : Int) | str (x : Str) | tup (xs : List D) | lst (xs : List D) | dic (kvs : List (D × D)) | obj (n : Nat)
  deriving Inhabited

def D.isMut : D → Bool
  | .lst _ => true
  | .dic _ => true
  | _ => false
/-- an object of the store: an instance of the class at C, a list, a dict -/
inductive Ob where
  | ins (C : Nat) (fs : List (Str × D)) | lst (xs : List D) | dic (kvs : List (D × D))

abbrev Sto := List Ob
abbrev Sl := List (Option D)

/-- an exception: its class, its field -/
structure Ex where
  cls : Nat
  fs : List (Str × D)

inductive R (α : Type) where
  | ok (a : α) (s : Sto) | ex (e : Ex) (s : Sto) | no

def R.Sat {α : Type} (r : R α) (P : α → Sto → Prop) (E : Ex → Sto → Prop) : Prop := match r with
  | .ok a s => P a s
  | .ex e s => E e s
  | .no => False
def R.bind {α β : Type} (r : R α) (k : α → Sto → R β) : R β := match r with
  | .ok a s => k a s
  | .ex e s => .ex e s
  | .no => .no
theorem R.sat_bind {α β : Type} {r : R α} {k : α → Sto → R β} {P : β → Sto → Prop} {E : Ex → Sto → Prop} : (r.bind k).Sat P E ↔ r.Sat (fun a s => (k a s).Sat P E) E := by
  cases r <;> exact Iff.rfl
theorem R.Sat.imp {α : Type} {r : R α} {P P' : α → Sto → Prop} {E E' : Ex → Sto → Prop} (h : r.Sat P E) (hP : ∀ a s, P a s → P' a s) (hE : ∀ e s, E e s → E' e s) : r.Sat P' E' := by
  cases r with
  | ok a s => exact hP a s h
  | ex e s => exact hE e s h
  | no => exact h
@[simp] theorem R.bind_ok {α β : Type} (a : α) (s : Sto) (k : α → Sto → R β) : (R.ok a s).bind k = k a s := rfl
@[simp] theorem R.bind_ex {α β : Type} (e : Ex) (s : Sto) (k : α → Sto → R β) : (R.ex e s).bind k = .ex e s := rfl
@[simp] theorem R.bind_no {α β : Type} (k : α → Sto → R β) : (R.no : R α).bind k = .no := rfl

/-- nothing is raised -/
def R.nox {α : Type} (r : R α) : R α := match r with
  | .ok a s => .ok a s
  | _ => .no
@[simp] theorem R.nox_ok {α : Type} (a : α) (s : Sto) : (R.ok a s).nox = .ok a s := rfl
@[simp] theorem R.nox_no {α : Type} : (R.no : R α).nox = .no := rfl
theorem R.sat_nox {α : Type} {r : R α} {P : α → Sto → Prop} {E E' : Ex → Sto → Prop} (h : r.nox.Sat P E) : r.Sat P E' := by
  cases r with
  | ok a s => exact h
  | ex e s => exact False.elim h
  | no => exact h
/-- how a statement ends -/
inductive Fl where
  | nx (l : Sl) (s : Sto) | rt (d : D) (s : Sto) | bk (l : Sl) (s : Sto) | ct (l : Sl) (s : Sto) | ex (e : Ex) (l : Sl) (s : Sto) | no
def Fl.then (f : Fl) (k : Sl → Sto → Fl) : Fl := match f with
  | .nx l s => k l s
  | f => f
@[simp] theorem Fl.then_nx (l : Sl) (s : Sto) (k : Sl → Sto → Fl) : (Fl.nx l s).then k = k l s := rfl
@[simp] theorem Fl.then_rt (d : D) (s : Sto) (k : Sl → Sto → Fl) : (Fl.rt d s).then k = .rt d s := rfl
@[simp] theorem Fl.then_bk (l : Sl) (s : Sto) (k : Sl → Sto → Fl) : (Fl.bk l s).then k = .bk l s := rfl
@[simp] theorem Fl.then_ct (l : Sl) (s : Sto) (k : Sl → Sto → Fl) : (Fl.ct l s).then k = .ct l s := rfl
@[simp] theorem Fl.then_ex (e : Ex) (l : Sl) (s : Sto) (k : Sl → Sto → Fl) : (Fl.ex e l s).then k = .ex e l s := rfl
@[simp] theorem Fl.then_no (k : Sl → Sto → Fl) : Fl.no.then k = .no := rfl
/-- an expression's end, within a statement -/
def R.fl {α : Type} (r : R α) (l : Sl) (k : α → Sto → Fl) : Fl := match r with
  | .ok a s => k a s
  | .ex e s => .ex e l s
  | .no => .no
@[simp] theorem R.fl_ok {α : Type} (a : α) (s : Sto) (l : Sl) (k : α → Sto → Fl) : (R.ok a s).fl l k = k a s := rfl
@[simp] theorem R.fl_ex {α : Type} (e : Ex) (s : Sto) (l : Sl) (k : α → Sto → Fl) : (R.ex e s : R α).fl l k = .ex e l s := rfl
@[simp] theorem R.fl_no {α : Type} (l : Sl) (k : α → Sto → Fl) : (R.no : R α).fl l k = .no := rfl

abbrev FE := Sl → Sto → R D
abbrev FT := Sl → Sto → R Bool
abbrev FA := Sl → Sto → R (List D)
abbrev FS := Sl → Sto → Fl

/-! ### expressions -/
def mC (d : D) : FE := fun _ s => .ok d s
def mV (i : Nat) : FE := fun l s => match l[i]? with
  | some (some d) => .ok d s
  | _ => .no
def liftO {α : Type} (o : Option α) (s : Sto) : R α := match o with
  | some a => .ok a s
  | none => .no
@[simp] theorem liftO_some {α : Type} (a : α) (s : Sto) : liftO (some a) s = .ok a s := rfl
@[simp] theorem liftO_none {α : Type} (s : Sto) : liftO (none : Option α) s = .no := rfl
def mUn (g : D → Option D) (a : FE) : FE := fun l s => (a l s).bind fun x s => liftO (g x) s
def mBin (g : D → D → Option D) (a b : FE) : FE := fun l s => (a l s).bind fun x s => (b l s).bind fun y s => liftO (g x y) s
def mNil : FA := fun _ s => .ok [] s
def mCons (a : FE) (r : FA) : FA := fun l s => (a l s).bind fun x s => (r l s).bind fun xs s => .ok (x :: xs) s
def mArgs (g : List D → Option D) (a : FA) : FE := fun l s => (a l s).bind fun xs s => liftO (g xs) s
def mCall (m : List D → Sto → R D) (a : FA) : FE := fun l s => (a l s).bind fun xs s => (m xs s).nox

/-- .. that hands back a new list or dict, which is the caller's then -/
def mCallF (m : List D → Sto → R D) (a : FA) : FE := fun l s => (a l s).bind fun xs s => (m xs s).nox.bind fun d s => if d.isMut = true then .ok d s else .no

/-! ### tests -/
def gBl : D → Option Bool
  | .bl b => some b
  | _ => none
def mT (a : FE) : FT := fun l s => (a l s).bind fun x s => liftO (gBl x) s
def mNot (a : FT) : FT := fun l s => (a l s).bind fun b s => .ok (!b) s
def mAnd (a b : FT) : FT := fun l s => (a l s).bind fun x s => if x = true then b l s else .ok false s
def mOr (a b : FT) : FT := fun l s => (a l s).bind fun x s => if x = true then .ok true s else b l s
/-- and, or as values, all but the last True or False -/
def mAndV (a b : FE) : FE := fun l s => (a l s).bind fun x s => (liftO (gBl x) s).bind fun c s => if c = true then b l s else .ok (.bl false) s
def mOrV (a b : FE) : FE := fun l s => (a l s).bind fun x s => (liftO (gBl x) s).bind fun c s => if c = true then .ok (.bl true) s else b l s
def gNot : D → Option D
  | .bl b => some (.bl !b)
  | _ => none
/-- a < b < c -/
def mChain (g g' : D → D → Option D) (a b c : FE) : FE := fun l s => (a l s).bind fun x s => (b l s).bind fun y s => (liftO ((g x y).bind gBl) s).bind fun k s =>
  if k = true then (c l s).bind fun z s => liftO (g' y z) s else .ok (.bl false) s

/-! ### operators -/
def szOk (n : Nat) : Bool := decide (n ≤ 16777216)
def gAdd : D → D → Option D
  | .int i, .int j => some (.int (i + j))
  | .str x, .str y => if szOk (x.length + y.length) = true then some (.str (x ++ y)) else none
  | .tup xs, .tup ys => if szOk (xs.length + ys.length) = true then some (.tup (xs ++ ys)) else none
  | .lst xs, .lst ys => if szOk (xs.length + ys.length) = true then some (.lst (xs ++ ys)) else none
  | _, _ => none
/-- += of ints -/
def gAddI : D → D → Option D
  | .int i, .int j => some (.int (i + j))
  | _, _ => none
def gSub : D → D → Option D
  | .int i, .int j => some (.int (i - j))
  | _, _ => none
def gMul : D → D → Option D
  | .int i, .int j => if (decide (i.natAbs < 2 ^ 64) || decide (j.natAbs < 2 ^ 64)) = true then some (.int (i * j)) else none
  | _, _ => none
def gDiv : D → D → Option D
  | .int i, .int j => if (decide (0 < j) && decide (j < 1073741824)) = true then some (.int (i / j)) else none
  | _, _ => none
def gMod : D → D → Option D
  | .int i, .int j => if 0 < j then some (.int (i % j)) else none
  | _, _ => none
def gPow : D → D → Option D
  | .int i, .int j => if (decide (0 ≤ j) && decide (j ≤ 1000000) && decide (i.natAbs < 2 ^ 64)) = true then some (.int (i ^ j.toNat)) else none
  | _, _ => none
def gShr : D → D → Option D
  | .int i, .int j => if 0 ≤ j then some (.int (i / 2 ^ j.toNat)) else none
  | _, _ => none
/-- & with 2147483647 alone -/
def gMask : D → D → Option D
  | .int i, .int j => if j = 2147483647 then some (.int (i % 2147483648)) else none
  | _, _ => none
def gNeg : D → Option D
  | .int i => some (.int (-i))
  | _ => none
def gLt : D → D → Option D
  | .int i, .int j => some (.bl (decide (i < j)))
  | _, _ => none
def gLe : D → D → Option D
  | .int i, .int j => some (.bl (decide (i ≤ j)))
  | _, _ => none
def gGt : D → D → Option D
  | .int i, .int j => some (.bl (decide (j < i)))
  | _, _ => none
def gGe : D → D → Option D
  | .int i, .int j => some (.bl (decide (j ≤ i)))
  | _, _ => none

/-! ### == -/
mutual
/-- data that == reads: no dict, no object; texts of true signs -/
def D.pl : D → Bool
  | .non | .bl _ | .int _ => true
  | .str x => x.cps.all fun c => decide (c < 128)
  | .tup xs => D.plAll xs
  | .lst xs => D.plAll xs
  | .dic _ | .obj _ => false
def D.plAll : List D → Bool
  | [] => true
  | x :: xs => D.pl x && D.plAll xs
end
mutual
def D.dep : D → Nat
  | .tup xs | .lst xs => D.depAll xs + 1
  | _ => 0
def D.depAll : List D → Nat
  | [] => 0
  | x :: xs => max (D.dep x) (D.depAll xs)
end
mutual
def D.eqv : D → D → Bool
  | .non, .non => true
  | .bl a, .bl b => a == b
  | .bl a, .int j => (if a then 1 else 0) == j
  | .int i, .bl b => i == (if b then 1 else 0)
  | .int i, .int j => i == j
  | .str x, .str y => x == y
  | .lst xs, .lst ys => D.eqvAll xs ys
  | .tup xs, .tup ys => D.eqvAll xs ys
  | _, _ => false
def D.eqvAll : List D → List D → Bool
  | [], [] => true
  | x :: xs, y :: ys => D.eqv x y && D.eqvAll xs ys
  | _, _ => false
end
/-- what == may be asked of -/
def D.shp (d : D) : Bool := D.pl d && decide (D.dep d ≤ 64)
/-- a value that is no list, tuple, dict or object -/
def D.flat : D → Bool
  | .non | .bl _ | .int _ | .str _ => true
  | _ => false
def D.isStr : D → Bool
  | .str _ => true
  | _ => false
def D.eqOk (x y : D) : Bool := (D.isStr x && D.isStr y) || (D.shp x && D.shp y)
def gEq (x y : D) : Option D := if D.eqOk x y = true then some (.bl (D.eqv x y)) else none
def gNe (x y : D) : Option D := if D.eqOk x y = true then some (.bl (!D.eqv x y)) else none
def D.isNon : D → Bool
  | .non => true
  | _ => false
/-- is None; is True, is False of a truth -/
def gIs : D → D → Option D
  | x, .non => some (.bl x.isNon)
  | .bl b, .bl c => some (.bl (b == c))
  | _, _ => none
def gIsNot : D → D → Option D
  | x, .non => some (.bl (!x.isNon))
  | .bl b, .bl c => some (.bl (!(b == c)))
  | _, _ => none
/-- the sign c stands in a text -/
def gIn : D → D → Option D
  | x, .lst ys => if (D.flat x && ys.all D.flat || D.shp x && D.shp (.lst ys)) = true then some (.bl (ys.any fun y => D.eqv y x)) else none
  | x, .tup ys => if (D.flat x && ys.all D.flat) = true then some (.bl (ys.any fun y => D.eqv y x)) else none
  | .str x, .str y => match x.cps.toList with
    | [c] => some (.bl (decide (c ∈ y.cps.toList)))
    | _ => none
  | _, _ => none
def gNotIn (x y : D) : Option D := (gIn x y).bind gNot

/-! ### items, slices -/
def ixI (n : Nat) (i : Int) : Option Nat := if 0 ≤ i then (if i < n then some i.toNat else none) else if -(n : Int) ≤ i then some (i + n).toNat else none
def gIx : D → D → Option D
  | .lst xs, .int i => (ixI xs.length i).bind fun j => xs[j]?
  | .tup xs, .int i => (ixI xs.length i).bind fun j => xs[j]?
  | .str x, .int i => if szOk x.length = true then (ixI x.length i).bind fun j => (x.cps[j]?).map fun c => .str ⟨#[c]⟩ else none
  | _, _ => none
/-- a slice's bound, within 0 .. n -/
def sIx (n d : Nat) : Option Int → Nat
  | none => d
  | some v => if v < 0 then (v + n).toNat else min v.toNat n
def cutD {α : Type} (xs : List α) (lo hi : Option Int) : List α := (xs.drop (sIx xs.length 0 lo)).take (sIx xs.length xs.length hi - sIx xs.length 0 lo)
def gCut : D → Option Int → Option Int → Option D
  | .lst xs, lo, hi => some (.lst (cutD xs lo hi))
  | .tup xs, lo, hi => some (.tup (cutD xs lo hi))
  | .str x, lo, hi => if szOk x.length = true then some (.str ⟨(cutD x.cps.toList lo hi).toArray⟩) else none
  | _, _, _ => none
abbrev FO := Sl → Sto → R (Option Int)
def mNoO : FO := fun _ s => .ok none s
def mO (a : FE) : FO := fun l s => (a l s).bind fun x s => match x with
  | .int i => .ok (some i) s
  | _ => .no
/-- a list's slice is a new list -/
def gCutL : D → Option Int → Option Int → Option D
  | .lst xs, lo, hi => some (.lst (cutD xs lo hi))
  | _, _, _ => none
def mCutL (a : FE) (lo hi : FO) : FE := fun l s => (a l s).bind fun x s => (lo l s).bind fun i s => (hi l s).bind fun j s => liftO (gCutL x i j) s
/-- xs + ys, a new list -/
def gAddL : D → D → Option D
  | .lst xs, .lst ys => if szOk (xs.length + ys.length) = true then some (.lst (xs ++ ys)) else none
  | _, _ => none
def mCut (a : FE) (lo hi : FO) : FE := fun l s => (a l s).bind fun x s => (lo l s).bind fun i s => (hi l s).bind fun j s => liftO (gCut x i j) s

/-! ### displays -/
def mTup (a : FA) : FE := fun l s => (a l s).bind fun xs s => if szOk xs.length = true then .ok (.tup xs) s else .no
def mLst (a : FA) : FE := fun l s => (a l s).bind fun xs s => if szOk xs.length = true then .ok (.lst xs) s else .no

/-! ### built-in functions -/
def gLen : List D → Option D
  | [.lst xs] => some (.int xs.length)
  | [.tup xs] => some (.int xs.length)
  | [.str x] => if szOk x.length = true then some (.int x.length) else none
  | [.dic kvs] => some (.int kvs.length)
  | _ => none
def gMax2 : List D → Option D
  | [.int i, .int j] => some (.int (if j > i then j else i))
  | _ => none
def gMin2 : List D → Option D
  | [.int i, .int j] => some (.int (if j < i then j else i))
  | _ => none
def gInt1 : List D → Option D
  | [.int i] => some (.int i)
  | [.bl b] => some (.int (if b then 1 else 0))
  | _ => none
def gTuple : List D → Option D
  | [.lst xs] => some (.tup xs)
  | [.tup xs] => some (.tup xs)
  | _ => none
def gList : List D → Option D
  | [.lst xs] => some (.lst xs)
  | [.tup xs] => some (.lst xs)
  | _ => none
/-- isinstance(x, T), T a built-in class by its name -/
def D.isT (T : String) : D → Bool
  | .non => false
  | .bl _ => T == "bool" || T == "int"
  | .int _ => T == "int"
  | .str _ => T == "str"
  | .tup _ => T == "tuple"
  | .lst _ => T == "list"
  | .dic _ => T == "dict"
  | .obj _ => false

def gIsi (T : String) : D → Option D
  | .obj _ => none
  | .dic _ => none
  | d => some (.bl (d.isT T))
def strsJ : List D → Option (List Str)
  | [] => some []
  | .str i :: r => (strsJ r).map (i :: ·)
  | _ => none
def gJoin : Str → D → Option D
  | x, .lst ys => (strsJ ys).bind fun zs => if szOk ((zs.map (·.length)).sum + zs.length * x.length) = true then some (.str (Txt.join x zs)) else none
  | _, _ => none
def gFind : Str → D → Option D
  | x, .str y => some (.int (Txt.find x y))
  | _, _ => none
/-- more turns than any while here takes -/
def bigN : Nat := 10000000

/-! ### comprehensions -/
/-- one target name at slot i; a, b at slots i, j -/
def tg1 (i : Nat) : D → Sl → Option Sl := fun x l => some (l.set i (some x))
def tg2 (i j : Nat) : D → Sl → Option Sl := fun x l => match x with
  | .tup [a, b] => some ((l.set i (some a)).set j (some b))
  | _ => none
def wipeD (l : Sl) : List Nat → Sl
  | [] => l
  | v :: vs => (wipeD l vs).set v none
def mYes : FT := fun _ s => .ok true s
def compD (g : D → Sl → Option Sl) (t : FT) (e : FE) (l : Sl) : List D → List D → Sto → R D
  | [], acc, s => .ok (.lst acc) s
  | x :: xs, acc, s => match g x l with
    | none => .no
    | some l1 => (t l1 s).nox.bind fun b s => if b = true then (e l1 s).nox.bind fun y s => if acc.length < 16777216 then compD g t e l xs (acc ++ [y]) s else .no else compD g t e l xs acc s
def mComp (it : FA) (g : D → Sl → Option Sl) (t : FT) (e : FE) (vs : List Nat) : FE := fun l s => (it l s).bind fun xs s => compD g t e (wipeD l vs) xs [] s

/-! ### what is walked -/
def itSeq (a : FE) : FA := fun l s => (a l s).bind fun x s => match x with
  | .lst xs => .ok xs s
  | .tup xs => .ok xs s
  | _ => .no
def itStr (a : FE) : FA := fun l s => (a l s).bind fun x s => match x with
  | .str x => .ok (x.cps.toList.map fun c => .str ⟨#[c]⟩) s
  | _ => .no
def rgOk (i : Int) : Bool := decide (-(2 ^ 62) ≤ i) && decide (i < 2 ^ 62)
def rgD (i : Int) (n : Nat) : List D := (List.range n).map fun k => .int (i + (k : Nat))
def itRg1 (a : FA) : FA := fun l s => (a l s).bind fun xs s => match xs with
  | [.int j] => if rgOk j = true then .ok (rgD 0 j.toNat) s else .no
  | _ => .no
def itRg2 (a : FA) : FA := fun l s => (a l s).bind fun xs s => match xs with
  | [.int i, .int j] => if (rgOk i && rgOk j) = true then .ok (rgD i (j - i).toNat) s else .no
  | _ => .no
def itRev (a : FE) : FA := fun l s => (a l s).bind fun x s => match x with
  | .lst xs => .ok xs.reverse s
  | .tup xs => .ok xs.reverse s
  | _ => .no
def enumD (xs : List D) : List D := (List.range xs.length).zipWith (fun i x => .tup [.int (i : Nat), x]) xs
def itEnum (a : FE) : FA := fun l s => (a l s).bind fun x s => match x with
  | .lst xs => .ok (enumD xs) s
  | .tup xs => .ok (enumD xs) s
  | _ => .no

/-! ### statements -/
def sNil : FS := fun l s => .nx l s
def sSeq (a b : FS) : FS := fun l s => (a l s).then b
def sPass : FS := fun l s => .nx l s
def sBrk : FS := fun l s => .bk l s
def sCnt : FS := fun l s => .ct l s
def sSet (i : Nat) (a : FE) : FS := fun l s => (a l s).fl l fun x s => .nx (l.set i (some x)) s
/-- .. a new list, which is the frame's own -/
def sSetF (i : Nat) (a : FE) : FS := fun l s => (a l s).fl l fun x s => if i < l.length then .nx (l.set i (some x)) s else .no
def sTg (g : D → Sl → Option Sl) (a : FE) : FS := fun l s => (a l s).fl l fun x s => match g x l with
  | some l1 => .nx l1 s
  | none => .no
def sAug (g : D → D → Option D) (i : Nat) (a : FE) : FS := fun l s => match l[i]? with
  | some (some x) => (a l s).fl l fun y s => match g x y with
    | some z => .nx (l.set i (some z)) s
    | none => .no
  | _ => .no
def sExp (a : FE) : FS := fun l s => (a l s).fl l fun _ s => .nx l s
def sRet (a : FE) : FS := fun l s => (a l s).fl l fun x s => .rt x s
/-- .. a value that is no list -/
def sRetN' (a : FE) : FS := fun l s => (a l s).fl l fun x s => if x.isMut = true then .no else .rt x s
def sRetN : FS := fun _ s => .rt .non s
def sIf (c : FT) (a b : FS) : FS := fun l s => (c l s).fl l fun k s => if k = true then a l s else b l s
def forD (g : D → Sl → Option Sl) (b : FS) : List D → Sl → Sto → Fl
  | [], l, s => .nx l s
  | x :: xs, l, s => match g x l with
    | none => .no
    | some l1 => match b l1 s with
      | .nx l2 s2 => forD g b xs l2 s2
      | .ct l2 s2 => forD g b xs l2 s2
      | .bk l2 s2 => .nx l2 s2
      | f => f
def sFor (it : FA) (g : D → Sl → Option Sl) (b : FS) : FS := fun l s => (it l s).fl l fun xs s => forD g b xs l s
/-- n turns at most -/
def whileD (c : FT) (b : FS) : Nat → Sl → Sto → Fl
  | 0, _, _ => .no
  | n + 1, l, s => (c l s).fl l fun k s => if k = true then (match b l s with
      | .nx l2 s2 => whileD c b n l2 s2
      | .ct l2 s2 => whileD c b n l2 s2
      | .bk l2 s2 => .nx l2 s2
      | f => f) else .nx l s
/-- a while; n: more turns than are ever taken -/
def sWhile (n : Nat) (c : FT) (b : FS) : FS := fun l s => whileD c b n l s
/-- x.append(e), x an own list at slot i -/
def sApp (i : Nat) (a : FE) : FS := fun l s => match l[i]? with
  | some (some (.lst xs)) => (a l s).fl l fun y s => if xs.length < 16777216 then .nx (l.set i (some (.lst (xs ++ [y])))) s else .no
  | _ => .no
/-- x.extend(e) -/
def sExt (i : Nat) (a : FE) : FS := fun l s => match l[i]? with
  | some (some (.lst xs)) => (a l s).fl l fun y s => match y with
    | .lst ys => if szOk (xs.length + ys.length) = true then .nx (l.set i (some (.lst (xs ++ ys)))) s else .no
    | _ => .no
  | _ => .no
/-- x[k] = e, x an own list at slot i: e first, then k -/
def sPut (i : Nat) (a k : FE) : FS := fun l s => match l[i]? with
  | some (some (.lst xs)) => (a l s).fl l fun y s => (k l s).fl l fun z s => match z with
    | .int n => (match ixI xs.length n with
      | some j => .nx (l.set i (some (.lst (xs.set j y)))) s
      | none => .no)
    | _ => .no
  | _ => .no

/-! ### a def -/
def startD (n : Nat) (ds : List D) : Sl := ds.map some ++ List.replicate (n - ds.length) none
/-- a def of n names, p of them parameters -/
def mDef (n p : Nat) (b : FS) : List D → Sto → R D := fun ds s => if ds.length = p then (match b (startD n ds) s with
  | .nx _ s => .ok .non s
  | .rt d s => .ok d s
  | .ex e _ s => .ex e s
  | _ => .no) else .no

/-- a text's method -/
def mSt (g : Str → D → Option D) (a b : FE) : FE := fun l s => (a l s).bind fun x s => match x with
  | .str z => (b l s).bind fun y s => liftO (g z y) s
  | _ => .no
def mSt0 (g : Str → Option D) (a : FE) : FE := fun l s => (a l s).bind fun x s => match x with
  | .str z => liftO (g z) s
  | _ => .no
/-! ### a list lent to a def: what comes back holds no list -/
mutual
def D.noMut : D → Bool
  | .lst _ => false
  | .dic _ => false
  | .tup xs => D.noMutAll xs
  | .non | .bl _ | .int _ | .str _ | .obj _ => true
def D.noMutAll : List D → Bool
  | [] => true
  | x :: xs => D.noMut x && D.noMutAll xs
end
def Ob.noMut : Ob → Bool
  | .ins _ fs => D.noMutAll (fs.map (·.2))
  | .lst xs => D.noMutAll xs
  | .dic kvs => D.noMutAll (kvs.map (·.2))
def stoNo (s : Sto) : Bool := s.all Ob.noMut
def mCallL (m : List D → Sto → R D) (a : FA) : FE := fun l s => (a l s).bind fun xs s => (m xs s).nox.bind fun d s => if (D.noMut d && stoNo s) = true then .ok d s else .no

/-! ### lists of ints, of texts -/
def intsD : List D → Option (List Int)
  | [] => some []
  | .int i :: r => (intsD r).map (i :: ·)
  | _ => none
def maxI : Int → List Int → Int
  | m, [] => m
  | m, n :: r => maxI (if m < n then n else m) r
def minI : Int → List Int → Int
  | m, [] => m
  | m, n :: r => minI (if n < m then n else m) r
def insI (i : Int) : List Int → List Int
  | [] => [i]
  | j :: r => if i ≤ j then i :: j :: r else j :: insI i r
def sortI : List Int → List Int
  | [] => []
  | i :: r => insI i (sortI r)
def gMax1 : List D → Option D
  | [.lst xs] => (intsD xs).bind fun ns => match ns with
    | [] => none
    | n :: r => some (.int (maxI n r))
  | _ => none
def gMin1 : List D → Option D
  | [.lst xs] => (intsD xs).bind fun ns => match ns with
    | [] => none
    | n :: r => some (.int (minI n r))
  | _ => none
def gSorted : List D → Option D
  | [.lst xs] => if xs.length < 64 then (intsD xs).map fun ns => .lst ((sortI ns).map .int) else none
  | _ => none

/-! ### a list's methods, as statements -/
/-- x.m(..), x an own list at slot i -/
def sMeth (g : List D → List D → Option (D × List D)) (i : Nat) (a : FA) : FS := fun l s => match l[i]? with
  | some (some (.lst xs)) => (a l s).fl l fun ys s => match g xs ys with
    | some (_, zs) => .nx (l.set i (some (.lst zs))) s
    | none => .no
  | _ => .no
/-- y = x.m(..), y at slot j -/
def sMethTo (g : List D → List D → Option (D × List D)) (j i : Nat) (a : FA) : FS := fun l s => match l[i]? with
  | some (some (.lst xs)) => (a l s).fl l fun ys s => match g xs ys with
    | some (y, zs) => .nx ((l.set i (some (.lst zs))).set j (some y)) s
    | none => .no
  | _ => .no
def gPop0 : List D → List D → Option (D × List D)
  | xs, [] => (xs[xs.length - 1]?).map fun y => (y, xs.dropLast)
  | _, _ => none
def gPop1 : List D → List D → Option (D × List D)
  | xs, [.int i] => if rgOk i = true then (ixI xs.length i).bind fun k => (xs[k]?).map fun y => (y, xs.eraseIdx k) else none
  | _, _ => none
def gInsert : List D → List D → Option (D × List D)
  | xs, [.int i, y] => if (szOk (xs.length + 1) && (decide (0 ≤ i) && rgOk i)) = true then some (.non, xs.take i.toNat ++ [y] ++ xs.drop i.toNat) else none
  | _, _ => none
def gClear : List D → List D → Option (D × List D)
  | _, [] => some (.non, [])
  | _, _ => none
def gReverse : List D → List D → Option (D × List D)
  | xs, [] => some (.non, xs.reverse)
  | _, _ => none
/-- tuple(reversed(x)), x a list -/
def gTupRev : D → Option D
  | .lst xs => some (.tup xs.reverse)
  | _ => none
/-- a, b, c, .. at slots is -/
def setAll : Sl → List Nat → List D → Sl
  | l, i :: is, x :: xs => setAll (l.set i (some x)) is xs
  | l, _, _ => l
def tgN (is : List Nat) : D → Sl → Option Sl := fun x l => match x with
  | .tup xs => if xs.length = is.length then some (setAll l is xs) else none
  | _ => none
/-- len(set(x)), x a list of unlike ints -/
def gLenSet : D → Option D
  | .lst xs => (intsD xs).bind fun ns => if (decide ns.Nodup && decide (ns.length ≤ 4000)) = true then some (.int (ns.length : Nat)) else none
  | _ => none
/-- list(reversed(x)), x a list -/
def gListRev : D → Option D
  | .lst xs => some (.lst xs.reverse)
  | _ => none
def zipD (xs ys : List D) : List D := List.zipWith (fun x y => .tup [x, y]) xs ys
def seqO : D → Option (List D)
  | .lst xs => some xs
  | .tup xs => some xs
  | _ => none
def lstO : D → Option (List D)
  | .lst xs => some xs
  | _ => none
/-- zip of two lists -/
def itZip (a b : FE) : FA := fun l s => (a l s).bind fun x s => (b l s).bind fun y s => (liftO (lstO x) s).bind fun xs s => (liftO (lstO y) s).bind fun ys s => .ok (zipD xs ys) s
/-! ### dicts: keys are ints or texts -/
def keyE : D → D → Bool
  | .int i, .int j => i == j
  | .str x, .str y => x == y
  | _, _ => false
def isKey : D → Bool
  | .int _ => true
  | .str _ => true
  | _ => false
def dgetL (kvs : List (D × D)) (k : D) : Option D := (kvs.find? fun p => keyE p.1 k).map (·.2)
def dputL (kvs : List (D × D)) (k v : D) : List (D × D) := if (kvs.any fun p => keyE p.1 k) = true then kvs.map (fun p => if keyE p.1 k = true then (p.1, v) else p) else kvs ++ [(k, v)]
def gDGet : D → D → Option D
  | .dic kvs, k => if isKey k = true then dgetL kvs k else none
  | _, _ => none
def gDIn : D → D → Option D
  | k, .dic kvs => if isKey k = true then some (.bl (dgetL kvs k).isSome) else none
  | _, _ => none
def gDNotIn : D → D → Option D
  | k, .dic kvs => if isKey k = true then some (.bl (!(dgetL kvs k).isSome)) else none
  | _, _ => none
/-- x[k] = e, x an own dict at slot i: e first, then k -/
def sPutD (i : Nat) (a k : FE) : FS := fun l s => match l[i]? with
  | some (some (.dic kvs)) => (a l s).fl l fun y s => (k l s).fl l fun z s => if (isKey z && decide (kvs.length < 16777216)) = true then .nx (l.set i (some (.dic (dputL kvs z y)))) s else .no
  | _ => .no
def itKeys (i : Nat) : FA := fun l s => match l[i]? with
  | some (some (.dic kvs)) => .ok (kvs.map (·.1)) s
  | _ => .no
def itItems (i : Nat) : FA := fun l s => match l[i]? with
  | some (some (.dic kvs)) => .ok (kvs.map fun p => .tup [p.1, p.2]) s
  | _ => .no
/-- nothing is raised -/
def Fl.nox (f : Fl) : Fl := match f with
  | .ex _ _ _ => .no
  | f => f
def sForN (it : FA) (g : D → Sl → Option Sl) (b : FS) : FS := fun l s => (sFor it g b l s).nox
/-- reversed(range(n)) -/
def itRevRg (a : FE) : FA := fun l s => (a l s).bind fun x s => match x with
  | .int n => if rgOk n = true then .ok (rgD 0 n.toNat).reverse s else .no
  | _ => .no
end Vx

/-! VRel: how the values without a heap stand in the abstract heap of the hand layer; which lists are a frame's own. -/
namespace Vx
open PySem PySem.Spec L2

theorem of_getElem?_set {α : Type} {l : List α} {i j : Nat} {a b : α} (h : (l.set i a)[j]? = some b) : (i = j ∧ b = a ∧ i < l.length) ∨ (i ≠ j ∧ l[j]? = some b) := by
  rw [List.getElem?_set] at h
  by_cases e : i = j
  · rw [if_pos e] at h
    by_cases hl : i < l.length
    · rw [if_pos hl] at h
      exact .inl ⟨e, (Option.some.inj h).symm, hl⟩
    · rw [if_neg hl] at h
      cases h
  · rw [if_neg e] at h
    exact .inr ⟨e, h⟩

/-! ### readings -/
/-- a list of the written part -/
def KL (K : PySem.W.Frag) (a : Addr) (vs : List V) : Prop := SqL K (fun _ => none) a vs
theorem KL.sq {K : PySem.W.Frag} {H : Hp} {a : Addr} {vs : List V} (h : KL K a vs) : SqL K H a vs := by
  rcases h with (h | ⟨o, h⟩) | h
  · cases h
  · cases h
  · exact .inr h
inductive RKey : D → Key → Prop
  | int (i : Int) : RKey (.int i) (.inl i)
  | str (x : Str) : RKey (.str x) (.inr x)
mutual
inductive RD (K : PySem.W.Frag) (N : Addr → Prop) (α : List Addr) (H : Hp) : D → V → Prop
  | non : RD K N α H .non .non
  | bl (b : Bool) : RD K N α H (.bl b) (.bl b)
  | int (i : Int) : RD K N α H (.int i) (.int i)
  | str (x : Str) : RD K N α H (.str x) (.str x)
  | tup {a : Addr} {ds : List D} {vs : List V} : ¬ N a → Rd H a (.tup vs) → RDs K N α H ds vs → RD K N α H (.tup ds) (.ref a)
  | lst {a : Addr} {ds : List D} {vs : List V} : ¬ N a → Rd H a (.lst vs) → RDs K N α H ds vs → RD K N α H (.lst ds) (.ref a)
  | lstK {a : Addr} {ds : List D} {vs : List V} : KL K a vs → RDs K N α H ds vs → RD K N α H (.lst ds) (.ref a)
  | dic {a : Addr} {ds : List (D × D)} {vs : List (Key × V)} : ¬ N a → Rd H a (.dK vs) → RKs K N α H ds vs → RD K N α H (.dic ds) (.ref a)
  | obj {n : Nat} {a : Addr} : α[n]? = some a → RD K N α H (.obj n) (.ref a)
inductive RDs (K : PySem.W.Frag) (N : Addr → Prop) (α : List Addr) (H : Hp) : List D → List V → Prop
  | nil : RDs K N α H [] []
  | cons {d : D} {ds : List D} {v : V} {vs : List V} : RD K N α H d v → RDs K N α H ds vs → RDs K N α H (d :: ds) (v :: vs)
inductive RKs (K : PySem.W.Frag) (N : Addr → Prop) (α : List Addr) (H : Hp) : List (D × D) → List (Key × V) → Prop
  | nil : RKs K N α H [] []
  | cons {d e : D} {ds : List (D × D)} {k : Key} {v : V} {vs : List (Key × V)} : RKey d k → RD K N α H e v → RKs K N α H ds vs → RKs K N α H ((d, e) :: ds) ((k, v) :: vs)
end

/-- what is known of objects stays known: of those that N does not bar -/
structure Stp (N : Addr → Prop) (α : List Addr) (H : Hp) (N' : Addr → Prop) (α' : List Addr) (H' : Hp) : Prop where
  pre : ∃ t, α' = α ++ t
  keep : ∀ a o, H a = some o → ¬ N a → H' a = some o ∧ ¬ N' a
section
variable {K : PySem.W.Frag} {N N' N'' : Addr → Prop} {α α' α'' : List Addr} {H H' H'' : Hp} {a : Addr}
theorem Stp.refl : Stp N α H N α H := ⟨⟨[], by simp⟩, fun _ _ h n => ⟨h, n⟩⟩
theorem Stp.trans (s : Stp N α H N' α' H') (t : Stp N' α' H' N'' α'' H'') : Stp N α H N'' α'' H'' := by
  obtain ⟨x, e⟩ := s.pre
  obtain ⟨y, e'⟩ := t.pre
  exact ⟨⟨x ++ y, by rw [e', e, List.append_assoc]⟩, fun a o h n => let ⟨h1, n1⟩ := s.keep a o h n; t.keep a o h1 n1⟩
theorem Stp.at_ (s : Stp N α H N' α' H') {n : Nat} (h : α[n]? = some a) : α'[n]? = some a := by
  obtain ⟨x, e⟩ := s.pre
  rw [e, List.getElem?_append_left (List.getElem?_eq_some_iff.mp h).1]
  exact h
theorem Stp.rd (s : Stp N α H N' α' H') {u : HO} (n : ¬ N a) (h : Rd H a u) : Rd H' a u ∧ ¬ N' a := by
  rcases h with h | ⟨o, h⟩
  · exact ⟨.inl (s.keep a _ h n).1, (s.keep a _ h n).2⟩
  · exact ⟨.inr ⟨o, (s.keep a _ h n).1⟩, (s.keep a _ h n).2⟩
mutual
theorem RD.step (s : Stp N α H N' α' H') : ∀ {d : D} {v : V}, RD K N α H d v → RD K N' α' H' d v
  | _, _, .non => .non
  | _, _, .bl b => .bl b
  | _, _, .int i => .int i
  | _, _, .str x => .str x
  | _, _, .tup n h r => .tup (s.rd n h).2 (s.rd n h).1 (RDs.step s r)
  | _, _, .lst n h r => .lst (s.rd n h).2 (s.rd n h).1 (RDs.step s r)
  | _, _, .lstK h r => .lstK h (RDs.step s r)
  | _, _, .dic n h r => .dic (s.rd n h).2 (s.rd n h).1 (RKs.step s r)
  | _, _, .obj h => .obj (s.at_ h)
theorem RDs.step (s : Stp N α H N' α' H') : ∀ {d : List D} {v : List V}, RDs K N α H d v → RDs K N' α' H' d v
  | _, _, .nil => .nil
  | _, _, .cons r t => .cons (RD.step s r) (RDs.step s t)
theorem RKs.step (s : Stp N α H N' α' H') : ∀ {d : List (D × D)} {v : List (Key × V)}, RKs K N α H d v → RKs K N' α' H' d v
  | _, _, .nil => .nil
  | _, _, .cons k r t => .cons k (RD.step s r) (RKs.step s t)
end
/-- the heap grows -/
theorem Stp.grow (g : Same H H') : Stp N α H N α H' := ⟨⟨[], by simp⟩, fun a o h n => ⟨g a o h, n⟩⟩
/-- fewer are barred -/
theorem Stp.less (h : ∀ a, N' a → N a) : Stp N α H N' α H := ⟨⟨[], by simp⟩, fun _ _ h' n => ⟨h', fun z => n (h _ z)⟩⟩
theorem RDs.length : ∀ {ds : List D} {vs : List V}, RDs K N α H ds vs → ds.length = vs.length
  | _, _, .nil => rfl
  | _, _, .cons _ t => by rw [List.length_cons, List.length_cons, RDs.length t]
theorem RDs.get : ∀ {ds : List D} {vs : List V} {i : Nat} {d : D}, RDs K N α H ds vs → ds[i]? = some d → ∃ v, vs[i]? = some v ∧ RD K N α H d v
  | _, _, _, _, .nil, e => by simp at e
  | _, _, 0, _, .cons r _, e => by simp at e; subst e; exact ⟨_, rfl, r⟩
  | _, _, i + 1, _, .cons _ t, e => by
    obtain ⟨v, h1, h2⟩ := RDs.get (i := i) t (by simpa using e)
    exact ⟨v, by simpa using h1, h2⟩
theorem RDs.get' : ∀ {ds : List D} {vs : List V} {i : Nat} {v : V}, RDs K N α H ds vs → vs[i]? = some v → ∃ d, ds[i]? = some d ∧ RD K N α H d v
  | _, _, _, _, .nil, e => by simp at e
  | _, _, 0, _, .cons r _, e => by simp at e; subst e; exact ⟨_, rfl, r⟩
  | _, _, i + 1, _, .cons _ t, e => by
    obtain ⟨v, h1, h2⟩ := RDs.get' (i := i) t (by simpa using e)
    exact ⟨v, by simpa using h1, h2⟩
theorem RDs.append : ∀ {ds es : List D} {vs ws : List V}, RDs K N α H ds vs → RDs K N α H es ws → RDs K N α H (ds ++ es) (vs ++ ws)
  | _, _, _, _, .nil, s => s
  | _, _, _, _, .cons r t, s => .cons r (RDs.append t s)
theorem RDs.take : ∀ {ds : List D} {vs : List V} (n : Nat), RDs K N α H ds vs → RDs K N α H (ds.take n) (vs.take n)
  | _, _, 0, _ => .nil
  | _, _, _ + 1, .nil => .nil
  | _, _, n + 1, .cons r t => .cons r (RDs.take n t)
theorem RDs.drop : ∀ {ds : List D} {vs : List V} (n : Nat), RDs K N α H ds vs → RDs K N α H (ds.drop n) (vs.drop n)
  | _, _, 0, r => r
  | _, _, _ + 1, .nil => .nil
  | _, _, n + 1, .cons _ t => RDs.drop n t
theorem RDs.set : ∀ {ds : List D} {vs : List V} {d : D} {v : V} (i : Nat), RD K N α H d v → RDs K N α H ds vs → RDs K N α H (ds.set i d) (vs.set i v)
  | _, _, _, _, _, _, .nil => .nil
  | _, _, _, _, 0, r, .cons _ t => .cons r t
  | _, _, _, _, i + 1, r, .cons q t => .cons q (RDs.set i r t)
theorem RDs.reverse {ds : List D} {vs : List V} (h : RDs K N α H ds vs) : RDs K N α H ds.reverse vs.reverse := by
  induction ds generalizing vs with
  | nil => cases h; exact .nil
  | cons d ds ih =>
    cases h with
    | cons r t =>
      rw [List.reverse_cons, List.reverse_cons]
      exact RDs.append (ih t) (.cons r .nil)
end

/-- what stands at a list's, a dict's address -/
def ROb (K : PySem.W.Frag) (N : Addr → Prop) (α : List Addr) (H : Hp) : D → HO → Prop
  | .lst ds, .lst vs => RDs K N α H ds vs
  | .dic ds, .dK vs => RKs K N α H ds vs
  | _, _ => False
/-- a reading for the moment: the list or dict itself may be one of the frame's own (T bars less than N) -/
def RB (K : PySem.W.Frag) (N T : Addr → Prop) (α : List Addr) (H : Hp) : D → V → Prop
  | .lst ds, v => ∃ a vs, v = .ref a ∧ ((¬ T a ∧ Rd H a (.lst vs)) ∨ KL K a vs) ∧ RDs K N α H ds vs
  | .dic ds, v => ∃ a vs, v = .ref a ∧ ¬ T a ∧ Rd H a (.dK vs) ∧ RKs K N α H ds vs
  | d, v => RD K N α H d v
section
variable {K : PySem.W.Frag} {N T N' T' : Addr → Prop} {α α' : List Addr} {H H' : Hp} {a : Addr}
theorem RB.of {d : D} {v : V} (h : RD K N α H d v) (hT : ∀ a, T a → N a) : RB K N T α H d v := by
  cases h with
  | non => exact .non
  | bl b => exact .bl b
  | int i => exact .int i
  | str x => exact .str x
  | tup n h r => exact .tup n h r
  | lst n h r => exact ⟨_, _, rfl, .inl ⟨fun z => n (hT _ z), h⟩, r⟩
  | lstK h r => exact ⟨_, _, rfl, .inr h, r⟩
  | dic n h r => exact ⟨_, _, rfl, fun z => n (hT _ z), h, r⟩
  | obj h => exact .obj h
theorem RB.step (s : Stp T α H T' α' H') (t : Stp N α H N' α' H') {d : D} {v : V} (h : RB K N T α H d v) : RB K N' T' α' H' d v := by
  cases d with
  | lst ds =>
    obtain ⟨a, vs, e, h, r⟩ := h
    refine ⟨a, vs, e, ?_, r.step t⟩
    rcases h with ⟨n, h⟩ | h
    · exact .inl ⟨(s.rd n h).2, (s.rd n h).1⟩
    · exact .inr h
  | dic ds =>
    obtain ⟨a, vs, e, n, h, r⟩ := h
    exact ⟨a, vs, e, (s.rd n h).2, (s.rd n h).1, r.step t⟩
  | non => exact RD.step t h
  | bl b => exact RD.step t h
  | int b => exact RD.step t h
  | str b => exact RD.step t h
  | tup b => exact RD.step t h
  | obj b => exact RD.step t h
theorem RB.lst {ds : List D} {v : V} (h : RB K N T α H (.lst ds) v) : ∃ a vs, v = .ref a ∧ SqL K H a vs ∧ RDs K N α H ds vs := by
  obtain ⟨a, vs, e, h, r⟩ := h
  refine ⟨a, vs, e, ?_, r⟩
  rcases h with ⟨_, h⟩ | h
  · exact .inl h
  · exact h.sq
theorem RB.tup {ds : List D} {v : V} (h : RB K N T α H (.tup ds) v) : ∃ a vs, v = .ref a ∧ ¬ N a ∧ Rd H a (.tup vs) ∧ RDs K N α H ds vs := by
  cases (show RD K N α H (.tup ds) v from h) with
  | tup n h1 r => exact ⟨_, _, rfl, n, h1, r⟩
theorem ROb.step (t : Stp N α H N' α' H') {d : D} {o : HO} (h : ROb K N α H d o) : ROb K N' α' H' d o := by
  cases d <;> cases o <;> first | exact RDs.step t h | exact RKs.step t h | exact False.elim h
end

/-! ### the state of a frame -/
/-- the call's constants: the addresses barred to it, the heap and the store at its entry -/
structure Cz where
  B : Addr → Prop
  H0 : Hp
  α0 : List Addr
/-- the addresses of the frame's own lists and dicts -/
def LocO (Γ : List Bool) (σ : St) (a : Addr) : Prop := ∃ i : Nat, Γ[i]? = some true ∧ σ[i]? = some (some (.ref a))
def NB (c : Cz) (α : List Addr) : Addr → Prop := fun a => c.B a ∨ a ∈ α
def NN (c : Cz) (Γ : List Bool) (σ : St) (α : List Addr) : Addr → Prop := fun a => NB c α a ∨ LocO Γ σ a

def ObRel (K : PySem.W.Frag) (N : Addr → Prop) (α : List Addr) (H : Hp) : Ob → Addr → Prop
  | .ins C fs, a => ∃ dx fs', H a = some (.ins C dx fs') ∧ fs.map (·.1) = fs'.map (·.1) ∧ RDs K N α H (fs.map (·.2)) (fs'.map (·.2))
  | .lst ds, a => ∃ vs, H a = some (.lst vs) ∧ RDs K N α H ds vs
  | .dic ds, a => ∃ vs, H a = some (.dK vs) ∧ RKs K N α H ds vs
structure StoRel (K : PySem.W.Frag) (N : Addr → Prop) (α : List Addr) (H : Hp) (st : Sto) : Prop where
  len : α.length = st.length
  nd : α.Nodup
  ob : ∀ (n : Nat) ob a, st[n]? = some ob → α[n]? = some a → ObRel K N α H ob a
structure Rel (K : PySem.W.Frag) (c : Cz) (Γ : List Bool) (sl : Sl) (st : Sto) (α : List Addr) (σ : St) (H : Hp) : Prop where
  len : σ.length = sl.length
  val : ∀ (i : Nat) d, sl[i]? = some (some d) → Γ[i]? ≠ some true → ∃ v, σ[i]? = some (some v) ∧ RD K (NN c Γ σ α) α H d v
  own : ∀ (i : Nat), Γ[i]? = some true → ∃ d a o, sl[i]? = some (some d) ∧ σ[i]? = some (some (.ref a)) ∧ H a = some o ∧ ROb K (NN c Γ σ α) α H d o ∧ c.H0 a = none ∧ ¬ NB c α a
  dist : ∀ (i j : Nat) a, Γ[i]? = some true → Γ[j]? = some true → σ[i]? = some (some (.ref a)) → σ[j]? = some (some (.ref a)) → i = j
  sto : StoRel K (NN c Γ σ α) α H st
  bt : ∀ a, c.B a → H a ≠ none
  αB : ∀ a, a ∈ α → ¬ c.B a
  αn : ∃ t, α = c.α0 ++ t
  αf : ∀ a, a ∈ α → a ∈ c.α0 ∨ c.H0 a = none
  fr : ∀ a o, c.H0 a = some o → a ∉ c.α0 → H a = some o
section
variable {K : PySem.W.Frag} {N N' : Addr → Prop} {c : Cz} {Γ Γ' : List Bool} {sl : Sl} {st : Sto} {α α' : List Addr} {σ : St} {H H' : Hp} {a : Addr}
theorem ObRel.tr {ob : Ob} (h : ObRel K N α H ob a) : H a ≠ none := by
  cases ob with
  | ins C fs => obtain ⟨_, _, h, _⟩ := h; rw [h]; exact fun z => nomatch z
  | lst ds => obtain ⟨_, h, _⟩ := h; rw [h]; exact fun z => nomatch z
  | dic ds => obtain ⟨_, h, _⟩ := h; rw [h]; exact fun z => nomatch z
theorem StoRel.tr (h : StoRel K N α H st) (ha : a ∈ α) : H a ≠ none := by
  obtain ⟨n, hn⟩ := List.mem_iff_getElem?.mp ha
  have hl : n < st.length := by rw [← h.len]; exact (List.getElem?_eq_some_iff.mp hn).1
  exact (h.ob n st[n] a (List.getElem?_eq_getElem hl) hn).tr
theorem Rel.tr (h : Rel K c Γ sl st α σ H) (n : NN c Γ σ α a) : H a ≠ none := by
  rcases n with (n | n) | ⟨i, n, e⟩
  · exact h.bt a n
  · exact h.sto.tr n
  · obtain ⟨d, a', o, _, e', ho, _⟩ := h.own i n
    rw [e] at e'
    cases e'
    rw [ho]
    exact fun z => nomatch z
theorem Rel.fresh (h : Rel K c Γ sl st α σ H) (e : H a = none) : ¬ NN c Γ σ α a := fun n => h.tr n e
theorem Rel.fresh0 (h : Rel K c Γ sl st α σ H) (e : H a = none) : c.H0 a = none := by
  cases q : c.H0 a with
  | none => rfl
  | some o =>
    by_cases m : a ∈ c.α0
    · obtain ⟨t, et⟩ := h.αn
      exact absurd e (h.sto.tr (by rw [et]; exact List.mem_append_left _ m))
    · rw [h.fr a o q m] at e
      cases e
theorem StoRel.step (h : StoRel K N α H st) (t : Stp N α H N' α H') (k : ∀ a, a ∈ α → H' a = H a) : StoRel K N' α H' st := by
  refine ⟨h.len, h.nd, fun n ob a e1 e2 => ?_⟩
  have ha := k a (List.mem_of_getElem? e2)
  have q := h.ob n ob a e1 e2
  cases ob with
  | ins C fs => obtain ⟨dx, fs', h1, h2, h3⟩ := q; exact ⟨dx, fs', ha.trans h1, h2, h3.step t⟩
  | lst ds => obtain ⟨vs, h1, h2⟩ := q; exact ⟨vs, ha.trans h1, h2.step t⟩
  | dic ds => obtain ⟨vs, h1, h2⟩ := q; exact ⟨vs, ha.trans h1, h2.step t⟩
/-- new objects -/
theorem Rel.grow (h : Rel K c Γ sl st α σ H) (g : Same H H') : Rel K c Γ sl st α σ H' := by
  have S : Stp (NN c Γ σ α) α H (NN c Γ σ α) α H' := .grow g
  refine ⟨h.len, fun i d e n => ?_, fun i n => ?_, h.dist, h.sto.step S fun a m => ?_, fun a b => ?_, h.αB, h.αn, h.αf, fun a o e n => g _ _ (h.fr a o e n)⟩
  · obtain ⟨v, h1, h2⟩ := h.val i d e n
    exact ⟨v, h1, h2.step S⟩
  · obtain ⟨d, a, o, h1, h2, h3, h4, h5⟩ := h.own i n
    exact ⟨d, a, o, h1, h2, g _ _ h3, h4.step S, h5⟩
  · cases q : H a with
    | none => exact absurd q (h.sto.tr m)
    | some o => exact g _ _ q
  · cases q : H a with
    | none => exact absurd q (h.bt a b)
    | some o => rw [g _ _ q]; exact fun z => nomatch z
/-- what an expression does to the heap: objects of the store change, all else that stood stands -/
structure Ste (α : List Addr) (H : Hp) (α' : List Addr) (H' : Hp) : Prop where
  pre : ∃ t, α' = α ++ t
  new : ∀ a, a ∈ α' → a ∈ α ∨ H a = none
  keep : ∀ a o, H a = some o → a ∉ α → H' a = some o
theorem Ste.refl : Ste α H α H := ⟨⟨[], by simp⟩, fun _ h => .inl h, fun _ _ h _ => h⟩
theorem Ste.grow (g : Same H H') : Ste α H α H' := ⟨⟨[], by simp⟩, fun _ h => .inl h, fun _ _ h _ => g _ _ h⟩
theorem Ste.trans {α'' : List Addr} {H'' : Hp} (s : Ste α H α' H') (t : Ste α' H' α'' H'') : Ste α H α'' H'' := by
  obtain ⟨x, e⟩ := s.pre
  obtain ⟨y, e'⟩ := t.pre
  have out : ∀ a o, H a = some o → a ∉ α → a ∉ α' := fun a o h n m => (s.new a m).elim n fun z => by rw [h] at z; cases z
  refine ⟨⟨x ++ y, by rw [e', e, List.append_assoc]⟩, fun a m => ?_, fun a o h n => t.keep a o (s.keep a o h n) (out a o h n)⟩
  rcases t.new a m with z | z
  · exact s.new a z
  · by_cases ma : a ∈ α
    · exact .inl ma
    · refine .inr ?_
      cases q : H a with
      | none => rfl
      | some o => rw [s.keep a o q ma] at z; cases z
theorem Ste.nb (s : Ste α H α' H') : Stp (NB c α) α H (NB c α') α' H' :=
  ⟨s.pre, fun a o e n => ⟨s.keep a o e fun z => n (.inr z), fun z => z.elim (fun z => n (.inl z)) fun z => (s.new a z).elim (fun z => n (.inr z)) fun z => by rw [e] at z; cases z⟩⟩
/-- the frame's own, under the callers' bar -/
theorem Stp.toNN (s : Stp (NB c α) α H (NB c α') α' H') : Stp (NN c Γ σ α) α H (NN c Γ σ α') α' H' :=
  ⟨s.pre, fun a o e n => ⟨(s.keep a o e fun z => n (.inl z)).1, fun z => z.elim (fun z => (s.keep a o e fun z => n (.inl z)).2 z) fun z => n (.inr z)⟩⟩
theorem Ste.nn (s : Ste α H α' H') : Stp (NN c Γ σ α) α H (NN c Γ σ α') α' H' := s.nb.toNN
theorem nb_nn {a : Addr} (h : NB c α a) : NN c Γ σ α a := .inl h
end

/-! ### weakest readings -/
def wpE (X : Cx) (e : Expr) : TE := fun σ H Q => ∃ t, PE X e t ∧ t σ H Q
def wpT (X : Cx) (e : Expr) : TT := fun σ H Q => ∃ t, PT X e t ∧ t σ H Q
def wpA (X : Cx) (es : List Expr) : TA := fun σ H Q => ∃ t, PA X es t ∧ t σ H Q
def wpS (X : Cx) (s : Stmt) : TS := fun D σ H => ∃ t, PS X s t ∧ t D σ H
def wpB (X : Cx) (s : List Stmt) : TS := fun D σ H => ∃ t, PSs X s t ∧ t D σ H
def wpI (X : Cx) (tg it : Expr) : TI := fun σ H R => ∃ t, PI X tg it t ∧ t σ H R
def wpO (X : Cx) (e : Option Expr) : TO := fun σ H Q => ∃ t, PO X e t ∧ t σ H Q
def wpG (X : Cx) (tg : Expr) : TG := fun v σ H Q => ∃ t, PG X tg t ∧ t v σ H Q
theorem pe_wp {X : Cx} {e : Expr} : PE X e (wpE X e) := ⟨fun pins s σ H Q I ⟨_, ht, h⟩ => ht.run pins s σ H Q I h⟩
theorem pt_wp {X : Cx} {e : Expr} : PT X e (wpT X e) := ⟨fun pins s σ H Q I ⟨_, ht, h⟩ => ht.run pins s σ H Q I h⟩
theorem pa_wp {X : Cx} {e : List Expr} : PA X e (wpA X e) := ⟨fun pos pins s σ H Q I ⟨_, ht, h⟩ => ht.run pos pins s σ H Q I h⟩
theorem ps_wp {X : Cx} {e : Stmt} : PS X e (wpS X e) := ⟨fun pins s σ H D I ⟨_, ht, h⟩ => ht.run pins s σ H D I h⟩
theorem pss_wp {X : Cx} {e : List Stmt} : PSs X e (wpB X e) := ⟨fun pins s σ H D I ⟨_, ht, h⟩ => ht.run pins s σ H D I h⟩
theorem pi_wp {X : Cx} {tg it : Expr} : PI X tg it (wpI X tg it) := ⟨fun pins s σ H R I ⟨_, ht, h⟩ => ht.run pins s σ H R I h⟩
theorem po_wp {X : Cx} {e : Option Expr} : PO X e (wpO X e) := ⟨fun pins s σ H Q I ⟨_, ht, h⟩ => ht.run pins s σ H Q I h⟩
theorem pg_wp {X : Cx} {tg : Expr} : PG X tg (wpG X tg) := ⟨fun pins s σ H v u Q I r ⟨_, ht, h⟩ => ht.run pins s σ H v u Q I r h⟩

/-! ### judgements: a piece of syntax does what a function on values says -/
abbrev WXc := Value → Option Addr → St → Hp → Prop
def ExRel (K : PySem.W.Frag) (N : Addr → Prop) (α : List Addr) (H : Hp) (x : Ex) (cl : Value) (dd : Option Addr) : Prop :=
  cl = .ref x.cls ∧ (x.fs = [] ∨ ∃ d fs', dd = some d ∧ H d = some (.xd fs') ∧ x.fs.map (·.1) = fs'.map (·.1) ∧ RDs K N α H (x.fs.map (·.2)) (fs'.map (·.2)))
def PX (K : PySem.W.Frag) (c : Cz) (Γ : List Bool) (sl : Sl) (σ : St) (W : WXc) (x : Ex) (st : Sto) : Prop :=
  ∀ cl dd α' H', Rel K c Γ sl st α' σ H' → ExRel K (NN c Γ σ α') α' H' x cl dd → W cl dd σ H'
def PQ (K : PySem.W.Frag) (c : Cz) (Γ : List Bool) (sl : Sl) (α : List Addr) (σ : St) (H : Hp) (Q : VK) (d : D) (st : Sto) : Prop :=
  ∀ v α' H', Rel K c Γ sl st α' σ H' → Ste α H α' H' → RD K (NN c Γ σ α') α' H' d v → Q v H'
def PQb (K : PySem.W.Frag) (c : Cz) (Γ : List Bool) (sl : Sl) (α : List Addr) (σ : St) (H : Hp) (Q : VK) (d : D) (st : Sto) : Prop :=
  ∀ v α' H', Rel K c Γ sl st α' σ H' → Ste α H α' H' → RB K (NN c Γ σ α') (NB c α') α' H' d v → Q v H'
/-- .. with p barred too -/
def Cz.add (c : Cz) (p : Addr) : Cz := { c with B := fun a => c.B a ∨ a = p }
/-- a new list or dict that nobody else holds -/
def PQf (K : PySem.W.Frag) (c : Cz) (Γ : List Bool) (sl : Sl) (α : List Addr) (σ : St) (H : Hp) (Q : VK) (d : D) (st : Sto) : Prop :=
  ∀ p o α' H', H p = none → H' p = some o → Rel K (c.add p) Γ sl st α' σ H' → Ste α H α' H' → ROb K (NN (c.add p) Γ σ α') α' H' d o → Q (.ref p) H'
def SE (X : Cx) (W : WXc) (Γ : List Bool) (e : Expr) (f : FE) : Prop := ∀ c sl st α σ H Q, Rel X.K c Γ sl st α σ H → (f sl st).Sat (PQ X.K c Γ sl α σ H Q) (PX X.K c Γ sl σ W) → wpE X e σ H Q
def SB (X : Cx) (W : WXc) (Γ : List Bool) (e : Expr) (f : FE) : Prop := ∀ c sl st α σ H Q, Rel X.K c Γ sl st α σ H → (f sl st).Sat (PQb X.K c Γ sl α σ H Q) (PX X.K c Γ sl σ W) → wpE X e σ H Q
def SF (X : Cx) (W : WXc) (Γ : List Bool) (e : Expr) (f : FE) : Prop := ∀ c sl st α σ H Q, Rel X.K c Γ sl st α σ H → (f sl st).Sat (PQf X.K c Γ sl α σ H Q) (PX X.K c Γ sl σ W) → wpE X e σ H Q
def ST (X : Cx) (W : WXc) (Γ : List Bool) (e : Expr) (f : FT) : Prop := ∀ c sl st α σ H Q, Rel X.K c Γ sl st α σ H →
  (f sl st).Sat (fun b st' => ∀ α' H', Rel X.K c Γ sl st' α' σ H' → Ste α H α' H' → Q b H') (PX X.K c Γ sl σ W) → wpT X e σ H Q
def SA (X : Cx) (W : WXc) (Γ : List Bool) (es : List Expr) (f : FA) : Prop := ∀ c sl st α σ H Q, Rel X.K c Γ sl st α σ H →
  (f sl st).Sat (fun ds st' => ∀ vs α' H', Rel X.K c Γ sl st' α' σ H' → Ste α H α' H' → RDs X.K (NN c Γ σ α') α' H' ds vs → Q vs H') (PX X.K c Γ sl σ W) → wpA X es σ H Q
inductive RBs (K : PySem.W.Frag) (N T : Addr → Prop) (α : List Addr) (H : Hp) : List D → List V → Prop
  | nil : RBs K N T α H [] []
  | cons {d : D} {ds : List D} {v : V} {vs : List V} : RB K N T α H d v → RBs K N T α H ds vs → RBs K N T α H (d :: ds) (v :: vs)
/-- arguments of a built-in: read for the moment -/
def SAb (X : Cx) (W : WXc) (Γ : List Bool) (es : List Expr) (f : FA) : Prop := ∀ c sl st α σ H Q, Rel X.K c Γ sl st α σ H →
  (f sl st).Sat (fun ds st' => ∀ vs α' H', Rel X.K c Γ sl st' α' σ H' → Ste α H α' H' → RBs X.K (NN c Γ σ α') (NB c α') α' H' ds vs → Q vs H') (PX X.K c Γ sl σ W) → wpA X es σ H Q
def SO (X : Cx) (W : WXc) (Γ : List Bool) (e : Option Expr) (f : FO) : Prop := ∀ c sl st α σ H Q, Rel X.K c Γ sl st α σ H →
  (f sl st).Sat (fun i st' => ∀ α' H', Rel X.K c Γ sl st' α' σ H' → Ste α H α' H' → Q i H') (PX X.K c Γ sl σ W) → wpO X e σ H Q
/-- an iterator yields the items ds, whatever is done the while to objects that T does not bar -/
def Yields (K : PySem.W.Frag) (N T : Addr → Prop) (α : List Addr) (H : Hp) (J : It) (ds : List D) : Prop :=
  ∀ N' T' α' H', Stp T α H T' α' H' → Stp N α H N' α' H' → (∀ a, N' a → H' a ≠ none) →
    (∀ (i : Nat) d, ds[i]? = some d → J.go i H' ∧ ∀ x H'', J.yld i H' x H'' → Same H' H'' ∧ RD K N' α' H'' d x) ∧ ∀ i, ds.length ≤ i → J.stop i H'
/-- b: the list itself may be one of the frame's own (for a comprehension, in which no list is changed) -/
def SI (X : Cx) (W : WXc) (Γ : List Bool) (b : Bool) (tg it : Expr) (f : FA) : Prop := ∀ c sl st α σ H R, Rel X.K c Γ sl st α σ H →
  (f sl st).Sat (fun ds st' => ∀ J α' H', Rel X.K c Γ sl st' α' σ H' → Ste α H α' H' → Yields X.K (NN c Γ σ α') (if b then NB c α' else NN c Γ σ α') α' H' J ds → R J H') (PX X.K c Γ sl σ W) → wpI X tg it σ H R
/-- a target -/
def SG (X : Cx) (tg : Expr) (is : List Nat) (g : D → Sl → Option Sl) : Prop := ∀ c Γ sl st α σ H d v sl' Q, (∀ i ∈ is, Γ[i]? ≠ some true) → Rel X.K c Γ sl st α σ H → RD X.K (NN c Γ σ α) α H d v → g d sl = some sl' →
  (∀ σ' , Rel X.K c Γ sl' st α σ' H → (∀ a, LocO Γ σ' a ↔ LocO Γ σ a) → σ'.length = σ.length → (∀ i, i ∉ is → σ'[i]? = σ[i]?) → Q σ' H) → wpG X tg v σ H Q

def PF (K : PySem.W.Frag) (c : Cz) (Γ : List Bool) (α : List Addr) (σ : St) (H : Hp) (k : St → Hp → Prop) (Γ' : List Bool) (sl' : Sl) (st' : Sto) : Prop :=
  ∀ α' σ' H', Rel K c Γ' sl' st' α' σ' H' → Stp (NN c Γ σ α) α H (NN c Γ' σ' α') α' H' → k σ' H'
/-- what a def hands back: d at v; o: a list or dict that nobody else holds -/
def PR (K : PySem.W.Frag) (c : Cz) (ρ : Bool) (k : VK) (d : D) (st' : Sto) : Prop :=
  (∀ Γ'' sl'' σ'' v α' H', Rel K c Γ'' sl'' st' α' σ'' H' → RD K (NN c Γ'' σ'' α') α' H' d v → (ρ = true → ∀ ds ks, d ≠ .lst ds ∧ d ≠ .dic ks) → k v H') ∧
  (ρ = true → ∀ Γ'' sl'' σ'' p o α' H', c.H0 p = none → H' p = some o → Rel K (c.add p) Γ'' sl'' st' α' σ'' H' → ROb K (NN (c.add p) Γ'' σ'' α') α' H' d o → k (.ref p) H')
def Fl.Sat (r : Fl) (n : Sl → Sto → Prop) (t : D → Sto → Prop) (b c : Sl → Sto → Prop) (E : Ex → Sl → Sto → Prop) : Prop := match r with
  | .nx l s => n l s
  | .rt d s => t d s
  | .bk l s => b l s
  | .ct l s => c l s
  | .ex e l s => E e l s
  | .no => False
def FQ (K : PySem.W.Frag) (W : WXc) (ρ : Bool) (ΓL : List Bool) (c : Cz) (Γ : List Bool) (α : List Addr) (σ : St) (H : Hp) (D : Ends) (Γ' : List Bool) (r : Fl) : Prop :=
  r.Sat (PF K c Γ α σ H D.nx Γ') (PR K c ρ D.rt) (PF K c Γ α σ H D.bk ΓL) (PF K c Γ α σ H D.ct ΓL) (fun x l s => ∀ Γ'' σ'', PX K c Γ'' l σ'' W x s)
/-- a statement; Γ' are the own lists behind it, ΓL those at a loop's end -/
def SS (X : Cx) (W : WXc) (ρ : Bool) (ΓL Γ : List Bool) (s : Stmt) (f : FS) (Γ' : List Bool) : Prop := ∀ c sl st α σ H D, Rel X.K c Γ sl st α σ H → FQ X.K W ρ ΓL c Γ α σ H D Γ' (f sl st) → wpS X s D σ H
def SSs (X : Cx) (W : WXc) (ρ : Bool) (ΓL Γ : List Bool) (s : List Stmt) (f : FS) (Γ' : List Bool) : Prop := ∀ c sl st α σ H D, Rel X.K c Γ sl st α σ H → FQ X.K W ρ ΓL c Γ α σ H D Γ' (f sl st) → wpB X s D σ H
end Vx

/-! VExp: the rules for expressions, tests, arguments. -/
namespace Vx
open PySem PySem.Spec L2
section
variable {X : Cx} {W : WXc} {Γ : List Bool} {e a b : Expr} {es : List Expr} {f fa fb fc : FE} {x : Str} {pos p : Pos}
variable {K : PySem.W.Frag} {N T : Addr → Prop} {α : List Addr} {H : Hp}

theorem same_upd {H : Hp} {p : Addr} {o : HO} (h : H p = none) : Same H (upd H p o) := fun b z e => by rw [upd_ne (ne_of_none e h)]; exact e
theorem ROb.rd {d : D} {o : HO} {p : Addr} (r : ROb K N α H d o) (h : H p = some o) (n : ¬ N p) : RD K N α H d (.ref p) := by
  cases d <;> cases o <;> first | exact .lst n (.of h) r | exact .dic n (.of h) r | exact False.elim r
theorem nn_less {c : Cz} {σ : St} {p : Addr} : ∀ a, NN c Γ σ α a → NN (c.add p) Γ σ α a := fun a h => h.elim (fun h => h.elim (fun h => .inl (.inl (.inl h))) fun h => .inl (.inr h)) fun h => .inr h
/-- one address less is barred -/
theorem Rel.drop {c : Cz} {sl : Sl} {st : Sto} {σ : St} {p : Addr} (h : Rel K (c.add p) Γ sl st α σ H) : Rel K c Γ sl st α σ H := by
  have S : Stp (NN (c.add p) Γ σ α) α H (NN c Γ σ α) α H := .less nn_less
  refine ⟨h.len, fun i d e n => ?_, fun i n => ?_, h.dist, h.sto.step S fun a m => rfl, fun a b => h.bt a (.inl b), fun a m b => h.αB a m (.inl b), h.αn, h.αf, h.fr⟩
  · obtain ⟨v, h1, h2⟩ := h.val i d e n
    exact ⟨v, h1, h2.step S⟩
  · obtain ⟨d, a, o, h1, h2, h3, h4, h5, h6⟩ := h.own i n
    exact ⟨d, a, o, h1, h2, h3, h4.step S, h5, fun z => h6 (z.elim (fun z => .inl (.inl z)) fun z => .inr z)⟩
/-- a barred address is none of the frame's own -/
theorem Rel.add_ne {c : Cz} {sl : Sl} {st : Sto} {σ : St} {p : Addr} (h : Rel K (c.add p) Γ sl st α σ H) (n : ¬ c.B p) : ¬ NN c Γ σ α p := by
  rintro ((z | z) | ⟨i, z, e⟩)
  · exact n z
  · exact h.αB p z (.inr rfl)
  · obtain ⟨d, a, o, _, e2, _, _, _, h6⟩ := h.own i z
    rw [e] at e2
    cases e2
    exact h6 (.inl (.inr rfl))
/-- a new object, barred -/
theorem Rel.new {c : Cz} {sl : Sl} {st : Sto} {σ : St} {p : Addr} {o : HO} (h : Rel K c Γ sl st α σ H) (hp : H p = none) : Rel K (c.add p) Γ sl st α σ (upd H p o) ∧ Stp (NN c Γ σ α) α H (NN (c.add p) Γ σ α) α (upd H p o) := by
  have S : Stp (NN c Γ σ α) α H (NN (c.add p) Γ σ α) α (upd H p o) := by
    refine ⟨⟨[], by simp⟩, fun a u e n => ?_⟩
    have ne : a ≠ p := ne_of_none e hp
    refine ⟨by rw [upd_ne ne]; exact e, fun z => ?_⟩
    rcases z with (z | z) | z
    · exact z.elim (fun z => n (.inl (.inl z))) ne
    · exact n (.inl (.inr z))
    · exact n (.inr z)
  have nz : ∀ a, H a ≠ none → a ≠ p := fun a h e => h (e ▸ hp)
  refine ⟨⟨h.len, fun i d e n => ?_, fun i n => ?_, h.dist, h.sto.step S fun a m => upd_ne (nz a (h.sto.tr m)), fun a b => ?_, fun a m b => ?_, h.αn, h.αf, fun a u e n => ?_⟩, S⟩
  · obtain ⟨v, h1, h2⟩ := h.val i d e n
    exact ⟨v, h1, h2.step S⟩
  · obtain ⟨d, a, u, h1, h2, h3, h4, h5, h6⟩ := h.own i n
    have ne : a ≠ p := ne_of_none h3 hp
    exact ⟨d, a, u, h1, h2, by rw [upd_ne ne]; exact h3, h4.step S, h5, fun z => z.elim (fun z => z.elim (fun z => h6 (.inl z)) ne) fun z => h6 (.inr z)⟩
  · rcases b with b | b
    · rw [upd_ne (nz a (h.bt a b))]
      exact h.bt a b
    · rw [b, upd_same]
      exact fun z => nomatch z
  · rcases b with b | b
    · exact h.αB a m b
    · exact nz a (h.sto.tr m) b
  · have := h.fr a u e n
    rw [upd_ne (ne_of_none this hp)]
    exact this
theorem PQ.of_f {c : Cz} {sl : Sl} {σ : St} {Q : VK} {d : D} {st : Sto} (R0 : ∀ a, c.B a → H a ≠ none) (h : PQ K c Γ sl α σ H Q d st) : PQf K c Γ sl α σ H Q d st := by
  intro p o α' H' h0 hp R S r
  exact h (.ref p) α' H' R.drop S ((r.step (.less nn_less)).rd hp (R.add_ne fun z => R0 p z h0))
theorem se_sf (h : SF X W Γ e f) : SE X W Γ e f := fun c sl st α σ H Q R q => h c sl st α σ H Q R (q.imp (fun _ _ z => z.of_f R.bt) fun _ _ z => z)
theorem PQb.toPQ {c : Cz} {sl : Sl} {σ : St} {Q : VK} {d : D} {st : Sto} (h : PQb K c Γ sl α σ H Q d st) : PQ K c Γ sl α σ H Q d st :=
  fun v α' H' R S r => h v α' H' R S (RB.of r fun _ z => nb_nn z)
theorem sb_se (h : SE X W Γ e f) : SB X W Γ e f := fun c sl st α σ H Q R q => h c sl st α σ H Q R (q.imp (fun _ _ z => z.toPQ) fun _ _ z => z)
theorem sb_sf (h : SF X W Γ e f) : SB X W Γ e f := sb_se (se_sf h)

/-! ### names, constants -/
theorem mV_sat {i : Nat} {sl : Sl} {st : Sto} {P : D → Sto → Prop} {E : Ex → Sto → Prop} (h : (mV i sl st).Sat P E) : ∃ d, sl[i]? = some (some d) ∧ P d st := by
  unfold mV at h
  split at h
  · rename_i d e
    exact ⟨d, e, h⟩
  · exact False.elim h
theorem se_var (i : Nat) (hΓ : Γ[i]? ≠ some true := by decide) (hN : X.N[i]? = some x := by rfl) (hv : Vis X.env.scope x := by first | exact Or.inl rfl | exact Or.inr (Or.inl rfl) | exact Or.inr (Or.inr rfl))
    (hd : (x == ("__debug__" : Str)) = false := by decide) (hcd : (x == ("__classdict__" : Str)) = false := by decide) : SE X W Γ (.Name x pos) (mV i) := by
  intro c sl st α σ H Q R h
  obtain ⟨d, e, h⟩ := mV_sat h
  obtain ⟨v, e1, r⟩ := R.val i d e hΓ
  exact ⟨tVar i, pe_var hN hv hd hcd, v, e1, h v α H R .refl r⟩
/-- one of the frame's own lists, for the moment -/
theorem sb_own (i : Nat) (hΓ : Γ[i]? = some true := by decide) (hN : X.N[i]? = some x := by rfl) (hv : Vis X.env.scope x := by first | exact Or.inl rfl | exact Or.inr (Or.inl rfl) | exact Or.inr (Or.inr rfl))
    (hd : (x == ("__debug__" : Str)) = false := by decide) (hcd : (x == ("__classdict__" : Str)) = false := by decide) : SB X W Γ (.Name x pos) (mV i) := by
  intro c sl st α σ H Q R h
  obtain ⟨d, e, h⟩ := mV_sat h
  obtain ⟨d', a, o, e0, e1, ho, r, _, n⟩ := R.own i hΓ
  rw [e] at e0
  cases e0
  refine ⟨tVar i, pe_var hN hv hd hcd, .ref a, e1, h (.ref a) α H R .refl ?_⟩
  cases d <;> cases o <;> first | exact ⟨a, _, rfl, .inl ⟨n, .of ho⟩, r⟩ | exact ⟨a, _, rfl, n, .of ho, r⟩ | exact False.elim r
theorem se_k {d : D} {v : V} (hr : ∀ N α H, RD X.K N α H d v) (hp : PE X e (tC v)) : SE X W Γ e (mC d) := fun c sl st α σ H Q R h => ⟨_, hp, h v α H R .refl (hr _ _ _)⟩
theorem se_int {i j} : SE X W Γ (.Constant (.int i) j pos) (mC (.int i)) := se_k (fun _ _ _ => .int i) pe_int
theorem se_bl {i j} : SE X W Γ (.Constant (.bool i) j pos) (mC (.bl i)) := se_k (fun _ _ _ => .bl i) pe_bl
theorem se_non {j} : SE X W Γ (.Constant .none j pos) (mC .non) := se_k (fun _ _ _ => .non) pe_non
theorem se_str {i j} : SE X W Γ (.Constant (.str i) j pos) (mC (.str i)) := se_k (fun _ _ _ => .str i) pe_str
theorem se_globS {z : Str} {t : Tok} (hm : X.mg x = some (.str z t)) (hg : Gl X x := by rfl) (hd : (x == ("__debug__" : Str)) = false := by decide) : SE X W Γ (.Name x pos) (mC (.str z)) := se_k (fun _ _ _ => .str z) (pe_glob hg hm ⟨_, rfl⟩ hd)
theorem se_globI {z : Int} {t : Tok} (hm : X.mg x = some (.int z t)) (hg : Gl X x := by rfl) (hd : (x == ("__debug__" : Str)) = false := by decide) : SE X W Γ (.Name x pos) (mC (.int z)) := se_k (fun _ _ _ => .int z) (pe_glob hg hm ⟨_, rfl⟩ hd)

/-! ### operators -/
def OpD (X : Cx) (fop : Value → Value → Sem Value) (g : D → D → Option D) : Prop := ∃ r : R2, OpR X fop r ∧
  ∀ (N T : Addr → Prop) (α : List Addr) (H : Hp) (x y : D) (vx vy : V) (d : D) (Q : VK), (∀ a, N a → H a ≠ none) → RB X.K N T α H x vx → RB X.K N T α H y vy → g x y = some d →
    (∀ v H', Same H H' → RD X.K N α H' d v → Q v H') → r vx vy H Q
theorem Rel.nn {c : Cz} {sl : Sl} {st : Sto} {σ : St} (R : Rel K c Γ sl st α σ H) : ∀ a, NN c Γ σ α a → H a ≠ none := fun _ n => R.tr n
theorem bin_core {r : R2} {g : D → D → Option D} (hr : ∀ (N T : Addr → Prop) (α : List Addr) (H : Hp) (x y : D) (vx vy : V) (d : D) (Q : VK), (∀ a, N a → H a ≠ none) → RB X.K N T α H x vx → RB X.K N T α H y vy → g x y = some d → (∀ v H', Same H H' → RD X.K N α H' d v → Q v H') → r vx vy H Q)
    (ha : SB X W Γ a fa) (hb : SB X W Γ b fb) {c : Cz} {sl : Sl} {st : Sto} {α : List Addr} {σ : St} {H : Hp} {Q : VK} (R : Rel X.K c Γ sl st α σ H)
    (h : (mBin g fa fb sl st).Sat (PQ X.K c Γ sl α σ H Q) (PX X.K c Γ sl σ W)) : tOp r (wpE X a) (wpE X b) σ H Q := by
  refine ha c sl st α σ H _ R ((Vx.R.sat_bind.mp h).imp (fun x s1 hx vx α1 H1 R1 S1 d1 => ?_) fun _ _ z => z)
  refine hb c sl s1 α1 σ H1 _ R1 ((Vx.R.sat_bind.mp hx).imp (fun y s2 hy vy α2 H2 R2 S2 d2 => ?_) fun _ _ z => z)
  cases eg : g x y with
  | none => rw [eg] at hy; exact False.elim hy
  | some d =>
    rw [eg] at hy
    refine hr _ _ _ _ x y vx vy d Q R2.nn (d1.step S2.nb S2.nn) d2 eg fun v H' G r => ?_
    exact hy v α2 H' (R2.grow G) (S1.trans (S2.trans (.grow G))) r
theorem se_bin {op : Operator} {g : D → D → Option D} (ho : OpD X (binaryOp op) g) (ha : SB X W Γ a fa) (hb : SB X W Γ b fb) : SE X W Γ (.BinOp a op b pos) (mBin g fa fb) := by
  obtain ⟨r, o, hr⟩ := ho
  exact fun c sl st α σ H Q R h => ⟨_, pe_op o pe_wp pe_wp, bin_core hr ha hb R h⟩
theorem se_cmp {op : CmpOp} {g : D → D → Option D} (ho : OpD X (compareOp op) g) (ha : SB X W Γ a fa) (hb : SB X W Γ b fb) (hm : behindInMarks op b = false := by first | exact nobehind _ (by decide) (by decide) | rfl) : SE X W Γ (.Compare a [op] [b] pos) (mBin g fa fb) := by
  obtain ⟨r, o, hr⟩ := ho
  exact fun c sl st α σ H Q R h => ⟨_, pe_cmpR o pe_wp pe_wp hm, bin_core hr ha hb R h⟩
theorem gBl_some {d : D} {k : Bool} (h : gBl d = some k) : d = .bl k := by
  cases d <;> first | (injection h with h; rw [h]) | cases h
theorem rd_bl {k : Bool} {v : V} (h : RD K N α H (.bl k) v) : v = .bl k := by cases h; rfl
theorem st_cmp {op : CmpOp} {g : D → D → Option D} (ho : OpD X (compareOp op) g) (ha : SB X W Γ a fa) (hb : SB X W Γ b fb) (hm : behindInMarks op b = false := by first | exact nobehind _ (by decide) (by decide) | rfl) : ST X W Γ (.Compare a [op] [b] pos) (mT (mBin g fa fb)) := by
  obtain ⟨r, o, hr⟩ := ho
  intro c sl st α σ H Q R h
  refine ⟨_, pt_cmpR o pe_wp pe_wp hm, ?_⟩
  refine bin_core hr ha hb R ((Vx.R.sat_bind.mp h).imp (fun d s1 hd v α1 H1 R1 S1 r1 => ?_) fun _ _ z => z)
  cases eg : gBl d with
  | none => rw [eg] at hd; exact False.elim hd
  | some k =>
    rw [eg] at hd
    have ed := gBl_some eg
    subst ed
    exact ⟨k, rd_bl r1, hd α1 H1 R1 S1⟩
/-- an expression that gives True or False, as a test -/
theorem st_val (ha : SE X W Γ a fa) (he : ∀ whole, isTrue a X.env whole = (do let v ← whole; standAt a.pos; holding [v] (truthy v)) := by intro _; rfl) : ST X W Γ a (mT fa) := by
  intro c sl st α σ H Q R h
  refine ⟨_, pt_val pe_wp he, ?_⟩
  refine ha c sl st α σ H _ R ((Vx.R.sat_bind.mp h).imp (fun d s1 hd v α1 H1 R1 S1 r1 => ?_) fun _ _ z => z)
  cases eg : gBl d with
  | none => rw [eg] at hd; exact False.elim hd
  | some k =>
    rw [eg] at hd
    have ed := gBl_some eg
    subst ed
    exact ⟨k, rd_bl r1, hd α1 H1 R1 S1⟩
theorem chain_core {r r' : R2} {g g' : D → D → Option D} {c' : Expr} (hr : ∀ (N T : Addr → Prop) (α : List Addr) (H : Hp) (x y : D) (vx vy : V) (d : D) (Q : VK), (∀ a, N a → H a ≠ none) → RB X.K N T α H x vx → RB X.K N T α H y vy → g x y = some d → (∀ v H', Same H H' → RD X.K N α H' d v → Q v H') → r vx vy H Q)
    (hr' : ∀ (N T : Addr → Prop) (α : List Addr) (H : Hp) (x y : D) (vx vy : V) (d : D) (Q : VK), (∀ a, N a → H a ≠ none) → RB X.K N T α H x vx → RB X.K N T α H y vy → g' x y = some d → (∀ v H', Same H H' → RD X.K N α H' d v → Q v H') → r' vx vy H Q)
    (ha : SB X W Γ a fa) (hb : SB X W Γ b fb) (hc : SB X W Γ c' fc) {c : Cz} {sl : Sl} {st : Sto} {α : List Addr} {σ : St} {H : Hp} {Q : VK} (R : Rel X.K c Γ sl st α σ H)
    (h : (mChain g g' fa fb fc sl st).Sat (PQ X.K c Γ sl α σ H Q) (PX X.K c Γ sl σ W)) : tChain r r' (wpE X a) (wpE X b) (wpE X c') σ H Q := by
  refine ha c sl st α σ H _ R ((Vx.R.sat_bind.mp h).imp (fun x s1 hx vx α1 H1 R1 S1 d1 => ?_) fun _ _ z => z)
  refine hb c sl s1 α1 σ H1 _ R1 ((Vx.R.sat_bind.mp hx).imp (fun y s2 hy vy α2 H2 R2 S2 d2 => ?_) fun _ _ z => z)
  cases eg : g x y with
  | none => rw [eg] at hy; exact False.elim hy
  | some d =>
    cases eb : gBl d with
    | none => rw [eg] at hy; simp only [Option.bind_some, eb] at hy; exact False.elim hy
    | some k =>
      rw [eg] at hy
      simp only [Option.bind_some, eb, liftO_some, Vx.R.bind_ok] at hy
      have ed := gBl_some eb
      subst ed
      refine hr _ _ _ _ x y vx vy _ _ R2.nn (d1.step S2.nb S2.nn) d2 eg fun v H' G r => ?_
      refine ⟨k, rd_bl r, ?_⟩
      have R3 := R2.grow G
      cases k with
      | false =>
        rw [if_neg Bool.false_ne_true] at hy ⊢
        exact hy (.bl false) α2 H' R3 (S1.trans (S2.trans (.grow G))) (.bl false)
      | true =>
        rw [if_pos rfl] at hy ⊢
        refine hc c sl s2 α2 σ H' _ R3 ((Vx.R.sat_bind.mp hy).imp (fun z s4 hz vz α4 H4 R4 S4 d4 => ?_) fun _ _ z => z)
        cases eg' : g' y z with
        | none => rw [eg'] at hz; exact False.elim hz
        | some d' =>
          rw [eg'] at hz
          have S34 : Ste α2 H2 α4 H4 := (Ste.grow G).trans S4
          refine hr' _ _ _ _ y z vy vz d' Q R4.nn (d2.step S34.nb S34.nn) d4 eg' fun v H5 G5 r5 => ?_
          exact hz v α4 H5 (R4.grow G5) (S1.trans (S2.trans (S34.trans (.grow G5)))) r5
theorem se_chain {op op' : CmpOp} {g g' : D → D → Option D} {c' : Expr} (ho : OpD X (compareOp op) g) (ho' : OpD X (compareOp op') g') (ha : SB X W Γ a fa) (hb : SB X W Γ b fb) (hc : SB X W Γ c' fc) (hm : lastMarks [op, op'] [b, c'] = false := by with_unfolding_all rfl) : SE X W Γ (.Compare a [op, op'] [b, c'] pos) (mChain g g' fa fb fc) := by
  obtain ⟨r, o, hr⟩ := ho
  obtain ⟨r', o', hr'⟩ := ho'
  exact fun c sl st α σ H Q R h => ⟨_, pe_chain o o' pe_wp pe_wp pe_wp hm, chain_core hr hr' ha hb hc R h⟩
theorem st_chain {op op' : CmpOp} {g g' : D → D → Option D} {c' : Expr} (ho : OpD X (compareOp op) g) (ho' : OpD X (compareOp op') g') (ha : SB X W Γ a fa) (hb : SB X W Γ b fb) (hc : SB X W Γ c' fc) (hm : lastMarks [op, op'] [b, c'] = false := by with_unfolding_all rfl) : ST X W Γ (.Compare a [op, op'] [b, c'] pos) (mT (mChain g g' fa fb fc)) := by
  obtain ⟨r, o, hr⟩ := ho
  obtain ⟨r', o', hr'⟩ := ho'
  intro c sl st α σ H Q R h
  refine ⟨_, pt_chain o o' pe_wp pe_wp pe_wp hm, ?_⟩
  refine chain_core hr hr' ha hb hc R ((Vx.R.sat_bind.mp h).imp (fun d s1 hd v α1 H1 R1 S1 r1 => ?_) fun _ _ z => z)
  cases eg : gBl d with
  | none => rw [eg] at hd; exact False.elim hd
  | some k =>
    rw [eg] at hd
    have ed := gBl_some eg
    subst ed
    exact ⟨k, rd_bl r1, hd α1 H1 R1 S1⟩

/-! ### not, and, or -/
theorem st_not {ta : FT} (ha : ST X W Γ a ta) : ST X W Γ (.UnaryOp .Not a pos) (mNot ta) := by
  intro c sl st α σ H Q R h
  refine ⟨_, pt_not pt_wp, ?_⟩
  exact ha c sl st α σ H _ R ((Vx.R.sat_bind.mp h).imp (fun d s1 hd α1 H1 R1 S1 => hd α1 H1 R1 S1) fun _ _ z => z)
def SW (X : Cx) (W : WXc) (Γ : List Bool) (e : Expr) (f : FT) : Prop := ∀ c sl st α σ H Q, Rel X.K c Γ sl st α σ H →
  (f sl st).Sat (fun b st' => ∀ α' H', Rel X.K c Γ sl st' α' σ H' → Ste α H α' H' → Q b H') (PX X.K c Γ sl σ W) → ∃ t, PW X e t ∧ t σ H Q
theorem SW.st {t : FT} (h : SW X W Γ a t) : ST X W Γ a t := fun c sl st α σ H Q R q => by
  obtain ⟨t, h1, h2⟩ := h c sl st α σ H Q R q
  exact ⟨t, h1.pt, h2⟩
def wpW (X : Cx) (e : Expr) : TT := fun σ H Q => ∃ t, PW X e t ∧ t σ H Q
theorem pw_wp : PW X e (wpW X e) := ⟨fun wh pins s σ H Q I ⟨_, ht, h⟩ => ht.run wh pins s σ H Q I h⟩
theorem sw_and1 {ta : FT} (ha : ST X W Γ a ta) : SW X W Γ (.BoolOp .And [a] pos) ta := fun c sl st α σ H Q R h => ⟨_, pw_and1 pt_wp, ha c sl st α σ H Q R h⟩
theorem sw_or1 {ta : FT} (ha : ST X W Γ a ta) : SW X W Γ (.BoolOp .Or [a] pos) ta := fun c sl st α σ H Q R h => ⟨_, pw_or1 pt_wp, ha c sl st α σ H Q R h⟩
theorem sw_and {ta tb : FT} {rest : List Expr} (ha : ST X W Γ a ta) (hb : SW X W Γ (.BoolOp .And (b :: rest) pos) tb) : SW X W Γ (.BoolOp .And (a :: b :: rest) pos) (mAnd ta tb) := by
  intro c sl st α σ H Q R h
  refine ⟨_, pw_and pt_wp pw_wp, ?_⟩
  refine ha c sl st α σ H _ R ((Vx.R.sat_bind.mp h).imp (fun d s1 hd α1 H1 R1 S1 => ?_) fun _ _ z => z)
  cases d with
  | true =>
    rw [if_pos rfl] at hd ⊢
    exact hb c sl s1 α1 σ H1 Q R1 (hd.imp (fun k s2 hk α2 H2 R2 S2 => hk α2 H2 R2 (S1.trans S2)) fun _ _ z => z)
  | false =>
    rw [if_neg Bool.false_ne_true] at hd ⊢
    exact hd α1 H1 R1 S1
theorem sw_or {ta tb : FT} {rest : List Expr} (ha : ST X W Γ a ta) (hb : SW X W Γ (.BoolOp .Or (b :: rest) pos) tb) : SW X W Γ (.BoolOp .Or (a :: b :: rest) pos) (mOr ta tb) := by
  intro c sl st α σ H Q R h
  refine ⟨_, pw_or pt_wp pw_wp, ?_⟩
  refine ha c sl st α σ H _ R ((Vx.R.sat_bind.mp h).imp (fun d s1 hd α1 H1 R1 S1 => ?_) fun _ _ z => z)
  cases d with
  | true =>
    rw [if_pos rfl] at hd ⊢
    exact hd α1 H1 R1 S1
  | false =>
    rw [if_neg Bool.false_ne_true] at hd ⊢
    exact hb c sl s1 α1 σ H1 Q R1 (hd.imp (fun k s2 hk α2 H2 R2 S2 => hk α2 H2 R2 (S1.trans S2)) fun _ _ z => z)
theorem se_one {op} (ha : SE X W Γ a fa) : SE X W Γ (.BoolOp op [a] pos) fa := fun c sl st α σ H Q R h => ⟨_, pe_one pe_wp, ha c sl st α σ H Q R h⟩
theorem se_and {rest : List Expr} (ha : SE X W Γ a fa) (hb : SE X W Γ (.BoolOp .And (b :: rest) pos) fb) : SE X W Γ (.BoolOp .And (a :: b :: rest) pos) (mAndV fa fb) := by
  intro c sl st α σ H Q R h
  refine ⟨_, pe_and pe_wp pe_wp, ?_⟩
  refine ha c sl st α σ H _ R ((Vx.R.sat_bind.mp h).imp (fun d s1 hd v α1 H1 R1 S1 r1 => ?_) fun _ _ z => z)
  cases eg : gBl d with
  | none => rw [eg] at hd; exact False.elim hd
  | some k =>
    rw [eg] at hd
    have ed := gBl_some eg
    subst ed
    refine ⟨k, rd_bl r1, ?_⟩
    have hd : (if k = true then fb sl s1 else .ok (.bl false) s1 : Vx.R D).Sat (PQ X.K c Γ sl α σ H Q) (PX X.K c Γ sl σ W) := hd
    cases k with
    | true =>
      rw [if_pos rfl] at hd ⊢
      exact hb c sl s1 α1 σ H1 Q R1 (hd.imp (fun k s2 hk v α2 H2 R2 S2 => hk v α2 H2 R2 (S1.trans S2)) fun _ _ z => z)
    | false =>
      rw [if_neg Bool.false_ne_true] at hd ⊢
      exact hd _ α1 H1 R1 S1 (.bl false)
theorem se_or {rest : List Expr} (ha : SE X W Γ a fa) (hb : SE X W Γ (.BoolOp .Or (b :: rest) pos) fb) : SE X W Γ (.BoolOp .Or (a :: b :: rest) pos) (mOrV fa fb) := by
  intro c sl st α σ H Q R h
  refine ⟨_, pe_or pe_wp pe_wp, ?_⟩
  refine ha c sl st α σ H _ R ((Vx.R.sat_bind.mp h).imp (fun d s1 hd v α1 H1 R1 S1 r1 => ?_) fun _ _ z => z)
  cases eg : gBl d with
  | none => rw [eg] at hd; exact False.elim hd
  | some k =>
    rw [eg] at hd
    have ed := gBl_some eg
    subst ed
    refine ⟨k, rd_bl r1, ?_⟩
    have hd : (if k = true then .ok (.bl true) s1 else fb sl s1 : Vx.R D).Sat (PQ X.K c Γ sl α σ H Q) (PX X.K c Γ sl σ W) := hd
    cases k with
    | true =>
      rw [if_pos rfl] at hd ⊢
      exact hd _ α1 H1 R1 S1 (.bl true)
    | false =>
      rw [if_neg Bool.false_ne_true] at hd ⊢
      exact hb c sl s1 α1 σ H1 Q R1 (hd.imp (fun k s2 hk v α2 H2 R2 S2 => hk v α2 H2 R2 (S1.trans S2)) fun _ _ z => z)
theorem se_not (ha : SE X W Γ a fa) : SE X W Γ (.UnaryOp .Not a pos) (mUn gNot fa) := by
  intro c sl st α σ H Q R h
  refine ⟨_, pe_not pe_wp, ?_⟩
  refine ha c sl st α σ H _ R ((Vx.R.sat_bind.mp h).imp (fun d s1 hd v α1 H1 R1 S1 r1 => ?_) fun _ _ z => z)
  cases d with
  | bl k => exact ⟨k, rd_bl r1, hd _ α1 H1 R1 S1 (.bl _)⟩
  | _ => exact False.elim hd
theorem se_neg (ha : SE X W Γ a fa) : SE X W Γ (.UnaryOp .USub a pos) (mUn gNeg fa) := by
  intro c sl st α σ H Q R h
  refine ⟨_, pe_un un_neg pe_wp, ?_⟩
  refine ha c sl st α σ H _ R ((Vx.R.sat_bind.mp h).imp (fun d s1 hd v α1 H1 R1 S1 r1 => ?_) fun _ _ z => z)
  cases d with
  | int k => exact ⟨k, by cases r1; rfl, hd _ α1 H1 R1 S1 (.int _)⟩
  | _ => exact False.elim hd

/-! ### arguments, displays -/
theorem sa_nil : SA X W Γ [] mNil := fun c sl st α σ H Q R h => ⟨_, pa_nil, h [] α H R .refl .nil⟩
theorem sa_cons {fr : FA} (ha : SE X W Γ e fa) (hr : SA X W Γ es fr) (hs : starEach (e :: es) X.env = (false, eval e X.env) :: starEach es X.env := by rfl) : SA X W Γ (e :: es) (mCons fa fr) := by
  intro c sl st α σ H Q R h
  refine ⟨_, pa_cons pe_wp pa_wp hs, ?_⟩
  refine ha c sl st α σ H _ R ((Vx.R.sat_bind.mp h).imp (fun d s1 hd v α1 H1 R1 S1 r1 => ?_) fun _ _ z => z)
  refine hr c sl s1 α1 σ H1 _ R1 ((Vx.R.sat_bind.mp hd).imp (fun ds s2 hds vs α2 H2 R2 S2 r2 => ?_) fun _ _ z => z)
  exact hds (v :: vs) α2 H2 R2 (S1.trans S2) (.cons (r1.step S2.nn) r2)
theorem sab_nil : SAb X W Γ [] mNil := fun c sl st α σ H Q R h => ⟨_, pa_nil, h [] α H R .refl .nil⟩
theorem RBs.step {N' T' : Addr → Prop} {α' : List Addr} {H' : Hp} (s : Stp T α H T' α' H') (t : Stp N α H N' α' H') : ∀ {ds : List D} {vs : List V}, RBs K N T α H ds vs → RBs K N' T' α' H' ds vs
  | _, _, .nil => .nil
  | _, _, .cons r q => .cons (r.step s t) (RBs.step s t q)
theorem sab_cons {fr : FA} (ha : SB X W Γ e fa) (hr : SAb X W Γ es fr) (hs : starEach (e :: es) X.env = (false, eval e X.env) :: starEach es X.env := by rfl) : SAb X W Γ (e :: es) (mCons fa fr) := by
  intro c sl st α σ H Q R h
  refine ⟨_, pa_cons pe_wp pa_wp hs, ?_⟩
  refine ha c sl st α σ H _ R ((Vx.R.sat_bind.mp h).imp (fun d s1 hd v α1 H1 R1 S1 r1 => ?_) fun _ _ z => z)
  refine hr c sl s1 α1 σ H1 _ R1 ((Vx.R.sat_bind.mp hd).imp (fun ds s2 hds vs α2 H2 R2 S2 r2 => ?_) fun _ _ z => z)
  exact hds (v :: vs) α2 H2 R2 (S1.trans S2) (.cons (r1.step S2.nb S2.nn) r2)
theorem szOk_le {n : Nat} (h : szOk n = true) : n ≤ sizeLine := by
  rw [sizeLine_eq]
  exact of_decide_eq_true h
theorem se_tup {x1} {fr : FA} (ha : SA X W Γ es fr) : SE X W Γ (.Tuple es x1 pos) (mTup fr) := by
  intro c sl st α σ H Q R h
  refine ⟨_, pe_tup pa_wp, ?_⟩
  refine ha c sl st α σ H _ R ((Vx.R.sat_bind.mp h).imp (fun ds s1 hd vs α1 H1 R1 S1 r1 => ?_) fun _ _ z => z)
  by_cases hz : szOk ds.length = true
  · rw [if_pos hz] at hd
    refine ⟨by rw [← r1.length]; exact szOk_le hz, fun p hp => ?_⟩
    have G : Same H1 (upd H1 p (.tup vs)) := same_upd hp
    exact hd (.ref p) α1 _ (R1.grow G) (S1.trans (.grow G)) (.tup (R1.fresh hp) (.of upd_same) (r1.step (.grow G)))
  · rw [if_neg hz] at hd
    exact False.elim hd
/-- a new list just laid -/
theorem PQf.new {c : Cz} {sl : Sl} {σ : St} {Q : VK} {d : D} {st : Sto} {o : HO} {p : Addr} {α1 : List Addr} {H1 : Hp} (h : PQf K c Γ sl α σ H Q d st) (R0 : Rel K c Γ sl st α1 σ H1) (S : Ste α H α1 H1) (hn : ∀ a, a ∈ α → H a ≠ none) (hp : H1 p = none) (r : ROb K (NN c Γ σ α1) α1 H1 d o) : Q (.ref p) (upd H1 p o) := by
  obtain ⟨R1, S1⟩ := R0.new (o := o) hp
  refine h p o α1 (upd H1 p o) ?_ upd_same R1 (S.trans (.grow (same_upd hp))) (r.step S1)
  cases q : H p with
  | none => rfl
  | some u =>
    by_cases m : p ∈ α
    · obtain ⟨t, e⟩ := S.pre
      exact absurd hp (R0.sto.tr (by rw [e]; exact List.mem_append_left _ m))
    · rw [S.keep p u q m] at hp
      cases hp
theorem sf_lst {fr : FA} (ha : SA X W Γ es fr) : SF X W Γ (.List es pos) (mLst fr) := by
  intro c sl st α σ H Q R h
  refine ⟨_, pe_lst pa_wp, ?_⟩
  refine ha c sl st α σ H _ R ((Vx.R.sat_bind.mp h).imp (fun ds s1 hd vs α1 H1 R1 S1 r1 => ?_) fun _ _ z => z)
  by_cases hz : szOk ds.length = true
  · rw [if_pos hz] at hd
    exact ⟨by rw [← r1.length]; exact szOk_le hz, fun p hp => hd.new R1 S1 (fun _ m => R.sto.tr m) hp r1⟩
  · rw [if_neg hz] at hd
    exact False.elim hd
theorem sf_dic : SF X W Γ (.Dict [] [] pos) (mC (.dic [])) := fun c sl st α σ H Q R h => ⟨_, pe_dnewK, fun p hp => PQf.new (o := .dK []) h R .refl (fun _ m => R.sto.tr m) hp .nil⟩

/-! ### built-in functions by name -/
def CallD (X : Cx) (v : Value) (g : List D → Option D) : Prop := ∃ r : List V → Hp → VK → Prop, CallR X v r ∧
  ∀ (N T : Addr → Prop) (α : List Addr) (H : Hp) (xs : List D) (vs : List V) (d : D) (Q : VK), (∀ a, N a → H a ≠ none) → RBs X.K N T α H xs vs → g xs = some d →
    (∀ v H', Same H H' → RD X.K N α H' d v → Q v H') → r vs H Q
/-- the same, a new list or dict -/
def CallF (X : Cx) (v : Value) (g : List D → Option D) : Prop := ∃ r : List V → Hp → VK → Prop, CallR X v r ∧
  ∀ (N T : Addr → Prop) (α : List Addr) (H : Hp) (xs : List D) (vs : List V) (d : D) (Q : VK), (∀ a, N a → H a ≠ none) → RBs X.K N T α H xs vs → g xs = some d →
    (∀ p o, H p = none → ROb X.K N α H d o → Q (.ref p) (upd H p o)) → r vs H Q
theorem call_core {r : List V → Hp → VK → Prop} {g : List D → Option D} {fr : FA} (hr : ∀ (N T : Addr → Prop) (α : List Addr) (H : Hp) (xs : List D) (vs : List V) (d : D) (Q : VK), (∀ a, N a → H a ≠ none) → RBs X.K N T α H xs vs → g xs = some d → (∀ v H', Same H H' → RD X.K N α H' d v → Q v H') → r vs H Q)
    (ha : SAb X W Γ es fr) {c : Cz} {sl : Sl} {st : Sto} {α : List Addr} {σ : St} {H : Hp} {Q : VK} (R : Rel X.K c Γ sl st α σ H) (h : (mArgs g fr sl st).Sat (PQ X.K c Γ sl α σ H Q) (PX X.K c Γ sl σ W)) : tCB r (wpA X es) σ H Q := by
  refine ha c sl st α σ H _ R ((Vx.R.sat_bind.mp h).imp (fun ds s1 hd vs α1 H1 R1 S1 r1 => ?_) fun _ _ z => z)
  cases eg : g ds with
  | none => rw [eg] at hd; exact False.elim hd
  | some d =>
    rw [eg] at hd
    exact hr _ _ _ _ ds vs d Q R1.nn r1 eg fun v H' G r => hd v α1 H' (R1.grow G) (S1.trans (.grow G)) r
theorem callF_core {r : List V → Hp → VK → Prop} {g : List D → Option D} {fr : FA} (hr : ∀ (N T : Addr → Prop) (α : List Addr) (H : Hp) (xs : List D) (vs : List V) (d : D) (Q : VK), (∀ a, N a → H a ≠ none) → RBs X.K N T α H xs vs → g xs = some d → (∀ p o, H p = none → ROb X.K N α H d o → Q (.ref p) (upd H p o)) → r vs H Q)
    (ha : SAb X W Γ es fr) {c : Cz} {sl : Sl} {st : Sto} {α : List Addr} {σ : St} {H : Hp} {Q : VK} (R : Rel X.K c Γ sl st α σ H) (h : (mArgs g fr sl st).Sat (PQf X.K c Γ sl α σ H Q) (PX X.K c Γ sl σ W)) : tCB r (wpA X es) σ H Q := by
  refine ha c sl st α σ H _ R ((Vx.R.sat_bind.mp h).imp (fun ds s1 hd vs α1 H1 R1 S1 r1 => ?_) fun _ _ z => z)
  cases eg : g ds with
  | none => rw [eg] at hd; exact False.elim hd
  | some d =>
    rw [eg] at hd
    exact hr _ _ _ _ ds vs d Q R1.nn r1 eg fun p o hp r => PQf.new hd R1 S1 (fun _ m => R.sto.tr m) hp r
theorem se_callB {id : String} {g : List D → Option D} {fr : FA} (hc : CallD X (.builtin id) g) (hm : X.mg x = none) (hv : bootBuiltins x = some (.builtin id)) (ha : SAb X W Γ (e :: es) fr) (hg : Gl X x := by rfl) (hn : x ≠ "__name__" := by decide) (hdb : (x == ("__debug__" : Str)) = false := by decide)
    (he : starEach (e :: es) X.env = (false, eval e X.env) :: starEach es X.env := by rfl) (hpl : (backTo pos (starEach es X.env)).any (·.1) = false := by rfl) : SE X W Γ (.Call (.Name x p) (e :: es) [] pos) (mArgs g fr) := by
  obtain ⟨r, o, hr⟩ := hc
  exact fun c sl st α σ H Q R h => ⟨_, pe_callB o hg hm hv pa_wp hn hdb he hpl, call_core hr ha R h⟩
theorem se_callTy {T : String} {g : List D → Option D} {fr : FA} (hc : CallD X (.type T) g) (hm : X.mg x = none) (hv : bootBuiltins x = some (.type T)) (ha : SAb X W Γ (e :: es) fr) (hg : Gl X x := by rfl) (hn : x ≠ "__name__" := by decide) (hdb : (x == ("__debug__" : Str)) = false := by decide)
    (he : starEach (e :: es) X.env = (false, eval e X.env) :: starEach es X.env := by rfl) (hpl : (backTo pos (starEach es X.env)).any (·.1) = false := by rfl) : SE X W Γ (.Call (.Name x p) (e :: es) [] pos) (mArgs g fr) := by
  obtain ⟨r, o, hr⟩ := hc
  exact fun c sl st α σ H Q R h => ⟨_, pe_callTy o hg hm hv pa_wp hn hdb he hpl, call_core hr ha R h⟩
theorem sf_callB {id : String} {g : List D → Option D} {fr : FA} (hc : CallF X (.builtin id) g) (hm : X.mg x = none) (hv : bootBuiltins x = some (.builtin id)) (ha : SAb X W Γ (e :: es) fr) (hg : Gl X x := by rfl) (hn : x ≠ "__name__" := by decide) (hdb : (x == ("__debug__" : Str)) = false := by decide)
    (he : starEach (e :: es) X.env = (false, eval e X.env) :: starEach es X.env := by rfl) (hpl : (backTo pos (starEach es X.env)).any (·.1) = false := by rfl) : SF X W Γ (.Call (.Name x p) (e :: es) [] pos) (mArgs g fr) := by
  obtain ⟨r, o, hr⟩ := hc
  exact fun c sl st α σ H Q R h => ⟨_, pe_callB o hg hm hv pa_wp hn hdb he hpl, callF_core hr ha R h⟩
theorem sf_callTy {T : String} {g : List D → Option D} {fr : FA} (hc : CallF X (.type T) g) (hm : X.mg x = none) (hv : bootBuiltins x = some (.type T)) (ha : SAb X W Γ (e :: es) fr) (hg : Gl X x := by rfl) (hn : x ≠ "__name__" := by decide) (hdb : (x == ("__debug__" : Str)) = false := by decide)
    (he : starEach (e :: es) X.env = (false, eval e X.env) :: starEach es X.env := by rfl) (hpl : (backTo pos (starEach es X.env)).any (·.1) = false := by rfl) : SF X W Γ (.Call (.Name x p) (e :: es) [] pos) (mArgs g fr) := by
  obtain ⟨r, o, hr⟩ := hc
  exact fun c sl st α σ H Q R h => ⟨_, pe_callTy o hg hm hv pa_wp hn hdb he hpl, callF_core hr ha R h⟩
/-- isinstance(x, T), T a built-in class -/
theorem se_isi {T : String} {y : Str} {p p2 : Pos} {a : Expr} (hcl : ∀ (N T' : Addr → Prop) (α : List Addr) (H : Hp) (d : D) (v : V), RB X.K N T' α H d v → (∀ n, d ≠ .obj n) → (∀ k, d ≠ .dic k) → ∃ t, TyX X.K H v t ∧ PySem.W.kitOne X.K t (.type T) = some (d.isT T))
    (hm : X.mg "isinstance" = none) (hmT : X.mg y = none) (hvT : bootBuiltins y = some (.type T)) (ha : SB X W Γ a fa) (hg : Gl X "isinstance" := by rfl) (hgT : Gl X y := by rfl) (hv : bootBuiltins "isinstance" = some (.builtin "isinstance") := by decide +kernel) (hyn : y ≠ "__name__" := by decide) (hyd : (y == ("__debug__" : Str)) = false := by decide)
    (he : starEach [a, .Name y p2] X.env = (false, eval a X.env) :: starEach [.Name y p2] X.env := by rfl) (he2 : starEach [.Name y p2] X.env = (false, eval (.Name y p2) X.env) :: starEach [] X.env := by rfl) (hpl : (backTo pos (starEach [.Name y p2] X.env)).any (·.1) = false := by rfl) :
    SE X W Γ (.Call (.Name "isinstance" p) [a, .Name y p2] [] pos) (mUn (gIsi T) fa) := by
  intro c sl st α σ H Q R h
  refine ⟨_, pe_callB call_isi hg hm hv (pa_cons (e := a) pe_wp (pa_cons (pe_bltn (v := .ty T) hgT hmT hvT rfl hyn hyd) pa_nil he2) he) (by decide) (by decide) he hpl, ?_⟩
  refine ha c sl st α σ H _ R ((Vx.R.sat_bind.mp h).imp (fun d s1 hd v α1 H1 R1 S1 r1 => ?_) fun _ _ z => z)
  have hno : ∀ n, d ≠ .obj n := fun n q => by subst q; exact False.elim hd
  have hnd : ∀ n, d ≠ .dic n := fun n q => by subst q; exact False.elim hd
  obtain ⟨t, ht, hk⟩ := hcl _ _ _ _ d v r1 hno hnd
  refine ⟨v, .ty T, t, .type T, d.isT T, rfl, .ty T, ht, hk, ?_⟩
  have hd' : PQ X.K c Γ sl α σ H Q (.bl (d.isT T)) s1 := by cases d <;> first | exact hd | exact False.elim hd
  exact hd' _ α1 H1 R1 S1 (.bl _)

/-! ### items, slices -/
def IxD (X : Cx) (g : D → D → Option D) : Prop := ∃ r : R2, IxR X r ∧
  ∀ (N T : Addr → Prop) (α : List Addr) (H : Hp) (x y : D) (vx vy : V) (d : D) (Q : VK), (∀ a, N a → H a ≠ none) → RB X.K N T α H x vx → RB X.K N T α H y vy → g x y = some d →
    (∀ v H', Same H H' → RD X.K N α H' d v → Q v H') → r vx vy H Q
theorem se_ix {g : D → D → Option D} (ho : IxD X g) (ha : SB X W Γ a fa) (hb : SB X W Γ b fb) (hs : PlainIx b := by intro _ _; rfl) : SE X W Γ (.Subscript a b pos) (mBin g fa fb) := by
  obtain ⟨r, o, hr⟩ := ho
  exact fun c sl st α σ H Q R h => ⟨_, pe_ix o pe_wp pe_wp hs, bin_core hr ha hb R h⟩
theorem so_none : SO X W Γ none mNoO := fun c sl st α σ H Q R h => ⟨_, po_none, h α H R .refl⟩
theorem so_some (ha : SE X W Γ a fa) : SO X W Γ (some a) (mO fa) := by
  intro c sl st α σ H Q R h
  refine ⟨_, po_some pe_wp, ?_⟩
  refine ha c sl st α σ H _ R ((Vx.R.sat_bind.mp h).imp (fun d s1 hd v α1 H1 R1 S1 r1 => ?_) fun _ _ z => z)
  cases d with
  | int k => exact ⟨k, by cases r1; rfl, hd α1 H1 R1 S1⟩
  | _ => exact False.elim hd
def CutD (X : Cx) (g : D → Option Int → Option Int → Option D) : Prop := ∃ r : V → Option Int → Option Int → Hp → VK → Prop, SlR X r ∧
  ∀ (N T : Addr → Prop) (α : List Addr) (H : Hp) (x : D) (i j : Option Int) (vx : V) (d : D) (Q : VK), (∀ a, N a → H a ≠ none) → RB X.K N T α H x vx → g x i j = some d →
    (∀ v H', Same H H' → RD X.K N α H' d v → Q v H') → r vx i j H Q
def CutF (X : Cx) (g : D → Option Int → Option Int → Option D) : Prop := ∃ r : V → Option Int → Option Int → Hp → VK → Prop, SlR X r ∧
  ∀ (N T : Addr → Prop) (α : List Addr) (H : Hp) (x : D) (i j : Option Int) (vx : V) (d : D) (Q : VK), (∀ a, N a → H a ≠ none) → RB X.K N T α H x vx → g x i j = some d →
    (∀ p o, H p = none → ROb X.K N α H d o → Q (.ref p) (upd H p o)) → r vx i j H Q
theorem se_cut {lo hi : Option Expr} {p2 : Pos} {fl fh : FO} (ho : CutD X gCut) (ha : SB X W Γ a fa) (hl : SO X W Γ lo fl) (hh : SO X W Γ hi fh) : SE X W Γ (.Subscript a (.Slice lo hi none p2) pos) (mCut fa fl fh) := by
  obtain ⟨r, o, hr⟩ := ho
  intro c sl st α σ H Q R h
  refine ⟨_, pe_slice o pe_wp po_wp po_wp, ?_⟩
  refine ha c sl st α σ H _ R ((Vx.R.sat_bind.mp h).imp (fun d s1 hd v α1 H1 R1 S1 r1 => ?_) fun _ _ z => z)
  refine hl c sl s1 α1 σ H1 _ R1 ((Vx.R.sat_bind.mp hd).imp (fun i s2 hi α2 H2 R2 S2 => ?_) fun _ _ z => z)
  refine hh c sl s2 α2 σ H2 _ R2 ((Vx.R.sat_bind.mp hi).imp (fun j s3 hj α3 H3 R3 S3 => ?_) fun _ _ z => z)
  cases eg : gCut d i j with
  | none => rw [eg] at hj; exact False.elim hj
  | some z =>
    rw [eg] at hj
    have S23 := S2.trans S3
    exact hr _ _ _ _ d i j v z Q R3.nn (r1.step S23.nb S23.nn) eg fun v H' G r => hj v α3 H' (R3.grow G) (S1.trans (S23.trans (.grow G))) r
theorem sf_cut {lo hi : Option Expr} {p2 : Pos} {fl fh : FO} (ho : CutF X gCutL) (ha : SB X W Γ a fa) (hl : SO X W Γ lo fl) (hh : SO X W Γ hi fh) : SF X W Γ (.Subscript a (.Slice lo hi none p2) pos) (mCutL fa fl fh) := by
  obtain ⟨r, o, hr⟩ := ho
  intro c sl st α σ H Q R h
  refine ⟨_, pe_slice o pe_wp po_wp po_wp, ?_⟩
  refine ha c sl st α σ H _ R ((Vx.R.sat_bind.mp h).imp (fun d s1 hd v α1 H1 R1 S1 r1 => ?_) fun _ _ z => z)
  refine hl c sl s1 α1 σ H1 _ R1 ((Vx.R.sat_bind.mp hd).imp (fun i s2 hi α2 H2 R2 S2 => ?_) fun _ _ z => z)
  refine hh c sl s2 α2 σ H2 _ R2 ((Vx.R.sat_bind.mp hi).imp (fun j s3 hj α3 H3 R3 S3 => ?_) fun _ _ z => z)
  cases eg : gCutL d i j with
  | none => rw [eg] at hj; exact False.elim hj
  | some z =>
    rw [eg] at hj
    have S23 := S2.trans S3
    exact hr _ _ _ _ d i j v z Q R3.nn (r1.step S23.nb S23.nn) eg fun p o hp r => PQf.new hj R3 (S1.trans S23) (fun _ m => R.sto.tr m) hp r
end
end Vx

/-! VOps: the operators and built-in functions that the text uses. -/
namespace Vx
open PySem PySem.Spec L2
section
variable {X : Cx} {K : PySem.W.Frag} {N T : Addr → Prop} {α : List Addr} {H : Hp}
theorem rb_int {i : Int} {v : V} (h : RB K N T α H (.int i) v) : v = .int i := by cases (show RD K N α H (.int i) v from h); rfl
theorem rb_str {i : Str} {v : V} (h : RB K N T α H (.str i) v) : v = .str i := by cases (show RD K N α H (.str i) v from h); rfl
theorem rb_bl {i : Bool} {v : V} (h : RB K N T α H (.bl i) v) : v = .bl i := by cases (show RD K N α H (.bl i) v from h); rfl
theorem rb_non {v : V} (h : RB K N T α H .non v) : v = .non := by cases (show RD K N α H .non v from h); rfl
theorem ite_some {α : Type} {c : Prop} [Decidable c] {a b : α} (h : (if c then some a else none) = some b) : c ∧ b = a := by
  by_cases hc : c
  · rw [if_pos hc] at h
    exact ⟨hc, (Option.some.inj h).symm⟩
  · rw [if_neg hc] at h
    cases h
theorem OpD.of_I {f : Value → Value → Sem Value} {C : Int → Int → Prop} {k : Int → Int → V} {g : D → D → Option D} (h : OpR X f (rI C k))
    (hg : ∀ x y d, g x y = some d → ∃ i j, x = .int i ∧ y = .int j ∧ C i j ∧ ∀ N α H, RD X.K N α H d (k i j)) : OpD X f g := by
  refine ⟨_, h, fun N T α H x y vx vy d Q _ rx ry e q => ?_⟩
  obtain ⟨i, j, ex, ey, c, r⟩ := hg x y d e
  subst ex ey
  exact ⟨i, j, rb_int rx, rb_int ry, c, q _ H (Same.refl H) (r _ _ _)⟩
theorem OpD.of_I0 {f : Value → Value → Sem Value} {k : Int → Int → V} {g : D → D → Option D} (h : OpR X f (rI0 k))
    (hg : ∀ x y d, g x y = some d → ∃ i j, x = .int i ∧ y = .int j ∧ ∀ N α H, RD X.K N α H d (k i j)) : OpD X f g := by
  refine ⟨_, h, fun N T α H x y vx vy d Q _ rx ry e q => ?_⟩
  obtain ⟨i, j, ex, ey, r⟩ := hg x y d e
  subst ex ey
  exact ⟨i, j, rb_int rx, rb_int ry, q _ H (Same.refl H) (r _ _ _)⟩
theorem opd_sub : OpD X (binaryOp .Sub) gSub := .of_I0 op_sub fun x y d e => by
  unfold gSub at e; split at e
  · cases e; exact ⟨_, _, rfl, rfl, fun _ _ _ => .int _⟩
  · cases e
theorem opd_lt : OpD X (compareOp .Lt) gLt := .of_I0 op_lt fun x y d e => by
  unfold gLt at e; split at e
  · cases e; exact ⟨_, _, rfl, rfl, fun _ _ _ => .bl _⟩
  · cases e
theorem opd_le : OpD X (compareOp .LtE) gLe := .of_I0 op_le fun x y d e => by
  unfold gLe at e; split at e
  · cases e; exact ⟨_, _, rfl, rfl, fun _ _ _ => .bl _⟩
  · cases e
theorem opd_gt : OpD X (compareOp .Gt) gGt := .of_I0 op_gt fun x y d e => by
  unfold gGt at e; split at e
  · cases e; exact ⟨_, _, rfl, rfl, fun _ _ _ => .bl _⟩
  · cases e
theorem opd_ge : OpD X (compareOp .GtE) gGe := .of_I0 op_ge fun x y d e => by
  unfold gGe at e; split at e
  · cases e; exact ⟨_, _, rfl, rfl, fun _ _ _ => .bl _⟩
  · cases e
theorem opd_mul : OpD X (binaryOp .Mult) gMul := .of_I op_mul fun x y d e => by
  unfold gMul at e; split at e
  · obtain ⟨hc, rfl⟩ := ite_some e
    rw [Bool.or_eq_true, decide_eq_true_eq, decide_eq_true_eq] at hc
    exact ⟨_, _, rfl, rfl, by unfold CMul; omega, fun _ _ _ => .int _⟩
  · cases e
theorem opd_div : OpD X (binaryOp .FloorDiv) gDiv := .of_I op_fdiv fun x y d e => by
  unfold gDiv at e; split at e
  · obtain ⟨hc, rfl⟩ := ite_some e
    rw [Bool.and_eq_true, decide_eq_true_eq, decide_eq_true_eq] at hc
    exact ⟨_, _, rfl, rfl, hc, fun _ _ _ => .int _⟩
  · cases e
theorem opd_mod : OpD X (binaryOp .Mod) gMod := .of_I op_mod fun x y d e => by
  unfold gMod at e; split at e
  · obtain ⟨hc, rfl⟩ := ite_some e
    exact ⟨_, _, rfl, rfl, hc, fun _ _ _ => .int _⟩
  · cases e
theorem opd_pow : OpD X (binaryOp .Pow) gPow := .of_I op_pow fun x y d e => by
  unfold gPow at e; split at e
  · obtain ⟨hc, rfl⟩ := ite_some e
    rw [Bool.and_eq_true, Bool.and_eq_true, decide_eq_true_eq, decide_eq_true_eq, decide_eq_true_eq] at hc
    exact ⟨_, _, rfl, rfl, ⟨hc.1.1, hc.1.2, hc.2⟩, fun _ _ _ => .int _⟩
  · cases e
theorem opd_shr : OpD X (binaryOp .RShift) gShr := .of_I op_shr fun x y d e => by
  unfold gShr at e; split at e
  · obtain ⟨hc, rfl⟩ := ite_some e
    exact ⟨_, _, rfl, rfl, hc, fun _ _ _ => .int _⟩
  · cases e
theorem opd_mask : OpD X (binaryOp .BitAnd) gMask := by
  refine ⟨_, op_andM, fun N T α H x y vx vy d Q _ rx ry e q => ?_⟩
  unfold gMask at e; split at e
  · obtain ⟨hc, rfl⟩ := ite_some e
    subst hc
    exact ⟨_, 31, rb_int rx, rb_int ry, q _ H (Same.refl H) (.int _)⟩
  · cases e
/-- xs + ys, both lists as they are read -/
def rCatS (K : PySem.W.Frag) : R2 := fun x y H Q => ∃ l b xs zs, x = .ref l ∧ y = .ref b ∧ SqL K H l xs ∧ SqL K H b zs ∧ xs.length + zs.length ≤ sizeLine ∧ ∀ p, H p = none → Q (.ref p) (upd H p (.lst (xs ++ zs)))
theorem op_catS : OpR X (binaryOp .Add) (rCatS X.K) := by
  intro pins s σ H x y v u Q I rx ry h
  obtain ⟨l, b, xs, zs, rfl, rfl, hH, hB, hz, q⟩ := h
  cases rx
  cases ry
  obtain ⟨its, r, hl, _⟩ := I.list hH
  obtain ⟨its2, r2, hl2, _⟩ := I.list hB
  obtain ⟨⟨cls, dd, data, sl⟩, ho, hc, n, hd⟩ := id hl.isList
  obtain ⟨⟨cls2, dd2, data2, sl2⟩, ho2, hc2, n2, hd2⟩ := id hl2.isList
  simp only at hc hd hc2 hd2
  subst hc hd hc2 hd2
  have h1 := r.length
  have h2 := r2.length
  have e : its.toArray ++ its2.toArray = (its ++ its2).toArray := by simp
  refine PySem.concat_meets ⟨_, ho, rfl⟩ ⟨_, ho2, rfl⟩ PySem.noFill_list_add PySem.seq_list_add PySem.F.slot_list_add PySem.F.entry_list_add (PySem.F.args_list_add_2 _ _) (PyProof.Rows.list_addW l b its.toArray its2.toArray n n2 dd dd2 sl sl2 (by simp only [List.size_toArray]; omega)) ⟨ho, ho2, ?_⟩
  rw [e]
  exact ⟨.ref _, _, I.lnew (t' := s.toks) (r.append r2) (by rw [List.length_append]; omega), rfl, q _ I.fresh⟩
theorem RDs.nil_iff {ds : List D} {vs : List V} (r : RDs K N α H ds vs) : vs = [] ↔ ds = [] := by cases r <;> simp
theorem opd_add : OpD X (binaryOp .Add) gAdd := by
  refine ⟨_, op_add.or (op_add_str.or (op_catA.or op_catS)), fun N T α H x y vx vy d Q hN rx ry e q => ?_⟩
  unfold gAdd at e; split at e
  · cases e
    exact .inl ⟨_, _, rb_int rx, rb_int ry, q _ H (Same.refl H) (.int _)⟩
  · obtain ⟨hc, rfl⟩ := ite_some e
    exact .inr (.inl ⟨_, _, rb_str rx, rb_str ry, szOk_le hc, q _ H (Same.refl H) (.str _)⟩)
  · obtain ⟨hc, rfl⟩ := ite_some e
    obtain ⟨a, vs, rfl, na, ha, ra⟩ := rx.tup
    obtain ⟨b, ws, rfl, nb, hb, rb⟩ := ry.tup
    refine .inr (.inr (.inl ⟨a, b, vs, ws, rfl, rfl, .inl ha, .inl hb, by rw [← ra.length, ← rb.length]; exact szOk_le hc, fun z => ?_, fun z z' => ?_, fun z z' p hp => ?_⟩))
    · refine q _ H (Same.refl H) (.tup nb hb ?_)
      rw [ra.nil_iff.mp z]
      exact rb
    · refine q _ H (Same.refl H) (.tup na ha ?_)
      rw [rb.nil_iff.mp z', List.append_nil]
      exact ra
    · have G : Same H (upd H p (.tup (vs ++ ws))) := same_upd hp
      exact q _ _ G (.tup (fun n => hN p n hp) (.of upd_same) ((ra.append rb).step (.grow G)))
  · obtain ⟨hc, rfl⟩ := ite_some e
    obtain ⟨a, vs, rfl, ha, ra⟩ := rx.lst
    obtain ⟨b, ws, rfl, hb, rb⟩ := ry.lst
    refine .inr (.inr (.inr ⟨a, b, vs, ws, rfl, rfl, ha, hb, by rw [← ra.length, ← rb.length]; exact szOk_le hc, fun p hp => ?_⟩))
    have G : Same H (upd H p (.lst (vs ++ ws))) := same_upd hp
    exact q _ _ G (.lst (fun n => hN p n hp) (.of upd_same) ((ra.append rb).step (.grow G)))
  · cases e

/-! ### == -/
mutual
def D.py : D → PyData
  | .non => .none
  | .bl b => .bool b
  | .int i => .int i
  | .str x => .str x
  | .tup xs => .tuple (D.pys xs)
  | .lst xs => .list (D.pys xs)
  | .dic _ => .none
  | .obj _ => .none
def D.pys : List D → List PyData
  | [] => []
  | x :: xs => D.py x :: D.pys xs
end
mutual
theorem D.py_eqv : ∀ x y : D, D.pl x = true → D.pl y = true → PyData.eqv (D.py x) (D.py y) = D.eqv x y
  | .tup xs, .tup ys, hx, hy => by
    unfold D.pl at hx hy
    unfold D.py D.eqv
    simp only [PyData.eqv]
    exact D.pys_eqv xs ys hx hy
  | .lst xs, .lst ys, hx, hy => by
    unfold D.pl at hx hy
    unfold D.py D.eqv
    simp only [PyData.eqv]
    exact D.pys_eqv xs ys hx hy
  | .dic _, _, hx, _ => by unfold D.pl at hx; cases hx
  | .obj _, _, hx, _ => by unfold D.pl at hx; cases hx
  | _, .dic _, _, hy => by unfold D.pl at hy; cases hy
  | _, .obj _, _, hy => by unfold D.pl at hy; cases hy
  | .non, .non, _, _ | .non, .bl _, _, _ | .non, .int _, _, _ | .non, .str _, _, _ | .non, .tup _, _, _ | .non, .lst _, _, _ => by simp only [D.py, D.eqv, PyData.eqv]
  | .bl _, .non, _, _ | .bl _, .bl _, _, _ | .bl _, .int _, _, _ | .bl _, .str _, _, _ | .bl _, .tup _, _, _ | .bl _, .lst _, _, _ => by simp only [D.py, D.eqv, PyData.eqv]
  | .int _, .non, _, _ | .int _, .bl _, _, _ | .int _, .int _, _, _ | .int _, .str _, _, _ | .int _, .tup _, _, _ | .int _, .lst _, _, _ => by simp only [D.py, D.eqv, PyData.eqv]
  | .str _, .non, _, _ | .str _, .bl _, _, _ | .str _, .int _, _, _ | .str _, .str _, _, _ | .str _, .tup _, _, _ | .str _, .lst _, _, _ => by simp only [D.py, D.eqv, PyData.eqv]
  | .tup _, .non, _, _ | .tup _, .bl _, _, _ | .tup _, .int _, _, _ | .tup _, .str _, _, _ | .tup _, .lst _, _, _ => by simp only [D.py, D.eqv, PyData.eqv]
  | .lst _, .non, _, _ | .lst _, .bl _, _, _ | .lst _, .int _, _, _ | .lst _, .str _, _, _ | .lst _, .tup _, _, _ => by simp only [D.py, D.eqv, PyData.eqv]
theorem D.pys_eqv : ∀ x y : List D, D.plAll x = true → D.plAll y = true → PyData.eqvAll (D.pys x) (D.pys y) = D.eqvAll x y
  | [], [], _, _ => by simp only [D.pys, D.eqvAll, PyData.eqvAll]
  | [], _ :: _, _, _ => by simp only [D.pys, D.eqvAll, PyData.eqvAll]
  | _ :: _, [], _, _ => by simp only [D.pys, D.eqvAll, PyData.eqvAll]
  | x :: xs, y :: ys, hx, hy => by
    unfold D.plAll at hx hy
    rw [Bool.and_eq_true] at hx hy
    simp only [D.pys, D.eqvAll, PyData.eqvAll]
    rw [D.py_eqv x y hx.1 hy.1, D.pys_eqv xs ys hx.2 hy.2]
end
mutual
theorem D.py_lay : ∀ x : D, D.pl x = true → PyData.canLay0 (D.py x) = true
  | .non, _ | .bl _, _ | .int _, _ => by simp only [D.py, PyData.canLay0]
  | .str x, h => by
    unfold D.pl at h
    simp only [D.py, PyData.canLay0]
    exact Array.all_eq_true.mpr fun i hi => by
      have := Array.all_eq_true.mp h i hi
      rw [decide_eq_true_eq] at this ⊢
      omega
  | .tup xs, h => by
    unfold D.pl at h
    simp only [D.py, PyData.canLay0]
    exact D.pys_lay xs h
  | .lst xs, h => by
    unfold D.pl at h
    simp only [D.py, PyData.canLay0]
    exact D.pys_lay xs h
  | .dic _, h => by unfold D.pl at h; cases h
  | .obj _, h => by unfold D.pl at h; cases h
theorem D.pys_lay : ∀ x : List D, D.plAll x = true → PyData.canLayAll0 (D.pys x) = true
  | [], _ => by simp only [D.pys, PyData.canLayAll0]
  | x :: xs, h => by
    unfold D.plAll at h
    rw [Bool.and_eq_true] at h
    simp only [D.pys, PyData.canLayAll0, Bool.and_eq_true]
    exact ⟨D.py_lay x h.1, D.pys_lay xs h.2⟩
end
mutual
theorem D.py_dep : ∀ x : D, PyData.depth (D.py x) ≤ D.dep x
  | .non | .bl _ | .int _ | .str _ | .dic _ | .obj _ => by simp only [D.py, PyData.depth, D.dep, Nat.le_refl]
  | .tup xs => by
    have := D.pys_dep xs
    simp only [D.py, PyData.depth, D.dep]
    omega
  | .lst xs => by
    have := D.pys_dep xs
    simp only [D.py, PyData.depth, D.dep]
    omega
theorem D.pys_dep : ∀ x : List D, PyData.depthAll (D.pys x) ≤ D.depAll x
  | [] => by simp only [D.pys, PyData.depthAll, D.depAll, Nat.le_refl]
  | x :: xs => by
    have h1 := D.py_dep x
    have h2 := D.pys_dep xs
    simp only [D.pys, PyData.depthAll, D.depAll]
    omega
end
theorem D.py_shaped {x : D} (h : D.shp x = true) : SeqAt.shaped (D.py x) = true := by
  unfold D.shp at h
  rw [Bool.and_eq_true, decide_eq_true_eq] at h
  have hd := D.py_dep x
  show (PyData.canLay0 (D.py x) && decide (PyData.depth (D.py x) ≤ 64)) = true
  rw [Bool.and_eq_true, decide_eq_true_eq]
  exact ⟨D.py_lay x h.1, by omega⟩
theorem sqL_of {a : Addr} {vs : List V} (h : Rd H a (.lst vs)) : SqL K H a vs := .inl h
theorem sqT_of {a : Addr} {vs : List V} (h : Rd H a (.tup vs)) : SqT K H a vs := .inl h
mutual
theorem RD.dp : ∀ {d : D} {v : V}, RD K N α H d v → D.pl d = true → Dp K H v (D.py d)
  | _, _, .non, _ => by unfold D.py; exact .non
  | _, _, .bl b, _ => by unfold D.py; exact .bl b
  | _, _, .int i, _ => by unfold D.py; exact .int i
  | _, _, .str x, _ => by unfold D.py; exact .str x
  | _, _, .tup _ h r, p => by
    unfold D.pl at p
    unfold D.py
    exact .tup (sqT_of h) (RDs.dp r p)
  | _, _, .lst _ h r, p => by
    unfold D.pl at p
    unfold D.py
    exact .lst (sqL_of h) (RDs.dp r p)
  | _, _, .lstK h r, p => by
    unfold D.pl at p
    unfold D.py
    exact .lst h.sq (RDs.dp r p)
  | _, _, .dic _ _ _, p => by unfold D.pl at p; cases p
  | _, _, .obj _, p => by unfold D.pl at p; cases p
theorem RDs.dp : ∀ {d : List D} {v : List V}, RDs K N α H d v → D.plAll d = true → DpAll K H v (D.pys d)
  | _, _, .nil, _ => by unfold D.pys; exact .nil
  | _, _, .cons r t, p => by
    unfold D.plAll at p
    rw [Bool.and_eq_true] at p
    unfold D.pys
    exact .cons (RD.dp r p.1) (RDs.dp t p.2)
end
theorem RB.dp {d : D} {v : V} (h : RB K N T α H d v) (p : D.pl d = true) : Dp K H v (D.py d) := by
  cases d with
  | lst ds =>
    obtain ⟨a, vs, rfl, hs, r⟩ := h.lst
    unfold D.pl at p
    unfold D.py
    exact .lst hs (r.dp p)
  | dic ds => unfold D.pl at p; cases p
  | non => exact RD.dp h p
  | bl b => exact RD.dp h p
  | int b => exact RD.dp h p
  | str b => exact RD.dp h p
  | tup b => exact RD.dp h p
  | obj b => unfold D.pl at p; cases p
theorem shp_pl {x : D} (h : D.shp x = true) : D.pl x = true := by
  unfold D.shp at h
  rw [Bool.and_eq_true] at h
  exact h.1
/-- flat values, as the layer compares them -/
theorem flat_eqv {x y : D} {vx vy : V} (hx : D.flat x = true) (hy : D.flat y = true) (rx : RB K N T α H x vx) (ry : RB K N T α H y vy) : flatV vx = true ∧ flatV vy = true ∧ eqV vx vy = D.eqv x y := by
  cases x <;> first | (cases (show D.flat _ = true from hx)) | skip
  all_goals (cases y <;> first | (cases (show D.flat _ = true from hy)) | skip)
  all_goals (cases (show RD K N α H _ vx from rx); cases (show RD K N α H _ vy from ry); refine ⟨rfl, rfl, ?_⟩; simp only [eqV, D.eqv])

/-! ### the rules of ==, in, is -/
theorem eqOk_cases {x y : D} (h : D.eqOk x y = true) : (∃ a b, x = .str a ∧ y = .str b) ∨ (D.shp x = true ∧ D.shp y = true) := by
  unfold D.eqOk at h
  rw [Bool.or_eq_true, Bool.and_eq_true, Bool.and_eq_true] at h
  rcases h with ⟨h1, h2⟩ | h
  · cases x <;> first | (cases (show D.isStr _ = true from h1)) | skip
    cases y <;> first | (cases (show D.isStr _ = true from h2)) | skip
    exact .inl ⟨_, _, rfl, rfl⟩
  · exact .inr h
theorem opd_eq (hu : X.A.units + 64 < cLine) : OpD X (compareOp .Eq) gEq := by
  refine ⟨_, op_eq.or (op_eqD hu), fun N T α H x y vx vy d Q hN rx ry e q => ?_⟩
  obtain ⟨hc, rfl⟩ := ite_some (show (if D.eqOk x y = true then some (D.bl (D.eqv x y)) else none) = some d from e)
  rcases eqOk_cases hc with ⟨a, b, rfl, rfl⟩ | ⟨hx, hy⟩
  · rw [rb_str rx, rb_str ry]
    refine .inl ⟨rfl, ?_⟩
    have e1 : decide (V.str a = V.str b) = D.eqv (.str a) (.str b) := by rw [dec_str]; simp only [D.eqv]
    exact q _ H (Same.refl H) (by rw [e1]; exact .bl _)
  · exact .inr ⟨_, _, rx.dp (shp_pl hx), ry.dp (shp_pl hy), D.py_shaped hx, D.py_shaped hy, q _ H (Same.refl H) (by rw [D.py_eqv x y (shp_pl hx) (shp_pl hy)]; exact .bl _)⟩
theorem opd_ne (hu : X.A.units + 64 < cLine) : OpD X (compareOp .NotEq) gNe := by
  refine ⟨_, op_ne.or (op_neD hu), fun N T α H x y vx vy d Q hN rx ry e q => ?_⟩
  obtain ⟨hc, rfl⟩ := ite_some (show (if D.eqOk x y = true then some (D.bl (!D.eqv x y)) else none) = some d from e)
  rcases eqOk_cases hc with ⟨a, b, rfl, rfl⟩ | ⟨hx, hy⟩
  · rw [rb_str rx, rb_str ry]
    refine .inl ⟨rfl, ?_⟩
    have e1 : decide (V.str a = V.str b) = D.eqv (.str a) (.str b) := by rw [dec_str]; simp only [D.eqv]
    exact q _ H (Same.refl H) (by rw [e1]; exact .bl _)
  · exact .inr ⟨_, _, rx.dp (shp_pl hx), ry.dp (shp_pl hy), D.py_shaped hx, D.py_shaped hy, q _ H (Same.refl H) (by rw [D.py_eqv x y (shp_pl hx) (shp_pl hy)]; exact .bl _)⟩
theorem flat_v {x : D} {vx : V} (hx : D.flat x = true) (rx : RB K N T α H x vx) : flatV vx = true := by
  cases x <;> first | (cases (show D.flat _ = true from hx)) | skip
  all_goals (cases (show RD K N α H _ vx from rx); rfl)
theorem flat_e1 {x y : D} {vx vy : V} (hx : D.flat x = true) (hy : D.flat y = true) (rx : RD K N α H x vx) (ry : RB K N T α H y vy) : eqV vx vy = D.eqv x y := by
  refine (flat_eqv (N := N) (T := T) (α := α) (H := H) (K := K) hx hy ?_ ry).2.2
  cases x <;> first | exact rx | (cases (show D.flat _ = true from hx))
theorem any_flat {x : D} {vx : V} (hx : D.flat x = true) (rx : RB K N T α H x vx) : ∀ {ys : List D} {vs : List V}, RDs K N α H ys vs → ys.all D.flat = true → vs.all flatV = true ∧ inV vx vs = ys.any fun y => D.eqv y x
  | _, _, .nil, _ => ⟨rfl, rfl⟩
  | _, _, .cons r t, h => by
    rw [List.all_cons, Bool.and_eq_true] at h
    obtain ⟨h1, h2⟩ := any_flat hx rx t h.2
    refine ⟨?_, ?_⟩
    · rw [List.all_cons, h1, Bool.and_true]
      exact flat_v (T := T) h.1 (by rename_i d _ _ _; cases d <;> first | exact r | (cases (show D.flat _ = true from h.1)))
    · unfold inV at h2 ⊢
      rw [List.any_cons, List.any_cons, h2, flat_e1 h.1 hx r rx]
theorem any_py {x : D} (hx : D.pl x = true) : ∀ {ys : List D}, D.plAll ys = true → ((D.pys ys).any fun z => PyData.eqv z (D.py x)) = ys.any fun y => D.eqv y x
  | [], _ => by unfold D.pys; rfl
  | y :: ys, h => by
    unfold D.plAll at h
    rw [Bool.and_eq_true] at h
    unfold D.pys
    rw [List.any_cons, List.any_cons, any_py hx h.2, D.py_eqv y x h.1 hx]
theorem shp_lst {ys : List D} (h : D.shp (.lst ys) = true) : D.plAll ys = true := by
  have := shp_pl h
  unfold D.pl at this
  exact this
theorem opd_in (hu : X.A.units + 65 < cLine) : OpD X (compareOp .In) gIn := by
  refine ⟨_, op_in_seq.or ((op_inD hu).or op_in_sign), fun N T α H x y vx vy d Q hN rx ry e q => ?_⟩
  unfold gIn at e; split at e
  · rename_i ys
    obtain ⟨hc, rfl⟩ := ite_some e
    obtain ⟨a, vs, rfl, hs, r⟩ := ry.lst
    rw [Bool.or_eq_true, Bool.and_eq_true, Bool.and_eq_true] at hc
    rcases hc with ⟨h1, h2⟩ | ⟨h1, h2⟩
    · obtain ⟨f1, f2⟩ := any_flat h1 rx r h2
      refine .inl ⟨a, vs, rfl, .inl hs, flat_v h1 rx, f1, ?_⟩
      rw [if_neg Bool.false_ne_true, f2]
      exact q _ H (Same.refl H) (.bl _)
    · refine .inr (.inl ⟨_, _, rx.dp (shp_pl h1), .lst hs (r.dp (shp_lst h2)), D.py_shaped h1, ?_, ?_⟩)
      · have := D.py_shaped h2
        unfold D.py at this
        exact this
      · rw [any_py (shp_pl h1) (shp_lst h2)]
        exact q _ H (Same.refl H) (.bl _)
  · obtain ⟨hc, rfl⟩ := ite_some e
    obtain ⟨a, vs, rfl, _, hs, r⟩ := ry.tup
    rw [Bool.and_eq_true] at hc
    obtain ⟨f1, f2⟩ := any_flat hc.1 rx r hc.2
    refine .inl ⟨a, vs, rfl, .inr (sqT_of hs), flat_v hc.1 rx, f1, ?_⟩
    rw [if_neg Bool.false_ne_true, f2]
    exact q _ H (Same.refl H) (.bl _)
  · rename_i a b
    split at e
    · rename_i c ec
      cases e
      refine .inr (.inr ⟨c, b, ?_, rb_str ry, q _ H (Same.refl H) (.bl _)⟩)
      rw [rb_str rx]
      obtain ⟨ca⟩ := a
      have : ca = #[c] := by
        apply Array.ext'
        exact ec
      rw [this]
    · cases e
  · cases e
theorem opd_notIn (hu : X.A.units + 65 < cLine) : OpD X (compareOp .NotIn) gNotIn := by
  refine ⟨_, op_notIn_seq.or ((op_notInD hu).or op_notIn_sign), fun N T α H x y vx vy d Q hN rx ry e q => ?_⟩
  unfold gNotIn gIn at e; split at e
  · rename_i ys
    split at e
    · rename_i hc
      cases e
      obtain ⟨a, vs, rfl, hs, r⟩ := ry.lst
      rw [Bool.or_eq_true, Bool.and_eq_true, Bool.and_eq_true] at hc
      rcases hc with ⟨h1, h2⟩ | ⟨h1, h2⟩
      · obtain ⟨f1, f2⟩ := any_flat h1 rx r h2
        refine .inl ⟨a, vs, rfl, .inl hs, flat_v h1 rx, f1, ?_⟩
        rw [if_pos rfl, f2]
        exact q _ H (Same.refl H) (.bl _)
      · refine .inr (.inl ⟨_, _, rx.dp (shp_pl h1), .lst hs (r.dp (shp_lst h2)), D.py_shaped h1, ?_, ?_⟩)
        · have := D.py_shaped h2
          unfold D.py at this
          exact this
        · rw [any_py (shp_pl h1) (shp_lst h2)]
          exact q _ H (Same.refl H) (.bl _)
    · cases e
  · split at e
    · rename_i hc
      cases e
      obtain ⟨a, vs, rfl, _, hs, r⟩ := ry.tup
      rw [Bool.and_eq_true] at hc
      obtain ⟨f1, f2⟩ := any_flat hc.1 rx r hc.2
      refine .inl ⟨a, vs, rfl, .inr (sqT_of hs), flat_v hc.1 rx, f1, ?_⟩
      rw [if_pos rfl, f2]
      exact q _ H (Same.refl H) (.bl _)
    · cases e
  · rename_i a b
    split at e
    · rename_i c ec
      cases e
      refine .inr (.inr ⟨c, b, ?_, rb_str ry, q _ H (Same.refl H) (.bl _)⟩)
      rw [rb_str rx]
      obtain ⟨ca⟩ := a
      have : ca = #[c] := by
        apply Array.ext'
        exact ec
      rw [this]
    · cases e
  · cases e
theorem non_v {x : D} {vx : V} (rx : RB K N T α H x vx) : decide (vx = .non) = x.isNon := by
  cases x with
  | lst ds => obtain ⟨a, vs, rfl, _⟩ := rx; rfl
  | dic ds => obtain ⟨a, vs, rfl, _⟩ := rx; rfl
  | _ => first | (cases (show RD K N α H _ vx from rx); rfl)
theorem opd_is : OpD X (compareOp .Is) gIs := by
  refine ⟨_, op_isN.or op_isBl, fun N T α H x y vx vy d Q hN rx ry e q => ?_⟩
  unfold gIs at e; split at e
  · cases e
    refine .inl ⟨rb_non ry, q _ H (Same.refl H) ?_⟩
    rw [non_v rx]
    exact .bl _
  · cases e
    refine .inr ⟨_, _, rb_bl rx, rb_bl ry, q _ H (Same.refl H) ?_⟩
    rw [← Bool.beq_eq_decide_eq]
    exact .bl _
  · cases e
theorem opd_isNot : OpD X (compareOp .IsNot) gIsNot := by
  refine ⟨_, op_notN.or op_notBl, fun N T α H x y vx vy d Q hN rx ry e q => ?_⟩
  unfold gIsNot at e; split at e
  · cases e
    refine .inl ⟨rb_non ry, q _ H (Same.refl H) ?_⟩
    rw [non_v rx]
    exact .bl _
  · cases e
    refine .inr ⟨_, _, rb_bl rx, rb_bl ry, q _ H (Same.refl H) ?_⟩
    rw [← Bool.beq_eq_decide_eq]
    exact .bl _
  · cases e

/-! ### items, slices -/
theorem ixI_eq {n : Nat} {i : Int} : ixI n i = ixN n i := rfl
theorem RDs.at_ {ds : List D} {vs : List V} {i : Int} {d : D} (r : RDs K N α H ds vs) (h : ((ixI ds.length i).bind fun j => ds[j]?) = some d) : ∃ v, atI vs i = some v ∧ RD K N α H d v := by
  cases e : ixI ds.length i with
  | none => rw [e] at h; cases h
  | some j =>
    rw [e] at h
    obtain ⟨v, h1, h2⟩ := r.get (i := j) h
    refine ⟨v, ?_, h2⟩
    unfold atI
    rw [← r.length, ← ixI_eq, e]
    exact h1
theorem ixd : IxD X gIx := by
  refine ⟨_, ix_seq, fun N T α H x y vx vy d Q hN rx ry e q => ?_⟩
  unfold gIx at e; split at e
  · obtain ⟨a, vs, rfl, hs, r⟩ := rx.lst
    obtain ⟨v, h1, h2⟩ := r.at_ e
    exact .inl ⟨a, vs, _, v, rfl, rb_int ry, hs, h1, q _ H (Same.refl H) h2⟩
  · obtain ⟨a, vs, rfl, _, hs, r⟩ := rx.tup
    obtain ⟨v, h1, h2⟩ := r.at_ e
    exact .inr (.inl ⟨a, vs, _, v, rfl, rb_int ry, (sqT_of hs), h1, q _ H (Same.refl H) h2⟩)
  · rename_i x i
    by_cases hz : szOk x.length = true
    · rw [if_pos hz] at e
      cases e1 : ixI x.length i with
      | none => rw [e1] at e; cases e
      | some j =>
        rw [e1] at e
        cases e2 : x.cps[j]? with
        | none => simp only [Option.bind_some, e2] at e; cases e
        | some c =>
          simp only [Option.bind_some, e2] at e
          cases e
          refine .inr (.inr ⟨x, i, c, rb_str rx, rb_int ry, szOk_le hz, ?_, q _ H (Same.refl H) (.str _)⟩)
          unfold atI
          rw [show x.cps.toList.length = x.length from Array.length_toList, ← ixI_eq, e1]
          simpa using e2
    · rw [if_neg hz] at e
      cases e
  · cases e
theorem sIx_eq {n d : Nat} {o : Option Int} : sIx n d o = HT.sIx n d o := by
  cases o with
  | none => rfl
  | some v =>
    show (if v < 0 then (v + n).toNat else min v.toNat n) = HT.sIx n d (some v)
    by_cases h : v < 0
    · rw [if_pos h]
      have := HT.clip_eq v n d
      rw [if_pos h] at this
      omega
    · rw [if_neg h]
      have := HT.clip_eq v n d
      rw [if_neg h] at this
      omega
theorem RDs.cut {ds : List D} {vs : List V} (r : RDs K N α H ds vs) (i j : Option Int) : RDs K N α H (cutD ds i j) (cutV vs i j) := by
  unfold cutD cutV
  rw [sIx_eq, sIx_eq, r.length]
  exact (r.drop _).take _
theorem cut_whole {ds : List D} {i j : Option Int} (h : HT.sIx ds.length 0 i = 0 ∧ HT.sIx ds.length ds.length j = ds.length) : cutD ds i j = ds := by
  unfold cutD
  rw [sIx_eq, sIx_eq, h.1, h.2]
  simp
theorem cutd : CutD X gCut := by
  refine ⟨_, sl_list.or (sl_tupA.or sl_str), fun N T α H x i j vx d Q hN rx e q => ?_⟩
  unfold gCut at e; split at e
  · cases e
    obtain ⟨a, vs, rfl, hs, r⟩ := rx.lst
    refine .inl ⟨a, vs, rfl, hs, fun p hp => ?_⟩
    have G : Same H (upd H p (.lst (cutV vs i j))) := same_upd hp
    exact q _ _ G (.lst (fun n => hN p n hp) (.of upd_same) ((r.cut _ _).step (.grow G)))
  · cases e
    obtain ⟨a, vs, rfl, n, hs, r⟩ := rx.tup
    refine .inr (.inl ⟨a, vs, rfl, (sqT_of hs), fun hw => ?_, fun hw p hp => ?_⟩)
    · rw [← r.length] at hw
      rw [cut_whole hw] at q
      exact q _ H (Same.refl H) (.tup n hs r)
    · have G : Same H (upd H p (.tup (cutV vs i j))) := same_upd hp
      exact q _ _ G (.tup (fun n => hN p n hp) (.of upd_same) ((r.cut _ _).step (.grow G)))
  · obtain ⟨hz, rfl⟩ := ite_some e
    refine .inr (.inr ⟨_, rb_str rx, szOk_le hz, q _ H (Same.refl H) ?_⟩)
    have e2 : ∀ z : Str, cutS z i j = ⟨(cutD z.cps.toList i j).toArray⟩ := fun z => by
      unfold cutS cutD
      rw [sIx_eq, sIx_eq, show z.cps.toList.length = z.length from Array.length_toList]
    rw [e2]
    exact .str _
  · cases e
theorem cutf : CutF X gCutL := by
  refine ⟨_, sl_list, fun N T α H x i j vx d Q hN rx e q => ?_⟩
  unfold gCutL at e; split at e
  · cases e
    obtain ⟨a, vs, rfl, hs, r⟩ := rx.lst
    exact ⟨a, vs, rfl, hs, fun p hp => q p _ hp (r.cut _ _)⟩
  · cases e

/-! ### built-in functions -/
theorem RBs.one {x : D} {vs : List V} (h : RBs K N T α H [x] vs) : ∃ v, vs = [v] ∧ RB K N T α H x v := by
  cases h with
  | cons r t => cases t; exact ⟨_, rfl, r⟩
theorem RBs.two {x y : D} {vs : List V} (h : RBs K N T α H [x, y] vs) : ∃ v w, vs = [v, w] ∧ RB K N T α H x v ∧ RB K N T α H y w := by
  cases h with
  | cons r t =>
    cases t with
    | cons r2 t => cases t; exact ⟨_, _, rfl, r, r2⟩
theorem call_lenDR : CallR X (.builtin "len") (fun xs H Q => ∃ a kvs, xs = [V.ref a] ∧ Rd H a (.dK kvs) ∧ Q (.int kvs.length) H) := by
  intro pins s σ H xs us Q I r h
  obtain ⟨a, kvs, rfl, ha, q⟩ := h
  obtain ⟨u, rfl, ru⟩ := vals1 r
  cases ru
  exact d_len I ha fun t s' I' => ⟨.int kvs.length, H, I', ⟨t, rfl⟩, q⟩
theorem calld_len : CallD X (.builtin "len") gLen := by
  refine ⟨_, call_len_seq.or (call_len_str.or call_lenDR), fun N T α H xs vs d Q hN r e q => ?_⟩
  unfold gLen at e; split at e
  · cases e
    obtain ⟨v, rfl, rx⟩ := r.one
    obtain ⟨a, ws, rfl, hs, r⟩ := rx.lst
    exact .inl ⟨a, ws, rfl, .inl hs, q _ H (Same.refl H) (by rw [r.length]; exact .int _)⟩
  · cases e
    obtain ⟨v, rfl, rx⟩ := r.one
    obtain ⟨a, ws, rfl, _, hs, r⟩ := rx.tup
    exact .inl ⟨a, ws, rfl, .inr (sqT_of hs), q _ H (Same.refl H) (by rw [r.length]; exact .int _)⟩
  · obtain ⟨hz, rfl⟩ := ite_some e
    obtain ⟨v, rfl, rx⟩ := r.one
    exact .inr (.inl ⟨_, by rw [rb_str rx], szOk_le hz, q _ H (Same.refl H) (.int _)⟩)
  · cases e
    obtain ⟨v, rfl, rx⟩ := r.one
    obtain ⟨a, ws, rfl, _, hs, r⟩ := rx
    have hl : ∀ {ds : List (D × D)} {ks : List (Key × V)}, RKs X.K N α H ds ks → ds.length = ks.length := by
      intro ds ks h
      induction ds generalizing ks with
      | nil => cases h; rfl
      | cons a ds ih => cases h with | cons _ _ t => rw [List.length_cons, List.length_cons, ih t]
    exact .inr (.inr ⟨a, ws, rfl, hs, q _ H (Same.refl H) (by rw [hl r]; exact .int _)⟩)
  · cases e
theorem calld_max2 (hc : X.calm = true) : CallD X (.builtin "max") gMax2 := by
  refine ⟨_, call_max2 hc, fun N T α H xs vs d Q hN r e q => ?_⟩
  unfold gMax2 at e; split at e
  · cases e
    obtain ⟨v, w, rfl, rx, ry⟩ := r.two
    exact ⟨_, _, by rw [rb_int rx, rb_int ry], q _ H (Same.refl H) (.int _)⟩
  · cases e
theorem calld_min2 (hc : X.calm = true) : CallD X (.builtin "min") gMin2 := by
  refine ⟨_, call_min2 hc, fun N T α H xs vs d Q hN r e q => ?_⟩
  unfold gMin2 at e; split at e
  · cases e
    obtain ⟨v, w, rfl, rx, ry⟩ := r.two
    exact ⟨_, _, by rw [rb_int rx, rb_int ry], q _ H (Same.refl H) (.int _)⟩
  · cases e
theorem calld_int1 : CallD X (.type "int") gInt1 := by
  refine ⟨_, call_int1, fun N T α H xs vs d Q hN r e q => ?_⟩
  unfold gInt1 at e; split at e
  · cases e
    obtain ⟨v, rfl, rx⟩ := r.one
    exact .inl ⟨_, by rw [rb_int rx], q _ H (Same.refl H) (.int _)⟩
  · cases e
    obtain ⟨v, rfl, rx⟩ := r.one
    exact .inr ⟨_, by rw [rb_bl rx], q _ H (Same.refl H) (.int _)⟩
  · cases e
theorem calld_tuple : CallD X (.type "tuple") gTuple := by
  refine ⟨_, call_tuple_of, fun N T α H xs vs d Q hN r e q => ?_⟩
  unfold gTuple at e; split at e
  · cases e
    obtain ⟨v, rfl, rx⟩ := r.one
    obtain ⟨a, ws, rfl, hs, r⟩ := rx.lst
    refine ⟨a, ws, rfl, .inl ⟨hs, fun p hp => ?_⟩⟩
    have G : Same H (upd H p (.tup ws)) := same_upd hp
    exact q _ _ G (.tup (fun n => hN p n hp) (.of upd_same) (r.step (.grow G)))
  · cases e
    obtain ⟨v, rfl, rx⟩ := r.one
    obtain ⟨a, ws, rfl, n, hs, r⟩ := rx.tup
    exact ⟨a, ws, rfl, .inr ⟨(sqT_of hs), q _ H (Same.refl H) (.tup n hs r)⟩⟩
  · cases e
theorem callf_list : CallF X (.type "list") gList := by
  refine ⟨_, call_list_of, fun N T α H xs vs d Q hN r e q => ?_⟩
  unfold gList at e; split at e
  · cases e
    obtain ⟨v, rfl, rx⟩ := r.one
    obtain ⟨a, ws, rfl, hs, r⟩ := rx.lst
    exact ⟨a, ws, rfl, .inl hs, fun p hp => q p _ hp r⟩
  · cases e
    obtain ⟨v, rfl, rx⟩ := r.one
    obtain ⟨a, ws, rfl, n, hs, r⟩ := rx.tup
    exact ⟨a, ws, rfl, .inr (sqT_of hs), fun p hp => q p _ hp r⟩
  · cases e
end
end Vx

/-! VStm: the rules for statements, loops, comprehensions, calls, and for a def as a whole. -/
namespace Vx
open PySem PySem.Spec L2
section
variable {X : Cx} {W : WXc} {ρ : Bool} {Γ Γ' Γ'' ΓL : List Bool} {e a b : Expr} {es : List Expr} {s : Stmt} {ss : List Stmt} {f fa fb fc : FE} {x : Str} {pos p : Pos} {g1 g2 : FS}
variable {K : PySem.W.Frag} {N T : Addr → Prop} {α : List Addr} {H : Hp} {c : Cz} {sl : Sl} {st : Sto} {σ : St}

theorem getElem?_set_ne' {α : Type} {l : List α} {i j : Nat} {a : α} (h : i ≠ j) : (l.set i a)[j]? = l[j]? := List.getElem?_set_ne h
/-! ### changes of the frame -/
theorem loc_set {i : Nat} {v : Option V} (hi : Γ[i]? ≠ some true) (a : Addr) : LocO Γ (σ.set i v) a ↔ LocO Γ σ a := by
  constructor
  · rintro ⟨j, h1, h2⟩
    have ne : i ≠ j := fun e => hi (e ▸ h1)
    rw [getElem?_set_ne' ne] at h2
    exact ⟨j, h1, h2⟩
  · rintro ⟨j, h1, h2⟩
    have ne : i ≠ j := fun e => hi (e ▸ h1)
    exact ⟨j, h1, by rw [getElem?_set_ne' ne]; exact h2⟩
theorem nn_set {i : Nat} {v : Option V} (hi : Γ[i]? ≠ some true) (a : Addr) : NN c Γ (σ.set i v) α a ↔ NN c Γ σ α a := by
  unfold NN
  rw [loc_set hi]
/-- a name is stored that holds no list of the frame's own -/
theorem Rel.set {i : Nat} {d : D} {v : V} (R : Rel K c Γ sl st α σ H) (hi : Γ[i]? ≠ some true) (r : RD K (NN c Γ σ α) α H d v) : Rel K c Γ (sl.set i (some d)) st α (σ.set i (some v)) H := by
  have S : Stp (NN c Γ σ α) α H (NN c Γ (σ.set i (some v)) α) α H := .less fun a z => (nn_set hi a).mp z
  refine ⟨by rw [List.length_set, List.length_set]; exact R.len, fun j d' h n => ?_, fun j h => ?_, fun j k a h1 h2 h3 h4 => ?_, R.sto.step S fun _ _ => rfl, R.bt, R.αB, R.αn, R.αf, R.fr⟩
  · rcases of_getElem?_set h with ⟨ej, ed, hl⟩ | ⟨ne, h'⟩
    · subst ej
      cases ed
      exact ⟨v, by rw [List.getElem?_set_self (by rw [R.len]; exact hl)], r.step S⟩
    · obtain ⟨w, h1, h2⟩ := R.val j d' h' n
      exact ⟨w, by rw [getElem?_set_ne' ne]; exact h1, h2.step S⟩
  · have ne : i ≠ j := fun q => hi (q ▸ h)
    obtain ⟨d', a, o, h1, h2, h3, h4, h5⟩ := R.own j h
    exact ⟨d', a, o, by rw [getElem?_set_ne' ne]; exact h1, by rw [getElem?_set_ne' ne]; exact h2, h3, h4.step S, h5⟩
  · have n1 : i ≠ j := fun q => hi (q ▸ h1)
    have n2 : i ≠ k := fun q => hi (q ▸ h2)
    rw [getElem?_set_ne' n1] at h3
    rw [getElem?_set_ne' n2] at h4
    exact R.dist j k a h1 h2 h3 h4
/-- names forgotten -/
theorem Rel.forget {i : Nat} {v : Option V} (R : Rel K c Γ sl st α σ H) (hi : Γ[i]? ≠ some true) : Rel K c Γ (sl.set i none) st α (σ.set i v) H := by
  have S : Stp (NN c Γ σ α) α H (NN c Γ (σ.set i v) α) α H := .less fun a z => (nn_set hi a).mp z
  refine ⟨by rw [List.length_set, List.length_set]; exact R.len, fun j d' h n => ?_, fun j h => ?_, fun j k a h1 h2 h3 h4 => ?_, R.sto.step S fun _ _ => rfl, R.bt, R.αB, R.αn, R.αf, R.fr⟩
  · rcases of_getElem?_set h with ⟨ej, ed, hl⟩ | ⟨ne, h'⟩
    · cases ed
    · obtain ⟨w, h1, h2⟩ := R.val j d' h' n
      exact ⟨w, by rw [getElem?_set_ne' ne]; exact h1, h2.step S⟩
  · have ne : i ≠ j := fun q => hi (q ▸ h)
    obtain ⟨d', a, o, h1, h2, h3, h4, h5⟩ := R.own j h
    exact ⟨d', a, o, by rw [getElem?_set_ne' ne]; exact h1, by rw [getElem?_set_ne' ne]; exact h2, h3, h4.step S, h5⟩
  · have n1 : i ≠ j := fun q => hi (q ▸ h1)
    have n2 : i ≠ k := fun q => hi (q ▸ h2)
    rw [getElem?_set_ne' n1] at h3
    rw [getElem?_set_ne' n2] at h4
    exact R.dist j k a h1 h2 h3 h4
/-- fewer lists are held as own -/
def leG (Γ' Γ : List Bool) : Bool := (List.range Γ'.length).all fun i => !(Γ'.getD i false) || Γ.getD i false
theorem leG_ok (h : leG Γ' Γ = true) {i : Nat} (hi : Γ'[i]? = some true) : Γ[i]? = some true := by
  have hl := (List.getElem?_eq_some_iff.mp hi).1
  have := List.all_eq_true.mp h i (List.mem_range.mpr hl)
  rw [List.getD_eq_getElem?_getD, List.getD_eq_getElem?_getD, hi] at this
  simp only [Option.getD_some, Bool.not_true, Bool.false_or] at this
  cases q : Γ[i]? with
  | none => rw [q] at this; cases this
  | some b => rw [q] at this; simp only [Option.getD_some] at this; rw [this]
theorem Rel.weak (R : Rel K c Γ sl st α σ H) (h : leG Γ' Γ = true) : Rel K c Γ' sl st α σ H := by
  have sub : ∀ a, NN c Γ' σ α a → NN c Γ σ α a := fun a z => z.elim .inl fun ⟨i, h1, h2⟩ => .inr ⟨i, leG_ok h h1, h2⟩
  have S : Stp (NN c Γ σ α) α H (NN c Γ' σ α) α H := .less sub
  refine ⟨R.len, fun i d h1 n => ?_, fun i h1 => ?_, fun i j a h1 h2 => R.dist i j a (leG_ok h h1) (leG_ok h h2), R.sto.step S fun _ _ => rfl, R.bt, R.αB, R.αn, R.αf, R.fr⟩
  · by_cases hi : Γ[i]? = some true
    · obtain ⟨d', a, o, h2, h3, h4, h5, h6, h7⟩ := R.own i hi
      rw [h1] at h2
      cases h2
      refine ⟨.ref a, h3, (h5.step S).rd h4 ?_⟩
      rintro (z | ⟨j, z1, z2⟩)
      · exact h7 z
      · have e := R.dist i j a hi (leG_ok h z1) h3 z2
        subst e
        exact n z1
    · obtain ⟨v, h2, h3⟩ := R.val i d h1 hi
      exact ⟨v, h2, h3.step S⟩
  · obtain ⟨d', a, o, h2, h3, h4, h5, h6⟩ := R.own i (leG_ok h h1)
    exact ⟨d', a, o, h2, h3, h4, h5.step S, h6⟩
/-- a new list becomes the frame's own -/
theorem Rel.setOwn {i : Nat} {d : D} {p : Addr} {o : HO} (R : Rel K (c.add p) Γ sl st α σ H) (hp : H p = some o) (h0 : c.H0 p = none) (nB : ¬ c.B p) (r : ROb K (NN (c.add p) Γ σ α) α H d o) (hl : i < sl.length) (hg : i < Γ.length) :
    Rel K c (Γ.set i true) (sl.set i (some d)) st α (σ.set i (some (.ref p))) H ∧ Stp (NN (c.add p) Γ σ α) α H (NN c (Γ.set i true) (σ.set i (some (.ref p))) α) α H := by
  have hσ : i < σ.length := by rw [R.len]; exact hl
  have old : ∀ {j : Nat}, i ≠ j → ((Γ.set i true)[j]? = some true ↔ Γ[j]? = some true) := fun ne => by rw [getElem?_set_ne' ne]
  have S : Stp (NN (c.add p) Γ σ α) α H (NN c (Γ.set i true) (σ.set i (some (.ref p))) α) α H := .less fun a z => by
    rcases z with (z | z) | ⟨j, z1, z2⟩
    · exact .inl (.inl (.inl z))
    · exact .inl (.inr z)
    · by_cases ej : i = j
      · subst ej
        rw [List.getElem?_set_self hσ] at z2
        cases z2
        exact .inl (.inl (.inr rfl))
      · rw [getElem?_set_ne' ej] at z2
        exact .inr ⟨j, (old ej).mp z1, z2⟩
  refine ⟨⟨by rw [List.length_set, List.length_set]; exact R.len, fun j d' h n => ?_, fun j h => ?_, fun j k a h1 h2 h3 h4 => ?_, R.sto.step S fun _ _ => rfl, fun a z => R.bt a (.inl z), fun a m z => R.αB a m (.inl z), R.αn, R.αf, R.fr⟩, S⟩
  · rcases of_getElem?_set h with ⟨ej, ed, hl⟩ | ⟨ne, h'⟩
    · subst ej
      exact absurd (List.getElem?_set_self hg) n
    · obtain ⟨w, h1, h2⟩ := R.val j d' h' fun z => n ((old ne).mpr z)
      exact ⟨w, by rw [getElem?_set_ne' ne]; exact h1, h2.step S⟩
  · by_cases ej : i = j
    · subst ej
      refine ⟨d, p, o, List.getElem?_set_self hl, List.getElem?_set_self hσ, hp, r.step S, h0, ?_⟩
      rintro (z | z)
      · exact nB z
      · exact R.αB p z (.inr rfl)
    · obtain ⟨d', a, u, h1, h2, h3, h4, h5, h6⟩ := R.own j ((old ej).mp h)
      exact ⟨d', a, u, by rw [getElem?_set_ne' ej]; exact h1, by rw [getElem?_set_ne' ej]; exact h2, h3, h4.step S, h5, fun z => h6 (z.elim (fun z => .inl (.inl z)) .inr)⟩
  · have other : ∀ {j : Nat} {a : Addr}, i ≠ j → (Γ.set i true)[j]? = some true → (σ.set i (some (.ref p)))[j]? = some (some (.ref a)) → a ≠ p := fun {j a} ne h1 h2 e => by
      rw [getElem?_set_ne' ne] at h2
      obtain ⟨d', a', u, _, h2', _, _, _, h6⟩ := R.own j ((old ne).mp h1)
      rw [h2] at h2'
      cases h2'
      exact h6 (.inl (.inr e))
    have self : ∀ {j : Nat} {a : Addr}, i = j → (σ.set i (some (.ref p)))[j]? = some (some (.ref a)) → a = p := fun {j a} e h2 => by
      subst e
      rw [List.getElem?_set_self hσ] at h2
      cases h2
      rfl
    by_cases ej : i = j
    · by_cases ek : i = k
      · rw [← ej, ← ek]
      · exact absurd (self ej h3) (other ek h2 h4)
    · by_cases ek : i = k
      · exact absurd (self ek h4) (other ej h1 h3)
      · rw [getElem?_set_ne' ej] at h3
        rw [getElem?_set_ne' ek] at h4
        exact R.dist j k a ((old ej).mp h1) ((old ek).mp h2) h3 h4
/-- one of the frame's own lists is changed -/
theorem Rel.change {i : Nat} {d' : D} {a : Addr} {o' : HO} (R : Rel K c Γ sl st α σ H) (hi : Γ[i]? = some true) (ha : σ[i]? = some (some (.ref a))) (r : ROb K (NN c Γ σ α) α H d' o') :
    Rel K c Γ (sl.set i (some d')) st α σ (upd H a o') ∧ Stp (NN c Γ σ α) α H (NN c Γ σ α) α (upd H a o') := by
  have na : NN c Γ σ α a := .inr ⟨i, hi, ha⟩
  have S : Stp (NN c Γ σ α) α H (NN c Γ σ α) α (upd H a o') := ⟨⟨[], by simp⟩, fun b u h n => ⟨by rw [upd_ne (fun e => n (by rw [e]; exact na))]; exact h, n⟩⟩
  obtain ⟨d0, a0, o0, h1, h2, h3, h4, h5, h6⟩ := R.own i hi
  rw [ha] at h2
  cases h2
  have hl : i < sl.length := (List.getElem?_eq_some_iff.mp h1).1
  refine ⟨⟨by rw [List.length_set]; exact R.len, fun j d'' h n => ?_, fun j h => ?_, R.dist, R.sto.step S fun b m => upd_ne fun e => h6 (.inr (e ▸ m)), fun b m => ?_, R.αB, R.αn, R.αf, fun b u h n => ?_⟩, S⟩
  · have ne : i ≠ j := fun q => n (q ▸ hi)
    rw [getElem?_set_ne' ne] at h
    obtain ⟨w, h1, h2⟩ := R.val j d'' h n
    exact ⟨w, h1, h2.step S⟩
  · by_cases ej : i = j
    · subst ej
      exact ⟨d', a, o', List.getElem?_set_self hl, ha, upd_same, r.step S, h5, h6⟩
    · obtain ⟨d2, b, u, e1, e2, e3, e4, e5⟩ := R.own j h
      have ne : b ≠ a := fun e => ej (R.dist i j a hi h ha (e ▸ e2))
      exact ⟨d2, b, u, by rw [getElem?_set_ne' ej]; exact e1, e2, by rw [upd_ne ne]; exact e3, e4.step S, e5⟩
  · have ne : b ≠ a := fun e => h6 (.inl (e ▸ m))
    rw [upd_ne ne]
    exact R.bt b m
  · rw [upd_ne (fun e => by subst e; rw [h5] at h; cases h)]
    exact R.fr b u h n

/-! ### blocks -/
theorem Fl.Sat.imp {r : Fl} {n n' : Sl → Sto → Prop} {t t' : D → Sto → Prop} {b b' c c' : Sl → Sto → Prop} {E E' : Ex → Sl → Sto → Prop} (h : r.Sat n t b c E) (h1 : ∀ l s, n l s → n' l s) (h2 : ∀ d s, t d s → t' d s) (h3 : ∀ l s, b l s → b' l s) (h4 : ∀ l s, c l s → c' l s) (h5 : ∀ e l s, E e l s → E' e l s) : r.Sat n' t' b' c' E' := by
  cases r with
  | nx l s => exact h1 l s h
  | rt d s => exact h2 d s h
  | bk l s => exact h3 l s h
  | ct l s => exact h4 l s h
  | ex e l s => exact h5 e l s h
  | no => exact h
theorem PF.from {α1 : List Addr} {σ1 : St} {H1 : Hp} {Γ1 : List Bool} {k : St → Hp → Prop} {Γ2 : List Bool} {l : Sl} {s : Sto} (S : Stp (NN c Γ σ α) α H (NN c Γ1 σ1 α1) α1 H1) (h : PF K c Γ α σ H k Γ2 l s) : PF K c Γ1 α1 σ1 H1 k Γ2 l s :=
  fun α' σ' H' R S' => h α' σ' H' R (S.trans S')
/-- from a later state -/
theorem FQ.from {α1 : List Addr} {σ1 : St} {H1 : Hp} {Γ1 : List Bool} {D : Ends} {r : Fl} (S : Stp (NN c Γ σ α) α H (NN c Γ1 σ1 α1) α1 H1) (h : FQ K W ρ ΓL c Γ α σ H D Γ' r) : FQ K W ρ ΓL c Γ1 α1 σ1 H1 D Γ' r :=
  Fl.Sat.imp h (fun _ _ z => z.from S) (fun _ _ z => z) (fun _ _ z => z.from S) (fun _ _ z => z.from S) fun _ _ _ z => z
theorem sss_nil : SSs X W ρ ΓL Γ [] sNil Γ := fun c sl st α σ H D R h => ⟨_, pss_nil, h α σ H R .refl⟩
theorem sss_cons (h1 : SS X W ρ ΓL Γ s g1 Γ') (h2 : SSs X W ρ ΓL Γ' ss g2 Γ'') : SSs X W ρ ΓL Γ (s :: ss) (sSeq g1 g2) Γ'' := by
  intro c sl st α σ H D R h
  refine ⟨_, pss_cons ps_wp pss_wp, ?_⟩
  refine h1 c sl st α σ H _ R ?_
  unfold FQ sSeq at h
  unfold FQ
  cases e : g1 sl st with
  | nx l s' =>
    rw [e] at h
    intro α' σ' H' R' S'
    exact h2 c l s' α' σ' H' D R' (FQ.from S' h)
  | rt d s' => rw [e] at h; exact h
  | bk l s' => rw [e] at h; exact h
  | ct l s' => rw [e] at h; exact h
  | ex x l s' => rw [e] at h; exact h
  | no => rw [e] at h; exact h
theorem sss_one (h1 : SS X W ρ ΓL Γ s g1 Γ') : SSs X W ρ ΓL Γ [s] g1 Γ' := fun c sl st α σ H D R h => ⟨_, pss_one ps_wp, h1 c sl st α σ H D R h⟩
/-- less is held as own ahead, behind -/
theorem ss_ahead (h : leG Γ' Γ = true) (h1 : SS X W ρ ΓL Γ' s g1 Γ'') : SS X W ρ ΓL Γ s g1 Γ'' := fun c sl st α σ H D R q =>
  h1 c sl st α σ H D (R.weak h) (FQ.from (.less fun a z => z.elim .inl fun ⟨i, z1, z2⟩ => .inr ⟨i, leG_ok h z1, z2⟩) q)
theorem sss_ahead (h : leG Γ' Γ = true) (h1 : SSs X W ρ ΓL Γ' ss g1 Γ'') : SSs X W ρ ΓL Γ ss g1 Γ'' := fun c sl st α σ H D R q =>
  h1 c sl st α σ H D (R.weak h) (FQ.from (.less fun a z => z.elim .inl fun ⟨i, z1, z2⟩ => .inr ⟨i, leG_ok h z1, z2⟩) q)
theorem FQ.behind {D : Ends} {r : Fl} (h : leG Γ'' Γ' = true) (q : FQ K W ρ ΓL c Γ α σ H D Γ'' r) : FQ K W ρ ΓL c Γ α σ H D Γ' r :=
  Fl.Sat.imp q (fun _ _ z α' σ' H' R S => z α' σ' H' (R.weak h) (S.trans (.less fun a z => z.elim .inl fun ⟨i, z1, z2⟩ => .inr ⟨i, leG_ok h z1, z2⟩))) (fun _ _ z => z) (fun _ _ z => z) (fun _ _ z => z) fun _ _ _ z => z
theorem ss_behind (h : leG Γ'' Γ' = true) (h1 : SS X W ρ ΓL Γ s g1 Γ') : SS X W ρ ΓL Γ s g1 Γ'' := fun c sl st α σ H D R q => h1 c sl st α σ H D R (q.behind h)
theorem sss_behind (h : leG Γ'' Γ' = true) (h1 : SSs X W ρ ΓL Γ ss g1 Γ') : SSs X W ρ ΓL Γ ss g1 Γ'' := fun c sl st α σ H D R q => h1 c sl st α σ H D R (q.behind h)

/-! ### small statements -/
theorem R.sat_fl {α : Type} {r : R α} {l : Sl} {k : α → Sto → Fl} {n : Sl → Sto → Prop} {t : D → Sto → Prop} {b c : Sl → Sto → Prop} {E : Ex → Sl → Sto → Prop} : (r.fl l k).Sat n t b c E ↔ r.Sat (fun a s => (k a s).Sat n t b c E) (fun e s => E e l s) := by
  cases r <;> exact Iff.rfl
theorem ss_pass : SS X W ρ ΓL Γ (.Pass pos) sPass Γ := fun c sl st α σ H D R h => ⟨_, ps_pass, h α σ H R .refl⟩
theorem ss_brk (h : leG ΓL Γ = true := by decide) : SS X W ρ ΓL Γ (.Break pos) sBrk Γ' := fun c sl st α σ H D R q => ⟨_, ps_break, q α σ H (R.weak h) (.less fun a z => z.elim .inl fun ⟨i, z1, z2⟩ => .inr ⟨i, leG_ok h z1, z2⟩)⟩
theorem ss_cnt (h : leG ΓL Γ = true := by decide) : SS X W ρ ΓL Γ (.Continue pos) sCnt Γ' := fun c sl st α σ H D R q => ⟨_, ps_continue, q α σ H (R.weak h) (.less fun a z => z.elim .inl fun ⟨i, z1, z2⟩ => .inr ⟨i, leG_ok h z1, z2⟩)⟩
theorem ss_exp (ha : SE X W Γ a fa) (hs : swapsWith a none pos.line X.env = pure false := by rfl) : SS X W ρ ΓL Γ (.Expr a pos) (sExp fa) Γ := by
  intro c sl st α σ H D R h
  refine ⟨_, ps_expr pe_wp hs, ?_⟩
  exact ha c sl st α σ H _ R ((Vx.R.sat_fl.mp h).imp (fun d s1 hd v α1 H1 R1 S1 r1 => hd α1 σ H1 R1 S1.nn) fun x s1 hx => hx Γ σ)
/-- name = value -/
theorem ss_set (i : Nat) {pos' : Pos} (ha : SE X W Γ a fa) (hN : X.N.Nodup) (hΓ : Γ[i]? ≠ some true := by decide) (hi : X.N[i]? = some x := by rfl) (hx : Loc X.env.scope x := by first | exact Or.inl rfl | exact Or.inr rfl) (hs : swapsWith a (some (.Name x pos')) pos.line X.env = pure false := by rfl)
    (hf : X.fn x = true ∨ X.env.scope.names.lookup x = some .local := by first | exact .inl rfl | exact .inr rfl) : SS X W ρ ΓL Γ (.Assign [.Name x pos'] a pos) (sSet i fa) Γ := by
  intro c sl st α σ H D R h
  refine ⟨_, ps_set hN hi hx pe_wp hs hf, ?_⟩
  refine ha c sl st α σ H _ R ((Vx.R.sat_fl.mp h).imp (fun d s1 hd v α1 H1 R1 S1 r1 => ?_) fun x s1 hx => hx Γ σ)
  exact hd α1 _ H1 (R1.set hΓ r1) (S1.nn.trans (.less fun a z => (nn_set hΓ a).mp z))
theorem of_f0 (R : Rel K c Γ sl st α σ H) {p : Addr} (h : H p = none) : ¬ c.B p := fun z => R.bt p z h
theorem set_own_core {i : Nat} {Dn : Ends} (R : Rel X.K c Γ sl st α σ H) (hg : i < Γ.length) (hsl : i < sl.length) {d : D} {s1 : Sto} (h : PF X.K c Γ α σ H Dn.nx (Γ.set i true) (sl.set i (some d)) s1) : PQf X.K c Γ sl α σ H (fun x H1 => gName i x σ H1 Dn.nx) d s1 := by
  intro p o α1 H1 h0 hp R1 S1 r1
  obtain ⟨R2, S2⟩ := R1.setOwn (i := i) hp (R.fresh0 h0) (of_f0 R h0) r1 hsl hg
  refine h α1 _ H1 R2 ⟨S1.pre, fun a u e n => ?_⟩
  have ne : a ≠ p := ne_of_none e h0
  obtain ⟨e1, n1⟩ := S1.nn.keep a u e n
  refine S2.keep a u e1 ?_
  rintro ((z | z) | z)
  · exact z.elim (fun z => n1 (.inl (.inl z))) ne
  · exact n1 (.inl (.inr z))
  · exact n1 (.inr z)
/-- name = a new list; the name is not known as own ahead -/
theorem ss_setF (i : Nat) {pos' : Pos} (ha : SF X W Γ a fa) (hN : X.N.Nodup) (hi : X.N[i]? = some x := by rfl) (hx : Loc X.env.scope x := by first | exact Or.inl rfl | exact Or.inr rfl) (hs : swapsWith a (some (.Name x pos')) pos.line X.env = pure false := by rfl)
    (hf : X.fn x = true ∨ X.env.scope.names.lookup x = some .local := by first | exact .inl rfl | exact .inr rfl) (hg : i < Γ.length := by decide) : SS X W ρ ΓL Γ (.Assign [.Name x pos'] a pos) (sSetF i fa) (Γ.set i true) := by
  intro c sl st α σ H Dn R h
  refine ⟨_, ps_set hN hi hx pe_wp hs hf, ?_⟩
  refine ha c sl st α σ H _ R ((Vx.R.sat_fl.mp h).imp (fun d s1 hd => ?_) fun x s1 hx => hx Γ σ)
  by_cases hl : i < sl.length
  · rw [if_pos hl] at hd
    exact set_own_core R hg hl hd
  · rw [if_neg hl] at hd
    exact False.elim hd
theorem PR.of {c : Cz} {k : VK} {d : D} {s1 : Sto} (h : PR K c ρ k d s1) (hd : ρ = true → ∀ ds ks, d ≠ .lst ds ∧ d ≠ .dic ks) : ∀ Γ'' sl'' σ'' v α' H', Rel K c Γ'' sl'' s1 α' σ'' H' → RD K (NN c Γ'' σ'' α') α' H' d v → k v H' :=
  fun Γ'' sl'' σ'' v α' H' R r => h.1 Γ'' sl'' σ'' v α' H' R r hd
theorem ss_ret (ha : SE X W Γ a fa) : SS X W false ΓL Γ (.Return (some a) pos) (sRet fa) Γ' := by
  intro c sl st α σ H D R h
  refine ⟨_, ps_ret pe_wp, ?_⟩
  refine ha c sl st α σ H _ R ((Vx.R.sat_fl.mp h).imp (fun d s1 hd v α1 H1 R1 S1 r1 => ?_) fun x s1 hx => hx Γ σ)
  exact hd.1 Γ sl σ v α1 H1 R1 r1 fun z => nomatch z
/-- in a def that hands back new lists: a value that is no list -/
theorem ss_retN (ha : SE X W Γ a fa) : SS X W ρ ΓL Γ (.Return (some a) pos) (sRetN' fa) Γ' := by
  intro c sl st α σ H D R h
  refine ⟨_, ps_ret pe_wp, ?_⟩
  refine ha c sl st α σ H _ R ((Vx.R.sat_fl.mp h).imp (fun d s1 hd v α1 H1 R1 S1 r1 => ?_) fun x s1 hx => hx Γ σ)
  by_cases hm : d.isMut = true
  · rw [if_pos hm] at hd
    exact False.elim hd
  · rw [if_neg hm] at hd
    refine hd.1 Γ sl σ v α1 H1 R1 r1 fun _ ds ks => ⟨?_, ?_⟩
    · rintro rfl; exact hm rfl
    · rintro rfl; exact hm rfl
/-- .. a new list -/
theorem ss_retF (ha : SF X W Γ a fa) : SS X W true ΓL Γ (.Return (some a) pos) (sRet fa) Γ' := by
  intro c sl st α σ H Dn R h
  refine ⟨_, ps_ret pe_wp, ?_⟩
  refine ha c sl st α σ H _ R ((Vx.R.sat_fl.mp h).imp (fun d s1 hd p o α1 H1 h0 hp R1 S1 r1 => ?_) fun x s1 hx => hx Γ σ)
  exact hd.2 rfl Γ sl σ p o α1 H1 (R.fresh0 h0) hp R1 r1
/-- one of the frame's own lists, as a thing that nobody else holds -/
theorem Rel.give {i : Nat} {d : D} {a : Addr} {o : HO} (R : Rel K c Γ sl st α σ H) (hi : Γ[i]? = some true) (hd : sl[i]? = some (some d)) (ha : σ[i]? = some (some (.ref a))) (ho : H a = some o) (r : ROb K (NN c Γ σ α) α H d o) :
    Rel K (c.add a) (Γ.set i false) (sl.set i none) st α (σ.set i none) H ∧ ROb K (NN (c.add a) (Γ.set i false) (σ.set i none) α) α H d o ∧ c.H0 a = none := by
  obtain ⟨d0, a0, o0, h1, h2, h3, h4, h5, h6⟩ := R.own i hi
  rw [ha] at h2
  cases h2
  have hg : i < Γ.length := (List.getElem?_eq_some_iff.mp hi).1
  have hl : i < sl.length := (List.getElem?_eq_some_iff.mp h1).1
  have off : ∀ {j : Nat}, (Γ.set i false)[j]? = some true → i ≠ j ∧ Γ[j]? = some true := fun {j} h => by
    rcases of_getElem?_set h with ⟨_, e, _⟩ | ⟨n, h⟩
    · cases e
    · exact ⟨n, h⟩
  have S : Stp (NN c Γ σ α) α H (NN (c.add a) (Γ.set i false) (σ.set i none) α) α H := .less fun b z => by
    rcases z with (z | z) | ⟨j, z1, z2⟩
    · rcases z with z | z
      · exact .inl (.inl z)
      · exact .inr ⟨i, hi, by rw [z]; exact ha⟩
    · exact .inl (.inr z)
    · obtain ⟨n, z1⟩ := off z1
      rw [getElem?_set_ne' n] at z2
      exact .inr ⟨j, z1, z2⟩
  refine ⟨⟨by rw [List.length_set, List.length_set]; exact R.len, fun j d' h n => ?_, fun j h => ?_, fun j k b z1 z2 z3 z4 => ?_, R.sto.step S fun _ _ => rfl, fun b z => ?_, fun b m z => ?_, R.αn, R.αf, R.fr⟩, r.step S, h5⟩
  · rcases of_getElem?_set h with ⟨_, e, _⟩ | ⟨ne, h'⟩
    · cases e
    · rw [getElem?_set_ne' ne] at n
      obtain ⟨w, e1, e2⟩ := R.val j d' h' n
      exact ⟨w, by rw [getElem?_set_ne' ne]; exact e1, e2.step S⟩
  · obtain ⟨ne, h'⟩ := off h
    obtain ⟨d2, b, u, e1, e2, e3, e4, e5, e6⟩ := R.own j h'
    refine ⟨d2, b, u, by rw [getElem?_set_ne' ne]; exact e1, by rw [getElem?_set_ne' ne]; exact e2, e3, e4.step S, e5, fun z => ?_⟩
    rcases z with (z | z) | z
    · exact e6 (.inl z)
    · exact ne (R.dist i j a hi h' ha (by rw [z] at e2; exact e2))
    · exact e6 (.inr z)
  · obtain ⟨n1, z1⟩ := off z1
    obtain ⟨n2, z2⟩ := off z2
    rw [getElem?_set_ne' n1] at z3
    rw [getElem?_set_ne' n2] at z4
    exact R.dist j k b z1 z2 z3 z4
  · rcases z with z | z
    · exact R.bt b z
    · rw [z, ho]; exact fun z => nomatch z
  · rcases z with z | z
    · exact R.αB b m z
    · exact h6 (.inr (z ▸ m))
theorem ss_retO (i : Nat) {p2 : Pos} (hΓ : Γ[i]? = some true := by decide) (hN : X.N[i]? = some x := by rfl) (hv : Vis X.env.scope x := by first | exact Or.inl rfl | exact Or.inr (Or.inl rfl) | exact Or.inr (Or.inr rfl))
    (hd : (x == ("__debug__" : Str)) = false := by decide) (hcd : (x == ("__classdict__" : Str)) = false := by decide) : SS X W true ΓL Γ (.Return (some (.Name x p2)) pos) (sRet (mV i)) Γ' := by
  intro c sl st α σ H Dn R h
  obtain ⟨d, e, h⟩ := mV_sat (Vx.R.sat_fl.mp h)
  obtain ⟨d', a, o, e0, e1, ho, r, _, n⟩ := R.own i hΓ
  rw [e] at e0
  cases e0
  refine ⟨_, ps_ret (pe_var hN hv hd hcd), .ref a, e1, ?_⟩
  obtain ⟨R1, r1, h0⟩ := R.give hΓ e e1 ho r
  exact h.2 rfl _ _ _ a o α H h0 ho R1 r1
theorem ss_retn : SS X W ρ ΓL Γ (.Return none pos) sRetN Γ' := fun c sl st α σ H D R h => ⟨_, ps_retN, h.1 Γ sl σ .non α H R .non fun _ _ _ => ⟨(fun z => nomatch z), (fun z => nomatch z)⟩⟩
theorem ss_if {ta : FT} {sa sb : List Stmt} (hc : ST X W Γ e ta) (ha : SSs X W ρ ΓL Γ sa g1 Γ') (hb : SSs X W ρ ΓL Γ sb g2 Γ') : SS X W ρ ΓL Γ (.If e sa sb pos) (sIf ta g1 g2) Γ' := by
  intro c sl st α σ H D R h
  refine ⟨_, ps_if pt_wp pss_wp pss_wp, ?_⟩
  refine hc c sl st α σ H _ R ((Vx.R.sat_fl.mp h).imp (fun k s1 hk α1 H1 R1 S1 => ?_) fun x s1 hx => hx Γ σ)
  cases k with
  | true =>
    rw [if_pos rfl] at hk ⊢
    exact ha c sl s1 α1 σ H1 D R1 (FQ.from S1.nn hk)
  | false =>
    rw [if_neg Bool.false_ne_true] at hk ⊢
    exact hb c sl s1 α1 σ H1 D R1 (FQ.from S1.nn hk)
/-- name op= e -/
def InD (X : Cx) (op : Operator) (g : D → D → Option D) : Prop := ∃ r : TIp, PIp X op r ∧
  ∀ (N T : Addr → Prop) (α : List Addr) (H : Hp) (x y : D) (vx vy : V) (d : D) (Q : VK), (∀ a, N a → H a ≠ none) → RB X.K N T α H x vx → RB X.K N T α H y vy → g x y = some d →
    (∀ v H', Same H H' → RD X.K N α H' d v → Q v H') → r vx vy H Q
theorem ss_aug (i : Nat) {op : Operator} {g : D → D → Option D} {pos' : Pos} (ho : InD X op g) (ha : SB X W Γ a fa) (hN : X.N.Nodup) (hΓ : Γ[i]? ≠ some true := by decide) (hi : X.N[i]? = some x := by rfl) (hx : Loc X.env.scope x := by first | exact Or.inl rfl | exact Or.inr rfl)
    (hf : X.fn x = true ∨ X.env.scope.names.lookup x = some .local := by first | exact .inl rfl | exact .inr rfl) : SS X W ρ ΓL Γ (.AugAssign (.Name x pos') op a pos) (sAug g i fa) Γ := by
  obtain ⟨r, o, hr⟩ := ho
  intro c sl st α σ H Dn R h
  refine ⟨_, ps_aug hN hi hx pe_wp o hf, ?_⟩
  unfold sAug at h
  cases e1 : sl[i]? with
  | none => rw [e1] at h; exact False.elim h
  | some od =>
    cases od with
    | none => rw [e1] at h; exact False.elim h
    | some d =>
      rw [e1] at h
      obtain ⟨v, hv, rv⟩ := R.val i d e1 hΓ
      refine ⟨v, hv, ?_⟩
      refine ha c sl st α σ H _ R ((Vx.R.sat_fl.mp h).imp (fun y s1 hy vy α1 H1 R1 S1 r1 => ?_) fun x s1 hx => hx Γ σ)
      cases eg : g d y with
      | none => rw [eg] at hy; exact False.elim hy
      | some z =>
        rw [eg] at hy
        refine hr _ _ _ _ d y v vy z _ R1.nn (RB.of (rv.step S1.nn) fun _ z => nb_nn z) r1 eg fun w H2 G rw' => ?_
        have R2 := R1.grow G
        exact hy α1 _ H2 (R2.set hΓ rw') ((S1.trans (.grow G)).nn.trans (.less fun a z => (nn_set hΓ a).mp z))

/-! ### targets, loops -/
theorem sg_name (i : Nat) (hN : X.N.Nodup) (hi : X.N[i]? = some x := by rfl) (hx : Loc X.env.scope x := by first | exact Or.inl rfl | exact Or.inr rfl)
    (hf : X.fn x = true ∨ X.env.scope.names.lookup x = some .local := by first | exact .inl rfl | exact .inr rfl) : SG X (.Name x pos) [i] (tg1 i) := by
  intro c Γ sl st α σ H d v sl' Q hΓ R r e h
  cases e
  have hi' := hΓ i List.mem_cons_self
  refine ⟨_, pg_name hN hi hx hf, ?_⟩
  exact h _ (R.set hi' r) (loc_set hi') (List.length_set ..) fun j hj => getElem?_set_ne' fun e => hj (by rw [e]; exact List.mem_cons_self)
theorem sg_pair (i j : Nat) {y : Str} {k : Nat} {p1 p2 : Pos} (hc : X.calm = true) (hN : X.N.Nodup) (hi : X.N[i]? = some x := by rfl) (hx : Loc X.env.scope x := by first | exact Or.inl rfl | exact Or.inr rfl)
    (hf : X.fn x = true ∨ X.env.scope.names.lookup x = some .local := by first | exact .inl rfl | exact .inr rfl) (hj : X.N[j]? = some y := by rfl) (hy : Loc X.env.scope y := by first | exact Or.inl rfl | exact Or.inr rfl)
    (hf2 : X.fn y = true ∨ X.env.scope.names.lookup y = some .local := by first | exact .inl rfl | exact .inr rfl)
    (hs : (assignEach [.Name x p1, .Name y p2] X.env).map (·.2) = assign (.Name x p1) X.env :: (assignEach [.Name y p2] X.env).map (·.2) := by rfl) (hs2 : (assignEach [.Name y p2] X.env).map (·.2) = assign (.Name y p2) X.env :: (assignEach [] X.env).map (·.2) := by rfl)
    (hn : (assignEach [.Name x p1, .Name y p2] X.env).length = 2 := by rfl) (hst : (assignEach [.Name x p1, .Name y p2] X.env).findIdx? (·.1) = none := by rfl) : SG X (.Tuple [.Name x p1, .Name y p2] k pos) [i, j] (tg2 i j) := by
  intro c Γ sl st α σ H d v sl' Q hΓ R r e h
  have hi' := hΓ i List.mem_cons_self
  have hj' := hΓ j (List.mem_cons_of_mem _ List.mem_cons_self)
  unfold tg2 at e
  split at e
  · cases e
    rename_i d1 d2
    cases r with
    | tup n hr rr =>
      rename_i a vs
      cases rr with
      | cons r1 rr =>
        cases rr with
        | cons r2 rr =>
          cases rr
          refine ⟨_, pg_tup hc (pgs_cons (pg_name hN hi hx hf) (pgs_cons (pg_name hN hj hy hf2) pgs_nil hs2) hs) hn hst, ?_⟩
          refine ⟨a, _, rfl, .inl hr, rfl, _, _, rfl, _, _, rfl, rfl, ?_⟩
          have R1 := R.set hi' r1
          have S1 : ∀ w : V, Stp (NN c Γ σ α) α H (NN c Γ (σ.set i (some w)) α) α H := fun w => .less fun a z => (nn_set hi' a).mp z
          refine h _ (R1.set hj' (r2.step (S1 _))) (fun a => (loc_set hj' a).trans (loc_set hi' a)) (by rw [List.length_set, List.length_set]) fun m hm => ?_
          rw [getElem?_set_ne' (fun e => hm (by rw [e]; exact List.mem_cons_of_mem _ List.mem_cons_self)), getElem?_set_ne' (fun e => hm (by rw [e]; exact List.mem_cons_self))]
  · cases e
theorem stp_loc {σ' : St} (h : ∀ a, LocO Γ σ' a ↔ LocO Γ σ a) : Stp (NN c Γ σ α) α H (NN c Γ σ' α) α H := .less fun a z => z.elim .inl fun z => .inr ((h a).mp z)
/-- a, b = e -/
theorem ss_tg {tg : Expr} {is : List Nat} {g : D → Sl → Option Sl} (hg : SG X tg is g) (ha : SE X W Γ a fa) (hΓ : ∀ i ∈ is, Γ[i]? ≠ some true := by decide) (hs : swapsWithSole [tg] a pos.line X.env = pure false := by rfl) (hw : swappedStores [tg] a X.env = pure none := by rfl)
    (h1 : (assignEach [tg] X.env).map (·.2) = [assign tg X.env] := by rfl) : SS X W ρ ΓL Γ (.Assign [tg] a pos) (sTg g fa) Γ := by
  intro c sl st α σ H Dn R h
  refine ⟨_, ps_asg pe_wp pg_wp hs hw h1, ?_⟩
  refine ha c sl st α σ H _ R ((Vx.R.sat_fl.mp h).imp (fun d s1 hd v α1 H1 R1 S1 r1 => ?_) fun x s1 hx => hx Γ σ)
  cases eg : g d sl with
  | none => rw [eg] at hd; exact False.elim hd
  | some l1 =>
    rw [eg] at hd
    exact hg c Γ sl s1 α1 σ H1 d v l1 _ hΓ R1 r1 eg fun σ' R2 hl _ _ => hd α1 σ' H1 R2 (S1.nn.trans (stp_loc hl))
theorem FQ.sat {D : Ends} {r : Fl} (h : FQ K W ρ ΓL c Γ α σ H D Γ' r) : r.Sat (PF K c Γ α σ H D.nx Γ') (PR K c ρ D.rt) (PF K c Γ α σ H D.bk ΓL) (PF K c Γ α σ H D.ct ΓL) (fun x l s => ∀ Γ'' σ'', PX K c Γ'' l σ'' W x s) := h
/-- a loop's body, from the loop's own ends -/
theorem loop_body {D : Ends} {g : Fl} {k : Sl → Sto → Fl} {Nx : St → Hp → Prop} {c0 : Cz}
    (h : (match g with | .nx l s => k l s | .ct l s => k l s | .bk l s => .nx l s | f => f : Fl).Sat (PF K c Γ α σ H D.nx Γ) (PR K c ρ D.rt) (PF K c Γ α σ H D.bk ΓL) (PF K c Γ α σ H D.ct ΓL) (fun x l s => ∀ Γ'' σ'', PX K c Γ'' l σ'' W x s))
    (hk : ∀ l s, FQ K W ρ ΓL c Γ α σ H D Γ (k l s) → PF K c Γ α σ H Nx Γ l s) : FQ K W ρ Γ c Γ α σ H { D with nx := Nx, ct := Nx, bk := D.nx } Γ g := by
  cases g with
  | nx l s => exact hk l s h
  | ct l s => exact hk l s h
  | bk l s => exact h
  | rt d s => exact h
  | ex x l s => exact h
  | no => exact h
theorem ss_for {tg iter : Expr} {body : List Stmt} {is : List Nat} {g : D → Sl → Option Sl} {it : FA} {fb : FS} (hp : PassesOwn (model X.prog X.w) X.A X.env X.xe) (hc : X.calm = true) (hi : SI X W Γ false tg iter it) (hg : SG X tg is g) (hb : SSs X W ρ Γ Γ body fb Γ) (hΓ : ∀ i ∈ is, Γ[i]? ≠ some true := by decide)
    (hs : ∀ x, foldedSetIterable iter X.env x = pure x := by intro _; rfl) : SS X W ρ ΓL Γ (.For tg iter body [] pos) (sFor it g fb) Γ := by
  intro c sl st α σ H Dn R h
  refine ⟨_, ps_for hp hc pi_wp pg_wp pss_wp hs, ?_⟩
  refine hi c sl st α σ H _ R ((Vx.R.sat_fl.mp h).imp (fun ds s1 hd J α1 H1 R1 S1 hJ => ?_) fun x s1 hx => hx Γ σ)
  have hJ : Yields X.K (NN c Γ σ α1) (NN c Γ σ α1) α1 H1 J ds := hJ
  refine ⟨fun i m σ' H' => m = ds.length - i ∧ ∃ sl' st' α', Rel X.K c Γ sl' st' α' σ' H' ∧ Stp (NN c Γ σ α1) α1 H1 (NN c Γ σ' α') α' H' ∧ FQ X.K W ρ ΓL c Γ α' σ' H' Dn Γ (forD g fb (ds.drop i) sl' st'), ⟨ds.length, by simp, sl, s1, α1, R1, .refl, FQ.from S1.nn hd⟩, ?_⟩
  rintro i m σ2 H2 ⟨rfl, sl2, st2, α2, R2, S2, q2⟩
  obtain ⟨y1, y2⟩ := hJ _ _ α2 H2 S2 S2 R2.nn
  by_cases hlt : i < ds.length
  · have hd' : ds[i]? = some ds[i] := List.getElem?_eq_getElem hlt
    obtain ⟨go, yl⟩ := y1 i _ hd'
    rw [List.drop_eq_getElem_cons hlt] at q2
    refine .inr ⟨go, fun σ' H' => ∃ sl' st' α', Rel X.K c Γ sl' st' α' σ' H' ∧ Stp (NN c Γ σ α1) α1 H1 (NN c Γ σ' α') α' H' ∧ FQ X.K W ρ ΓL c Γ α' σ' H' Dn Γ (forD g fb (ds.drop (i + 1)) sl' st'), ?_, ?_⟩
    · rintro σ' H' ⟨sl', st', α', h1, h2, h3⟩
      exact ⟨_, by omega, rfl, sl', st', α', h1, h2, h3⟩
    · intro x H3 hy
      obtain ⟨G, rx⟩ := yl x H3 hy
      have R3 := R2.grow G
      unfold forD at q2
      cases eg : g ds[i] sl2 with
      | none => rw [eg] at q2; exact False.elim q2
      | some l1 =>
        rw [eg] at q2
        refine hg c Γ sl2 st2 α2 σ2 H3 _ x l1 _ hΓ R3 rx eg fun σ4 R4 hl _ _ => ?_
        have S4 : Stp (NN c Γ σ2 α2) α2 H2 (NN c Γ σ4 α2) α2 H3 := (Stp.grow G).trans (stp_loc hl)
        refine hb c l1 st2 α2 σ4 H3 _ R4 (loop_body (c0 := c) (FQ.from S4 q2).sat fun l s hq α' σ' H' R' S' => ?_)
        exact ⟨l, s, α', R', S2.trans (S4.trans S'), FQ.from S' hq⟩
  · have hge : ds.length ≤ i := Nat.le_of_not_lt hlt
    rw [List.drop_eq_nil_iff.mpr hge] at q2
    exact .inl ⟨y2 i hge, q2 α2 σ2 H2 R2 .refl⟩
theorem ss_while {e : Expr} {body : List Stmt} {tc : FT} {fb : FS} (n : Nat) (hp : PassesOwn (model X.prog X.w) X.A X.env X.xe) (hc : ST X W Γ e tc) (hb : SSs X W ρ Γ Γ body fb Γ) : SS X W ρ ΓL Γ (.While e body [] pos) (sWhile n tc fb) Γ := by
  intro c sl st α σ H Dn R h
  refine ⟨_, ps_while hp pt_wp pss_wp, ?_⟩
  refine ⟨fun m σ' H' => ∃ sl' st' α', Rel X.K c Γ sl' st' α' σ' H' ∧ FQ X.K W ρ ΓL c Γ α' σ' H' Dn Γ (whileD tc fb m sl' st'), ⟨n, sl, st, α, R, h⟩, ?_⟩
  rintro m σ2 H2 ⟨sl2, st2, α2, R2, q2⟩
  cases m with
  | zero => exact False.elim q2
  | succ m =>
    unfold whileD at q2
    refine hc c sl2 st2 α2 σ2 H2 _ R2 ((Vx.R.sat_fl.mp q2.sat).imp (fun k s3 hk α3 H3 R3 S3 => ?_) fun x s1 hx => hx Γ σ2)
    cases k with
    | true =>
      rw [if_pos rfl] at hk ⊢
      refine ⟨fun σ' H' => ∃ sl' st' α', Rel X.K c Γ sl' st' α' σ' H' ∧ FQ X.K W ρ ΓL c Γ α' σ' H' Dn Γ (whileD tc fb m sl' st'), fun σ' H' q => ⟨m, Nat.lt_succ_self _, q⟩, ?_⟩
      refine hb c sl2 s3 α3 σ2 H3 _ R3 (loop_body (c0 := c) (FQ.from S3.nn hk).sat fun l s hq α' σ' H' R' S' => ?_)
      exact ⟨l, s, α', R', FQ.from S' hq⟩
    | false =>
      rw [if_neg Bool.false_ne_true] at hk ⊢
      exact hk α3 σ2 H3 R3 S3.nn
end
end Vx

/-! VCall: what is walked, comprehensions, calls, lists changed in place, a def as a whole. -/
namespace Vx
open PySem PySem.Spec L2
section
variable {X : Cx} {W : WXc} {ρ : Bool} {Γ Γ' Γ'' ΓL : List Bool} {e a b : Expr} {es : List Expr} {s : Stmt} {ss : List Stmt} {f fa fb fc : FE} {x : Str} {pos p : Pos} {g1 g2 : FS}
variable {K : PySem.W.Frag} {N T : Addr → Prop} {α α' : List Addr} {H H' : Hp} {c c' : Cz} {sl : Sl} {st st' : Sto} {σ : St}

/-! ### what is walked -/
theorem rgD_get {lo : Int} {n i : Nat} {d : D} (h : (rgD lo n)[i]? = some d) : i < n ∧ d = .int (lo + i) := by
  unfold rgD at h
  rw [List.getElem?_map] at h
  cases q : (List.range n)[i]? with
  | none => rw [q] at h; cases h
  | some k =>
    rw [q] at h
    cases h
    obtain ⟨hl, hk⟩ := List.getElem?_eq_some_iff.mp q
    rw [List.length_range] at hl
    rw [List.getElem_range] at hk
    rw [← hk]
    exact ⟨hl, rfl⟩
theorem rgD_length {lo : Int} {n : Nat} : (rgD lo n).length = n := by unfold rgD; rw [List.length_map, List.length_range]
theorem yields_rg {lo : Int} {n : Nat} : Yields K N T α H (Itr lo n) (rgD lo n) := by
  intro N' T' α' H' _ _ _
  refine ⟨fun i d h => ?_, fun i h => by rw [rgD_length] at h; exact h⟩
  obtain ⟨hl, rfl⟩ := rgD_get h
  refine ⟨hl, fun x H'' y => ?_⟩
  obtain ⟨rfl, rfl⟩ := y
  exact ⟨Same.refl _, .int _⟩
theorem rgOk_iff {i : Int} (h : rgOk i = true) : -(2 ^ 62) ≤ i ∧ i < 2 ^ 62 := by
  unfold rgOk at h
  rw [Bool.and_eq_true, decide_eq_true_eq, decide_eq_true_eq] at h
  exact h
theorem si_rg1 {tg : Expr} {fr : FA} {bb : Bool} (hm : X.mg "range" = none) (ha : SA X W Γ [a] fr) (hg : Gl X "range" := by rfl) (hs : starEach [a] X.env = [(false, eval a X.env)] := by rfl) : SI X W Γ bb tg (.Call (.Name "range" p) [a] [] pos) (itRg1 fr) := by
  intro c sl st α σ H R' Rl h
  refine ⟨_, pi_range1 hg hm pa_wp hs, ?_⟩
  refine ha c sl st α σ H _ Rl ((Vx.R.sat_bind.mp h).imp (fun ds s1 hd vs α1 H1 R1 S1 r1 => ?_) fun _ _ z => z)
  split at hd
  · rename_i j
    by_cases hj : rgOk j = true
    · rw [if_pos hj] at hd
      cases r1 with
      | cons r t =>
        cases t
        cases r
        obtain ⟨h1, h2⟩ := rgOk_iff hj
        exact ⟨j, rfl, h1, h2, hd _ α1 H1 R1 S1 yields_rg⟩
    · rw [if_neg hj] at hd
      exact False.elim hd
  · exact False.elim hd
theorem si_rg2 {tg : Expr} {fr : FA} {bb : Bool} (hm : X.mg "range" = none) (ha : SA X W Γ [a, b] fr) (hg : Gl X "range" := by rfl) (hs : starEach [a, b] X.env = [(false, eval a X.env), (false, eval b X.env)] := by rfl) (hs2 : starEach [b] X.env = [(false, eval b X.env)] := by rfl) : SI X W Γ bb tg (.Call (.Name "range" p) [a, b] [] pos) (itRg2 fr) := by
  intro c sl st α σ H R' Rl h
  refine ⟨_, pi_range2 hg hm pa_wp hs hs2, ?_⟩
  refine ha c sl st α σ H _ Rl ((Vx.R.sat_bind.mp h).imp (fun ds s1 hd vs α1 H1 R1 S1 r1 => ?_) fun _ _ z => z)
  split at hd
  · rename_i i j
    by_cases hj : (rgOk i && rgOk j) = true
    · rw [if_pos hj] at hd
      rw [Bool.and_eq_true] at hj
      cases r1 with
      | cons r t =>
        cases t with
        | cons r2 t =>
          cases t
          cases r
          cases r2
          obtain ⟨h1, h2⟩ := rgOk_iff hj.1
          obtain ⟨h3, h4⟩ := rgOk_iff hj.2
          exact ⟨i, j, rfl, ⟨h1, h2, h3, h4⟩, hd _ α1 H1 R1 S1 yields_rg⟩
    · rw [if_neg hj] at hd
      exact False.elim hd
  · exact False.elim hd
/-- a list or tuple that stays as it is -/
theorem yields_lst {a : Addr} {ds : List D} {vs : List V} (h : (¬ T a ∧ Rd H a (.lst vs)) ∨ KL K a vs) (r : RDs K N α H ds vs) : Yields K N T α H (Itl K a) ds := by
  intro N' T' α' H' sT sN hN
  have hq : SqL K H' a vs := by
    rcases h with ⟨n, h⟩ | h
    · exact sqL_of (sT.rd n h).1
    · exact h.sq
  have r' := r.step sN
  refine ⟨fun i d hd => ?_, fun i hi => ⟨vs, hq, by rw [← r.length]; exact hi⟩⟩
  obtain ⟨v, h1, h2⟩ := r'.get hd
  refine ⟨⟨vs, v, hq, h1⟩, fun x H'' y => ?_⟩
  obtain ⟨rfl, y⟩ := y
  have := y vs hq
  rw [h1] at this
  cases this
  exact ⟨Same.refl _, h2⟩
theorem yields_tup {a : Addr} {ds : List D} {vs : List V} (n : ¬ N a) (h : Rd H a (.tup vs)) (r : RDs K N α H ds vs) : Yields K N T α H (Itt K a) ds := by
  intro N' T' α' H' sT sN hN
  have hq : SqT K H' a vs := sqT_of (sN.rd n h).1
  have r' := r.step sN
  refine ⟨fun i d hd => ?_, fun i hi => ⟨vs, hq, by rw [← r.length]; exact hi⟩⟩
  obtain ⟨v, h1, h2⟩ := r'.get hd
  refine ⟨⟨vs, v, hq, h1⟩, fun x H'' y => ?_⟩
  obtain ⟨rfl, y⟩ := y
  have := y vs hq
  rw [h1] at this
  cases this
  exact ⟨Same.refl _, h2⟩
theorem nt_of {bb : Bool} : ∀ a, (if bb then NB c α else NN c Γ σ α) a → NN c Γ σ α a := by
  intro a h
  cases bb with
  | true => exact .inl h
  | false => exact h
/-- a list or a tuple, the value of a -/
theorem si_seq {tg : Expr} {bb : Bool} (ha : SE X W Γ a fa) : SI X W Γ bb tg a (itSeq fa) := by
  intro c sl st α σ H R' Rl h
  unfold itSeq at h
  have h0 := Vx.R.sat_bind.mp h
  cases ef : fa sl st with
  | no => rw [ef] at h0; exact False.elim h0
  | ex x s1 =>
    rw [ef] at h0
    exact ⟨_, pi_list pe_wp, ha c sl st α σ H _ Rl (by rw [ef]; exact h0)⟩
  | ok d s1 =>
    rw [ef] at h0
    cases d with
    | lst xs =>
      refine ⟨_, pi_list pe_wp, ha c sl st α σ H _ Rl ?_⟩
      rw [ef]
      intro v α1 H1 R1 S1 r1
      have rb := RB.of (T := if bb then NB c α1 else NN c Γ σ α1) r1 nt_of
      obtain ⟨q, vs, rfl, hq, r⟩ := id rb
      obtain ⟨_, vs', e, hs, _⟩ := rb.lst
      exact ⟨q, rfl, ⟨vs, by rcases hq with ⟨_, hq⟩ | hq; exact sqL_of hq; exact hq.sq⟩, h0 _ α1 H1 R1 S1 (yields_lst hq r)⟩
    | tup xs =>
      refine ⟨_, pi_tup pe_wp, ha c sl st α σ H _ Rl ?_⟩
      rw [ef]
      intro v α1 H1 R1 S1 r1
      cases r1 with
      | tup n hr r => exact ⟨_, rfl, ⟨_, sqT_of hr⟩, h0 _ α1 H1 R1 S1 (yields_tup n hr r)⟩
    | _ => exact False.elim h0
/-- .. in a comprehension, one of the frame's own -/
theorem si_seqB {tg : Expr} (ha : SB X W Γ a fa) : SI X W Γ true tg a (itSeq fa) := by
  intro c sl st α σ H R' Rl h
  unfold itSeq at h
  have h0 := Vx.R.sat_bind.mp h
  cases ef : fa sl st with
  | no => rw [ef] at h0; exact False.elim h0
  | ex x s1 =>
    rw [ef] at h0
    exact ⟨_, pi_list pe_wp, ha c sl st α σ H _ Rl (by rw [ef]; exact h0)⟩
  | ok d s1 =>
    rw [ef] at h0
    cases d with
    | lst xs =>
      refine ⟨_, pi_list pe_wp, ha c sl st α σ H _ Rl ?_⟩
      rw [ef]
      intro v α1 H1 R1 S1 r1
      obtain ⟨q, vs, rfl, hq, r⟩ := r1
      exact ⟨q, rfl, ⟨vs, by rcases hq with ⟨_, hq⟩ | hq; exact sqL_of hq; exact hq.sq⟩, h0 _ α1 H1 R1 S1 (yields_lst hq r)⟩
    | tup xs =>
      refine ⟨_, pi_tup pe_wp, ha c sl st α σ H _ Rl ?_⟩
      rw [ef]
      intro v α1 H1 R1 S1 r1
      obtain ⟨q, vs, rfl, n, hr, r⟩ := RB.tup r1
      exact ⟨_, rfl, ⟨_, sqT_of hr⟩, h0 _ α1 H1 R1 S1 (yields_tup n hr r)⟩
    | _ => exact False.elim h0
theorem si_str {tg : Expr} {bb : Bool} (ha : SE X W Γ a fa) : SI X W Γ bb tg a (itStr fa) := by
  intro c sl st α σ H R' Rl h
  refine ⟨_, pi_str pe_wp, ?_⟩
  refine ha c sl st α σ H _ Rl ((Vx.R.sat_bind.mp h).imp (fun d s1 hd v α1 H1 R1 S1 r1 => ?_) fun _ _ z => z)
  split at hd
  · rename_i z
    cases r1
    refine ⟨z, rfl, hd _ α1 H1 R1 S1 ?_⟩
    intro N' T' α' H' _ _ _
    have hl : z.cps.size = z.cps.toList.length := Array.length_toList.symm
    refine ⟨fun i d hd => ?_, fun i hi => by rw [List.length_map] at hi; show z.cps.size ≤ i; rw [hl]; exact hi⟩
    rw [List.getElem?_map] at hd
    cases q : z.cps.toList[i]? with
    | none => rw [q] at hd; cases hd
    | some k =>
      rw [q] at hd
      cases hd
      have hlt : i < z.cps.size := by rw [hl]; exact (List.getElem?_eq_some_iff.mp q).1
      refine ⟨hlt, fun x H'' y => ?_⟩
      obtain ⟨rfl, k', h1, rfl⟩ := y
      have e : z.cps[i]? = z.cps.toList[i]? := by simp
      rw [e, q] at h1
      cases h1
      exact ⟨Same.refl _, .str _⟩
  · exact False.elim hd

/-! ### the frame behind something that ran elsewhere -/
theorem Rel.carry {st1 : Sto} (R : Rel K c Γ sl st1 α σ H) (S : Ste α H α' H') (hB : ∀ a, c'.B a → c.B a ∨ (H a = none ∧ H' a ≠ none ∧ a ∉ α')) (e0 : c'.H0 = c.H0) (e1 : c'.α0 = c.α0)
    (hs : StoRel K (NN c' Γ σ α') α' H' st') (hα : ∀ a, a ∈ α' → ¬ c.B a) : Rel K c' Γ sl st' α' σ H' := by
  have out : ∀ a o, H a = some o → a ∉ α → a ∉ α' := fun a o h n m => (S.new a m).elim n fun z => by rw [h] at z; cases z
  have S2 : Stp (NN c Γ σ α) α H (NN c' Γ σ α') α' H' := by
    refine ⟨S.pre, fun a o h n => ⟨S.keep a o h fun m => n (.inl (.inr m)), fun z => ?_⟩⟩
    rcases z with (z | z) | z
    · rcases hB a z with z | ⟨z, _⟩
      · exact n (.inl (.inl z))
      · rw [h] at z; cases z
    · exact out a o h (fun m => n (.inl (.inr m))) z
    · exact n (.inr z)
  refine ⟨R.len, fun i d h n => ?_, fun i h => ?_, R.dist, hs, fun a h => ?_, fun a m h => ?_, ?_, fun a m => ?_, fun a o h n => ?_⟩
  · obtain ⟨v, h1, h2⟩ := R.val i d h n
    exact ⟨v, h1, h2.step S2⟩
  · obtain ⟨d, a, o, h1, h2, h3, h4, h5, h6⟩ := R.own i h
    have na : a ∉ α := fun m => h6 (.inr m)
    refine ⟨d, a, o, h1, h2, S.keep a o h3 na, h4.step S2, by rw [e0]; exact h5, fun z => ?_⟩
    rcases z with z | z
    · rcases hB a z with z | ⟨z, _⟩
      · exact h6 (.inl z)
      · rw [h3] at z; cases z
    · exact out a o h3 na z
  · rcases hB a h with h | ⟨_, h, _⟩
    · cases q : H a with
      | none => exact absurd q (R.bt a h)
      | some o =>
        rw [S.keep a o q fun m => R.αB a m h]
        exact fun z => nomatch z
    · exact h
  · rcases hB a h with h | ⟨_, _, h⟩
    · exact hα a m h
    · exact h m
  · obtain ⟨t, e⟩ := R.αn
    obtain ⟨t2, e2⟩ := S.pre
    exact ⟨t ++ t2, by rw [e2, e, e1, List.append_assoc]⟩
  · rw [e0, e1]
    rcases S.new a m with h | h
    · exact R.αf a h
    · exact .inr (R.fresh0 h)
  · rw [e0] at h
    rw [e1] at n
    have h1 := R.fr a o h n
    exact S.keep a o h1 fun m => (R.αf a m).elim n fun z => by rw [h] at z; cases z
/-- a barred object is changed -/
theorem Rel.barred {p : Addr} {o o' : HO} (R : Rel K (c.add p) Γ sl st α σ H) (hp : H p = some o) (h0 : c.H0 p = none) : Rel K (c.add p) Γ sl st α σ (upd H p o') ∧ Stp (NN (c.add p) Γ σ α) α H (NN (c.add p) Γ σ α) α (upd H p o') := by
  have np : NN (c.add p) Γ σ α p := .inl (.inl (.inr rfl))
  have S : Stp (NN (c.add p) Γ σ α) α H (NN (c.add p) Γ σ α) α (upd H p o') := ⟨⟨[], by simp⟩, fun b u h n => ⟨by rw [upd_ne (fun e => n (by rw [e]; exact np))]; exact h, n⟩⟩
  have nα : p ∉ α := fun m => R.αB p m (.inr rfl)
  refine ⟨⟨R.len, fun i d h n => ?_, fun i h => ?_, R.dist, R.sto.step S fun a m => upd_ne fun e => nα (e ▸ m), fun a h => ?_, R.αB, R.αn, R.αf, fun a u h n => ?_⟩, S⟩
  · obtain ⟨v, h1, h2⟩ := R.val i d h n
    exact ⟨v, h1, h2.step S⟩
  · obtain ⟨d, a, u, h1, h2, h3, h4, h5, h6⟩ := R.own i h
    exact ⟨d, a, u, h1, h2, by rw [upd_ne (fun e => h6 (.inl (.inr e)))]; exact h3, h4.step S, h5, h6⟩
  · by_cases e : a = p
    · rw [e, upd_same]
      exact fun z => nomatch z
    · rw [upd_ne e]
      exact R.bt a h
  · rw [upd_ne (fun e => by rw [e] at h; have h : c.H0 p = some u := h; rw [h0] at h; cases h)]
    exact R.fr a u h n

/-! ### comprehensions -/
theorem wipe_get {σ : St} {vs : List Nat} {i : Nat} : (wipe σ vs)[i]? = if i ∈ vs then (σ[i]?).map (fun _ => none) else σ[i]? := by
  induction vs with
  | nil => rfl
  | cons v vs ih =>
    unfold wipe
    by_cases e : v = i
    · subst e
      rw [if_pos List.mem_cons_self]
      by_cases hl : v < (wipe σ vs).length
      · rw [List.getElem?_set_self hl]
        rw [wipe_length] at hl
        rw [List.getElem?_eq_getElem hl]
        rfl
      · rw [List.getElem?_eq_none (by rw [List.length_set]; exact Nat.le_of_not_lt hl)]
        rw [wipe_length] at hl
        rw [List.getElem?_eq_none (Nat.le_of_not_lt hl)]
        rfl
    · rw [getElem?_set_ne' e, ih]
      by_cases m : i ∈ vs
      · rw [if_pos m, if_pos (List.mem_cons_of_mem _ m)]
      · rw [if_neg m, if_neg (fun z => (List.mem_cons.mp z).elim (fun z => e z.symm) m)]
theorem wipe_same {σ σ' : St} {vs : List Nat} (hl : σ'.length = σ.length) (h : ∀ i, i ∉ vs → σ'[i]? = σ[i]?) : wipe σ' vs = wipe σ vs := by
  apply List.ext_getElem?
  intro i
  rw [wipe_get, wipe_get]
  by_cases m : i ∈ vs
  · rw [if_pos m, if_pos m]
    by_cases hi : i < σ.length
    · rw [List.getElem?_eq_getElem hi, List.getElem?_eq_getElem (by rw [hl]; exact hi)]
      rfl
    · rw [List.getElem?_eq_none (Nat.le_of_not_lt hi), List.getElem?_eq_none (by rw [hl]; exact Nat.le_of_not_lt hi)]
  · rw [if_neg m, if_neg m, h i m]
theorem wipeD_eq (l : Sl) : ∀ vs : List Nat, wipeD l vs = vs.foldr (fun v l => l.set v none) l
  | [] => rfl
  | v :: vs => by unfold wipeD; rw [wipeD_eq l vs]; rfl
theorem wipeD_length (l : Sl) : ∀ vs : List Nat, (wipeD l vs).length = l.length
  | [] => rfl
  | v :: vs => by unfold wipeD; rw [List.length_set, wipeD_length l vs]
theorem wipeD_get {l : Sl} {vs : List Nat} {i : Nat} : (wipeD l vs)[i]? = if i ∈ vs then (l[i]?).map (fun _ => none) else l[i]? := by
  induction vs with
  | nil => rfl
  | cons v vs ih =>
    unfold wipeD
    by_cases e : v = i
    · subst e
      rw [if_pos List.mem_cons_self]
      by_cases hl : v < (wipeD l vs).length
      · rw [List.getElem?_set_self hl]
        rw [wipeD_length] at hl
        rw [List.getElem?_eq_getElem hl]
        rfl
      · rw [List.getElem?_eq_none (by rw [List.length_set]; exact Nat.le_of_not_lt hl)]
        rw [wipeD_length] at hl
        rw [List.getElem?_eq_none (Nat.le_of_not_lt hl)]
        rfl
    · rw [getElem?_set_ne' e, ih]
      by_cases m : i ∈ vs
      · rw [if_pos m, if_pos (List.mem_cons_of_mem _ m)]
      · rw [if_neg m, if_neg (fun z => (List.mem_cons.mp z).elim (fun z => e z.symm) m)]
theorem wipeD_same {l l' : Sl} {vs : List Nat} (hl : l'.length = l.length) (h : ∀ i, i ∉ vs → l'[i]? = l[i]?) : wipeD l' vs = wipeD l vs := by
  apply List.ext_getElem?
  intro i
  rw [wipeD_get, wipeD_get]
  by_cases m : i ∈ vs
  · rw [if_pos m, if_pos m]
    by_cases hi : i < l.length
    · rw [List.getElem?_eq_getElem hi, List.getElem?_eq_getElem (by rw [hl]; exact hi)]
      rfl
    · rw [List.getElem?_eq_none (Nat.le_of_not_lt hi), List.getElem?_eq_none (by rw [hl]; exact Nat.le_of_not_lt hi)]
  · rw [if_neg m, if_neg m, h i m]
theorem Rel.wiped {vs : List Nat} (R : Rel K c Γ sl st α σ H) (hΓ : ∀ i ∈ vs, Γ[i]? ≠ some true) : Rel K c Γ (wipeD sl vs) st α (wipe σ vs) H ∧ ∀ a, LocO Γ (wipe σ vs) a ↔ LocO Γ σ a := by
  induction vs with
  | nil => exact ⟨R, fun _ => Iff.rfl⟩
  | cons v vs ih =>
    obtain ⟨h1, h2⟩ := ih fun i m => hΓ i (List.mem_cons_of_mem _ m)
    have hv := hΓ v List.mem_cons_self
    unfold wipe wipeD
    exact ⟨h1.forget hv, fun a => (loc_set hv a).trans (h2 a)⟩
/-- a target that changes its own slots alone -/
def TgOk (is : List Nat) (g : D → Sl → Option Sl) : Prop := ∀ d l l', g d l = some l' → l'.length = l.length ∧ ∀ i, i ∉ is → l'[i]? = l[i]?
theorem tg1_ok (i : Nat) : TgOk [i] (tg1 i) := fun d l l' h => by
  cases h
  exact ⟨List.length_set .., fun j hj => getElem?_set_ne' fun e => hj (by rw [e]; exact List.mem_cons_self)⟩
theorem tg2_ok (i j : Nat) : TgOk [i, j] (tg2 i j) := fun d l l' h => by
  unfold tg2 at h
  split at h
  · cases h
    exact ⟨by rw [List.length_set, List.length_set], fun m hm => by
      rw [getElem?_set_ne' (fun e => hm (by rw [e]; exact List.mem_cons_of_mem _ List.mem_cons_self)), getElem?_set_ne' (fun e => hm (by rw [e]; exact List.mem_cons_self))]⟩
  · cases h
def wpTs (X : Cx) (ifs : List Expr) : TT := fun σ H Q => ∃ t, PTs X ifs t ∧ t σ H Q
def STs (X : Cx) (W : WXc) (Γ : List Bool) (ifs : List Expr) (f : FT) : Prop := ∀ c sl st α σ H Q, Rel X.K c Γ sl st α σ H →
  (f sl st).Sat (fun b st' => ∀ α' H', Rel X.K c Γ sl st' α' σ H' → Ste α H α' H' → Q b H') (PX X.K c Γ sl σ W) → wpTs X ifs σ H Q
theorem sts_nil : STs X W Γ [] mYes := fun c sl st α σ H Q R h => ⟨_, pts_nil, h α H R .refl⟩
theorem sts_one {t : FT} (h : ST X W Γ e t) : STs X W Γ [e] t := fun c sl st α σ H Q R q => ⟨_, pts_one pt_wp, h c sl st α σ H Q R q⟩
/-- in a comprehension nothing is raised -/
def W0 : WXc := fun _ _ _ _ => False
/-- of a block of a comprehension: whatever block it is -/
def gU (X : Cx) (scope : Scope) (tg : Expr) : TG := fun v σ H Q => ∀ (s : Shared) (H0 : Hp) (C : Addr) (cl : List (Str × Addr)) (fp : List Addr), wpG (X.blk s H0 scope (compEnvC scope cl C X.env) fp) tg v σ H Q
def tU (X : Cx) (scope : Scope) (ifs : List Expr) : TT := fun σ H Q => ∀ (s : Shared) (H0 : Hp) (C : Addr) (cl : List (Str × Addr)) (fp : List Addr), wpTs (X.blk s H0 scope (compEnvC scope cl C X.env) fp) ifs σ H Q
def eU (X : Cx) (scope : Scope) (elt : Expr) : TE := fun σ H Q => ∀ (s : Shared) (H0 : Hp) (C : Addr) (cl : List (Str × Addr)) (fp : List Addr), wpE (X.blk s H0 scope (compEnvC scope cl C X.env) fp) elt σ H Q
theorem pg_gU {scope : Scope} {tg : Expr} (s : Shared) (H : Hp) (C : Addr) (cl : List (Str × Addr)) (fp : List Addr) : PG (X.blk s H scope (compEnvC scope cl C X.env) fp) tg (gU X scope tg) := ⟨fun pins s' σ _ v u Q I r hh => pg_wp.run pins s' σ _ v u Q I r (hh s H C cl fp)⟩
theorem pt_tU {scope : Scope} {ifs : List Expr} (s : Shared) (H : Hp) (C : Addr) (cl : List (Str × Addr)) (fp : List Addr) : PTs (X.blk s H scope (compEnvC scope cl C X.env) fp) ifs (tU X scope ifs) := ⟨fun pins s' σ _ Q I hh => by obtain ⟨t, h1, h2⟩ := hh s H C cl fp; exact h1.run pins s' σ _ Q I h2⟩
theorem pe_eU {scope : Scope} {elt : Expr} (s : Shared) (H : Hp) (C : Addr) (cl : List (Str × Addr)) (fp : List Addr) : PE (X.blk s H scope (compEnvC scope cl C X.env) fp) elt (eU X scope elt) := ⟨fun pins s' σ _ Q I hh => pe_wp.run pins s' σ _ Q I (hh s H C cl fp)⟩
theorem comp_core {tg iter elt : Expr} {ifs : List Expr} {scope : Scope} {own : List (Str × Nat)} {is : List Nat} {g : D → Sl → Option Sl} {it : FA} {t : FT} {f : FE}
    (hi : SI X W Γ true tg iter it) (hg : ∀ (s : Shared) (H : Hp) (C : Addr) (cl : List (Str × Addr)) (fp : List Addr), SG (X.blk s H scope (compEnvC scope cl C X.env) fp) tg is g) (hgo : TgOk is g) (his : ∀ i ∈ is, i ∈ own.map (·.2))
    (ht : ∀ (s : Shared) (H : Hp) (C : Addr) (cl : List (Str × Addr)) (fp : List Addr), STs (X.blk s H scope (compEnvC scope cl C X.env) fp) W0 Γ ifs t) (he : ∀ (s : Shared) (H : Hp) (C : Addr) (cl : List (Str × Addr)) (fp : List Addr), SE (X.blk s H scope (compEnvC scope cl C X.env) fp) W0 Γ elt f)
    (hΓ : ∀ i ∈ own.map (·.2), Γ[i]? ≠ some true) {Q : VK} (R : Rel X.K c Γ sl st α σ H) (h : (mComp it g t f (own.map (·.2)) sl st).Sat (PQf X.K c Γ sl α σ H Q) (PX X.K c Γ sl σ W)) :
    tLc (wpI X tg iter) (gU X scope tg)
      (tU X scope ifs)
      (eU X scope elt) (own.map (·.2)) σ H Q := by
  generalize hvs : own.map (·.2) = vs at *
  refine hi c sl st α σ H _ R ((Vx.R.sat_bind.mp h).imp (fun ds s1 hd J α1 H1 R1 S1 hJ => ?_) fun _ _ z => z)
  intro Dl hD
  obtain ⟨R1', SD⟩ := R1.new (o := .lst []) hD
  have dα : ∀ {α' : List Addr} {H' : Hp}, Ste α1 H1 α' H' → Dl ∈ α' → Dl ∈ α1 ∨ H1 Dl = none := fun S m => S.new Dl m
  refine ⟨fun i m H' => m = ds.length - i ∧ ∃ acc accV st' α', H' Dl = some (.lst accV) ∧ Rel X.K (c.add Dl) Γ (wipeD sl vs) st' α' (wipe σ vs) H' ∧ Ste α1 H1 α' H' ∧ RDs X.K (NN (c.add Dl) Γ (wipe σ vs) α') α' H' acc accV ∧
    (compD g t f (wipeD sl vs) (ds.drop i) acc st').Sat (PQf X.K c Γ sl α σ H Q) (PX X.K c Γ sl σ W), ⟨ds.length, by simp, [], [], s1, α1, upd_same, (R1'.wiped hΓ).1, .grow (same_upd hD), .nil, hd⟩, ?_⟩
  rintro i m H2 ⟨rfl, acc, accV, st2, α2, hD2, R2, S2, r2, q2⟩
  have lw := (R1'.wiped hΓ).2
  obtain ⟨y1, y2⟩ := hJ (NN (c.add Dl) Γ (wipe σ vs) α2) (NB (c.add Dl) α2) α2 H2 (by
    refine ⟨S2.pre, fun a o e n => ⟨S2.keep a o e fun z => n (.inr z), fun z => ?_⟩⟩
    rcases z with z | z
    · exact z.elim (fun z => n (.inl z)) (fun z => by rw [z, hD] at e; cases e)
    · exact (S2.new a z).elim (fun z => n (.inr z)) fun z => by rw [e] at z; cases z) (by
    refine ⟨S2.pre, fun a o e n => ⟨S2.keep a o e fun z => n (.inl (.inr z)), fun z => ?_⟩⟩
    rcases z with (z | z) | z
    · exact z.elim (fun z => n (.inl (.inl z))) (fun z => by rw [z, hD] at e; cases e)
    · exact (S2.new a z).elim (fun z => n (.inl (.inr z))) fun z => by rw [e] at z; cases z
    · exact n (.inr ((lw a).mp z))) R2.nn
  by_cases hlt : i < ds.length
  · have hd' : ds[i]? = some ds[i] := List.getElem?_eq_getElem hlt
    obtain ⟨go, yl⟩ := y1 i _ hd'
    rw [List.drop_eq_getElem_cons hlt] at q2
    refine .inr ⟨go, fun H' => ∃ acc accV st' α', H' Dl = some (.lst accV) ∧ Rel X.K (c.add Dl) Γ (wipeD sl vs) st' α' (wipe σ vs) H' ∧ Ste α1 H1 α' H' ∧ RDs X.K (NN (c.add Dl) Γ (wipe σ vs) α') α' H' acc accV ∧
      (compD g t f (wipeD sl vs) (ds.drop (i + 1)) acc st').Sat (PQf X.K c Γ sl α σ H Q) (PX X.K c Γ sl σ W), ?_, ?_⟩
    · rintro H' ⟨acc', accV', st', α', h1, h2, h3, h4, h5⟩
      exact ⟨_, by omega, rfl, acc', accV', st', α', h1, h2, h3, h4, h5⟩
    · intro x H3 hy
      obtain ⟨G, rx⟩ := yl x H3 hy
      have R3 := R2.grow G
      unfold compD at q2
      cases eg : g ds[i] (wipeD sl vs) with
      | none => rw [eg] at q2; exact False.elim q2
      | some l1 =>
        rw [eg] at q2
        obtain ⟨gl, go'⟩ := hgo _ _ _ eg
        intro s9 H9 C9 cl9 fp9
        refine hg s9 H9 C9 cl9 fp9 (c.add Dl) Γ (wipeD sl vs) st2 α2 (wipe σ vs) H3 _ x l1 _ (fun i m => hΓ i (his i m)) R3 rx eg fun σ4 R4 hl4 ln4 at4 => ?_
        have w4 : wipe σ4 vs = wipe σ vs := by
          have e1 : wipe σ4 vs = wipe (wipe σ vs) vs := wipe_same ln4 fun i hi => at4 i fun m => hi (his i m)
          rw [e1]
          exact wipe_same (wipe_length _ _) fun i hi => by rw [wipe_get, if_neg hi]
        have wl : wipeD l1 vs = wipeD sl vs := by
          have e1 : wipeD l1 vs = wipeD (wipeD sl vs) vs := wipeD_same gl fun i hi => go' i fun m => hi (his i m)
          rw [e1]
          exact wipeD_same (wipeD_length _ _) fun i hi => by rw [wipeD_get, if_neg hi]
        refine ⟨w4, ?_⟩
        have back : ∀ {st' : Sto} {α' : List Addr} {H' : Hp}, Rel X.K (c.add Dl) Γ l1 st' α' σ4 H' → Rel X.K (c.add Dl) Γ (wipeD sl vs) st' α' (wipe σ vs) H' := fun R' => by
          have := (R'.wiped hΓ).1
          rw [w4, wl] at this
          exact this
        have S3 : Ste α1 H1 α2 H3 := S2.trans (.grow G)
        have hD3 := G _ _ hD2
        have nnL : ∀ α' a, NN (c.add Dl) Γ (wipe σ vs) α' a ↔ NN (c.add Dl) Γ σ4 α' a := fun α' a => by
          unfold NN
          rw [hl4]
        intro s8 H8 C8 cl8 fp8
        refine ht s8 H8 C8 cl8 fp8 (c.add Dl) l1 st2 α2 σ4 H3 _ R4 (Vx.R.sat_nox (E := fun _ _ => True) ((Vx.R.sat_bind.mp q2).imp (fun k s5 hk α5 H5 R5 S5 => ?_) fun _ _ _ => trivial))
        have dα5 : Dl ∉ α2 := fun m => R3.αB Dl m (.inr rfl)
        have hD5 := S5.keep Dl _ hD3 dα5
        have r5 : RDs X.K (NN (c.add Dl) Γ (wipe σ vs) α5) α5 H5 acc accV := ((r2.step (.grow G)).step S5.nn : RDs X.K (NN (c.add Dl) Γ (wipe σ vs) α5) α5 H5 acc accV)
        cases k with
        | false =>
          rw [if_neg Bool.false_ne_true] at hk ⊢
          exact ⟨acc, accV, s5, α5, hD5, back R5, S3.trans S5, r5, hk⟩
        | true =>
          rw [if_pos rfl] at hk ⊢
          intro s7 H7 C7 cl7 fp7
          refine he s7 H7 C7 cl7 fp7 (c.add Dl) l1 s5 α5 σ4 H5 _ R5 (Vx.R.sat_nox (E := fun _ _ => True) ((Vx.R.sat_bind.mp hk).imp (fun y s6 hy6 vy α6 H6 R6 S6 ry => ?_) fun _ _ _ => trivial))
          have dα6 : Dl ∉ α5 := fun m => R5.αB Dl m (.inr rfl)
          have hD6 := S6.keep Dl _ hD5 dα6
          have r6 := r5.step S6.nn
          by_cases hz : acc.length < 16777216
          · rw [if_pos hz] at hy6
            refine ⟨accV, hD6, by rw [← r6.length, sizeLine_eq]; exact hz, ?_⟩
            obtain ⟨R7, S7⟩ := (back R6).barred (o' := .lst (accV ++ [vy])) hD6 (R1.fresh0 hD)
            refine ⟨acc ++ [y], accV ++ [vy], s6, α6, upd_same, R7, ?_, (r6.append (.cons (ry.step (.less fun a z => (nnL α6 a).mp z)) .nil)).step S7, hy6⟩
            have S16 := S3.trans (S5.trans S6)
            exact ⟨S16.pre, S16.new, fun a o e n => by rw [upd_ne (ne_of_none e hD)]; exact S16.keep a o e n⟩
          · rw [if_neg hz] at hy6
            exact False.elim hy6
  · have hge : ds.length ≤ i := Nat.le_of_not_lt hlt
    rw [List.drop_eq_nil_iff.mpr hge] at q2
    refine .inl ⟨y2 i hge, ?_⟩
    have q2 : PQf X.K c Γ sl α σ H Q (.lst acc) st2 := q2
    have nn2 : ∀ a, NN (c.add Dl) Γ σ α2 a ↔ NN (c.add Dl) Γ (wipe σ vs) α2 a := fun a => by
      unfold NN
      rw [lw]
    have R3 : Rel X.K (c.add Dl) Γ sl st2 α2 σ H2 := R1.carry S2 (fun a z => z.elim .inl fun z => .inr ⟨by rw [z]; exact hD, by rw [z, hD2]; exact (fun z => nomatch z), by rw [z]; exact fun m => R2.αB Dl m (.inr rfl)⟩) rfl rfl
      (R2.sto.step (.less fun a z => (nn2 a).mp z) fun _ _ => rfl) fun a m z => R2.αB a m (.inl z)
    refine q2 Dl (.lst accV) α2 H2 ?_ hD2 R3 (S1.trans S2) (r2.step (.less fun a z => (nn2 a).mp z))
    cases q : H Dl with
    | none => rfl
    | some o =>
      by_cases mα : Dl ∈ α
      · obtain ⟨t, e⟩ := S1.pre
        exact absurd hD (R1.sto.tr (by rw [e]; exact List.mem_append_left _ mα))
      · rw [S1.keep Dl o q mα] at hD
        cases hD
theorem sf_comp {tg iter elt : Expr} {ifs : List Expr} {scope : Scope} {own : List (Str × Nat)} {is vs : List Nat} {g : D → Sl → Option Sl} {it : FA} {t : FT} {f : FE} (hc : X.calm = true) (hN : X.N.Nodup) (hi : SI X W Γ true tg iter it) (ok : BlkOk X.N X.env.scope scope own)
    (hg : ∀ (s : Shared) (H : Hp) (C : Addr) (cl : List (Str × Addr)) (fp : List Addr), SG (X.blk s H scope (compEnvC scope cl C X.env) fp) tg is g) (hgo : TgOk is g) (his : ∀ i ∈ is, i ∈ vs)
    (ht : ∀ (s : Shared) (H : Hp) (C : Addr) (cl : List (Str × Addr)) (fp : List Addr), STs (X.blk s H scope (compEnvC scope cl C X.env) fp) W0 Γ ifs t) (he : ∀ (s : Shared) (H : Hp) (C : Addr) (cl : List (Str × Addr)) (fp : List Addr), SE (X.blk s H scope (compEnvC scope cl C X.env) fp) W0 Γ elt f)
    (hΓ : ∀ i ∈ vs, Γ[i]? ≠ some true) (hs : ∀ x, foldedSetIterable iter X.env x = pure x := by intro _; rfl) (hvs : own.map (·.2) = vs := by rfl) : SF X W Γ (.ListComp elt [⟨tg, iter, ifs, 0⟩] scope pos) (mComp it g t f vs) := by
  subst hvs
  intro c sl st α σ H Q R h
  exact ⟨_, pe_lc hc hN pi_wp ok pg_gU pt_tU pe_eU hs, comp_core hi hg hgo his ht he hΓ R h⟩
/-- name = [..] on one line, the name a local -/
theorem ss_setLc (i : Nat) {y : Str} {py : Pos} {tg iter elt : Expr} {ifs : List Expr} {scope : Scope} {own : List (Str × Nat)} {is vs : List Nat} {g : D → Sl → Option Sl} {it : FA} {t : FT} {f : FE} {spos : Pos} (hc : X.calm = true) (hN : X.N.Nodup) (hy : X.N[i]? = some y) (hyl : X.env.scope.names.lookup y = some .local)
    (hsw : swapsWith (.ListComp elt [⟨tg, iter, ifs, 0⟩] scope pos) (some (.Name y py)) spos.line X.env = pure true) (hi : SI X W Γ true tg iter it) (ok : BlkOk X.N X.env.scope scope own)
    (hg : ∀ (s : Shared) (H : Hp) (C : Addr) (cl : List (Str × Addr)) (fp : List Addr), SG (X.blk s H scope (compEnvC scope cl C X.env) fp) tg is g) (hgo : TgOk is g) (his : ∀ i ∈ is, i ∈ vs)
    (ht : ∀ (s : Shared) (H : Hp) (C : Addr) (cl : List (Str × Addr)) (fp : List Addr), STs (X.blk s H scope (compEnvC scope cl C X.env) fp) W0 Γ ifs t) (he : ∀ (s : Shared) (H : Hp) (C : Addr) (cl : List (Str × Addr)) (fp : List Addr), SE (X.blk s H scope (compEnvC scope cl C X.env) fp) W0 Γ elt f)
    (hΓ : ∀ i ∈ vs, Γ[i]? ≠ some true) (hgl : i < Γ.length := by decide) (hs : ∀ x, foldedSetIterable iter X.env x = pure x := by intro _; rfl) (hvs : own.map (·.2) = vs := by rfl) : SS X W ρ ΓL Γ (.Assign [.Name y py] (.ListComp elt [⟨tg, iter, ifs, 0⟩] scope pos) spos) (sSetF i (mComp it g t f vs)) (Γ.set i true) := by
  subst hvs
  intro c sl st α σ H Dn R h
  refine ⟨_, ps_setLc hc hN hy hyl hsw pi_wp ok pg_gU pt_tU pe_eU hs, ?_⟩
  refine comp_core hi hg hgo his ht he hΓ R ((Vx.R.sat_fl.mp h).imp (fun d s1 hd => ?_) fun x s1 hx => hx Γ σ)
  by_cases hl : i < sl.length
  · rw [if_pos hl] at hd
    exact set_own_core R hgl hl hd
  · rw [if_neg hl] at hd
    exact False.elim hd
end
end Vx

/-! VFn: calls of the text's own defs, a def as a whole, lists changed in place, the law's end. -/
namespace Vx
open PySem PySem.Spec L2
section
variable {X : Cx} {W : WXc} {ρ : Bool} {Γ Γ' Γ'' ΓL : List Bool} {e a b : Expr} {es : List Expr} {s : Stmt} {ss : List Stmt} {f fa fb fc : FE} {x : Str} {pos p : Pos} {g1 g2 : FS}
variable {K : PySem.W.Frag} {N T : Addr → Prop} {α α' : List Addr} {H H' : Hp} {c c' : Cz} {sl : Sl} {st st' : Sto} {σ : St}

/-! ### what a def promises -/
def BA (B : Addr → Prop) (α : List Addr) : Addr → Prop := fun a => B a ∨ a ∈ α
/-- behind a call -/
structure Ext0 (K : PySem.W.Frag) (B : Addr → Prop) (α : List Addr) (H : Hp) (α' : List Addr) (H' : Hp) (st' : Sto) : Prop where
  st : Ste α H α' H'
  nb : ∀ a, a ∈ α' → ¬ B a
  sto : StoRel K (BA B α') α' H' st'
def FR (K : PySem.W.Frag) (ρ : Bool) (B : Addr → Prop) (α : List Addr) (H : Hp) (Q : VK) (d : D) (st' : Sto) : Prop :=
  (∀ v α' H', Ext0 K B α H α' H' st' → RD K (BA B α') α' H' d v → (ρ = true → ∀ ds ks, d ≠ .lst ds ∧ d ≠ .dic ks) → Q v H') ∧
  (ρ = true → ∀ p o α' H', H p = none → H' p = some o → Ext0 K (fun a => B a ∨ a = p) α H α' H' st' → ROb K (BA (fun a => B a ∨ a = p) α') α' H' d o → Q (.ref p) H')
/-- a def that does what m says, and raises nothing -/
def FSpec (K : PySem.W.Frag) (ρ : Bool) (m : List D → Sto → R D) : Sp := fun vs H Q _ => ∃ (B : Addr → Prop) (α : List Addr) (ds : List D) (st : Sto),
  RDs K (BA B α) α H ds vs ∧ StoRel K (BA B α) α H st ∧ (∀ a, B a → H a ≠ none) ∧ (∀ a, a ∈ α → ¬ B a) ∧ (m ds st).Sat (FR K ρ B α H Q) fun _ _ => False
theorem ba_nn {a : Addr} : BA (fun a => c.B a ∨ LocO Γ σ a) α a ↔ NN c Γ σ α a := by
  unfold BA NN NB
  constructor
  · rintro ((h | h) | h)
    · exact .inl (.inl h)
    · exact .inr h
    · exact .inl (.inr h)
  · rintro ((h | h) | h)
    · exact .inl (.inl h)
    · exact .inr h
    · exact .inl (.inr h)
/-- the caller's side -/
theorem call_spec {m : List D → Sto → R D} {ds : List D} {vs : List V} {Q : VK} {E : XK} (R : Rel K c Γ sl st α σ H) (r : RDs K (NN c Γ σ α) α H ds vs)
    (h : (m ds st).nox.Sat (fun d st' => (∀ v α' H', Rel K c Γ sl st' α' σ H' → Ste α H α' H' → RD K (NN c Γ σ α') α' H' d v → (ρ = true → ∀ ds ks, d ≠ .lst ds ∧ d ≠ .dic ks) → Q v H') ∧
      (ρ = true → ∀ p o α' H', H p = none → H' p = some o → Rel K (c.add p) Γ sl st' α' σ H' → Ste α H α' H' → ROb K (NN (c.add p) Γ σ α') α' H' d o → Q (.ref p) H')) (fun _ _ => False)) : FSpec K ρ m vs H Q E := by
  have L : Stp (NN c Γ σ α) α H (BA (fun a => c.B a ∨ LocO Γ σ a) α) α H := .less fun a z => ba_nn.mp z
  have hB : ∀ a, c.B a ∨ LocO Γ σ a → NN c Γ σ α a := fun a z => z.elim (fun z => .inl (.inl z)) .inr
  refine ⟨fun a => c.B a ∨ LocO Γ σ a, α, ds, st, r.step L, R.sto.step L fun _ _ => rfl, fun a z => R.tr (hB a z), fun a m z => ?_, ?_⟩
  · rcases z with z | ⟨i, z1, z2⟩
    · exact R.αB a m z
    · obtain ⟨d, a', o, h1, h2, h3, h4, h5, h6⟩ := R.own i z1
      rw [z2] at h2
      cases h2
      exact h6 (.inr m)
  · cases em : m ds st with
    | ex x s1 => rw [em] at h; exact False.elim h
    | no => rw [em] at h; exact False.elim h
    | ok d s1 =>
      rw [em] at h
      obtain ⟨h1, h2⟩ := h
      refine ⟨fun v α' H' X0 rv hn => ?_, fun hρ p o α' H' hp ho X0 ro => ?_⟩
      · have Lb : ∀ {a}, NN c Γ σ α' a → BA (fun a => c.B a ∨ LocO Γ σ a) α' a := fun z => ba_nn.mpr z
        exact h1 v α' H' (R.carry X0.st (fun a z => .inl z) rfl rfl (X0.sto.step (.less fun a z => Lb z) fun _ _ => rfl) fun a m z => X0.nb a m (.inl z)) X0.st (rv.step (.less fun a z => Lb z)) hn
      · have Lb : ∀ a, NN (c.add p) Γ σ α' a → BA (fun a => (c.B a ∨ LocO Γ σ a) ∨ a = p) α' a := fun a z => by
          rcases z with (z | z) | z
          · exact .inl (z.elim (fun z => .inl (.inl z)) .inr)
          · exact .inr z
          · exact .inl (.inl (.inr z))
        refine h2 hρ p o α' H' hp ho (R.carry X0.st (fun a z => z.elim .inl fun z => .inr ⟨by rw [z]; exact hp, by rw [z, ho]; exact (fun z => nomatch z), by rw [z]; exact fun m => X0.nb p m (.inr rfl)⟩) rfl rfl (X0.sto.step (.less Lb) fun _ _ => rfl) fun a m z => X0.nb a m (.inl (.inl z))) X0.st (ro.step (.less Lb))
theorem se_call {k : Nat} {fd : FuncData} {ps : List Str} {q : Addr} {m : List D → Sto → R D} {fr : FA} (G : FnOk X.prog X.w X.K X.mg X.base CX0 k q fd ps (FSpec X.K ρ m)) (hr : Room k X.A) (hm : X.mg x = some (.ref q)) (kp : PySem.W.keepIn X.K (.ref q) = true) (hb : Binds X.K fd ps []) (ha : SA X W Γ (e :: es) fr)
    (hg : Gl X x := by rfl) (hd : (x == ("__debug__" : Str)) = false := by decide) (he : starEach (e :: es) X.env = (false, eval e X.env) :: starEach es X.env := by rfl) (hpl : (backTo pos (starEach es X.env)).any (·.1) = false := by rfl) : SE X W Γ (.Call (.Name x p) (e :: es) [] pos) (mCall m fr) := by
  intro c sl st α σ H Q R h
  refine ⟨_, pe_call G hr hg hm kp hb .nil pass0 pa_wp hd he hpl, ?_⟩
  refine ha c sl st α σ H _ R ((Vx.R.sat_bind.mp h).imp (fun ds s1 hd vs α1 H1 R1 S1 r1 => ?_) fun _ _ z => z)
  rw [List.append_nil]
  refine call_spec R1 r1 ?_
  cases em : m ds s1 with
  | ex x s2 => rw [em] at hd; exact False.elim hd
  | no => rw [em] at hd; exact False.elim hd
  | ok d s2 =>
    rw [em] at hd
    have hd : PQ X.K c Γ sl α σ H Q d s2 := hd
    refine ⟨fun v α' H' R' S' r' _ => hd v α' H' R' (S1.trans S') r', fun _ p o α' H' h0 hp R' S' r' => ?_⟩
    exact hd (.ref p) α' H' R'.drop (S1.trans S') ((r'.step (.less nn_less)).rd hp (R'.add_ne fun z => R1.bt p z h0))
/-- .. a new list that is ours now -/
theorem sf_call {k : Nat} {fd : FuncData} {ps : List Str} {q : Addr} {m : List D → Sto → R D} {fr : FA} (G : FnOk X.prog X.w X.K X.mg X.base CX0 k q fd ps (FSpec X.K true m)) (hr : Room k X.A) (hm : X.mg x = some (.ref q)) (kp : PySem.W.keepIn X.K (.ref q) = true) (hb : Binds X.K fd ps []) (ha : SA X W Γ (e :: es) fr)
    (hg : Gl X x := by rfl) (hd : (x == ("__debug__" : Str)) = false := by decide) (he : starEach (e :: es) X.env = (false, eval e X.env) :: starEach es X.env := by rfl) (hpl : (backTo pos (starEach es X.env)).any (·.1) = false := by rfl) : SF X W Γ (.Call (.Name x p) (e :: es) [] pos) (mCallF m fr) := by
  intro c sl st α σ H Q R h
  refine ⟨_, pe_call G hr hg hm kp hb .nil pass0 pa_wp hd he hpl, ?_⟩
  refine ha c sl st α σ H _ R ((Vx.R.sat_bind.mp h).imp (fun ds s1 hd vs α1 H1 R1 S1 r1 => ?_) fun _ _ z => z)
  rw [List.append_nil]
  refine call_spec R1 r1 ?_
  cases em : m ds s1 with
  | ex x s2 => rw [em] at hd; exact False.elim hd
  | no => rw [em] at hd; exact False.elim hd
  | ok d s2 =>
    rw [em] at hd
    have hd : (if d.isMut = true then .ok d s2 else .no : Vx.R D).Sat (PQf X.K c Γ sl α σ H Q) (PX X.K c Γ sl σ W) := hd
    by_cases hmu : d.isMut = true
    · rw [if_pos hmu] at hd
      refine ⟨fun v α' H' R' S' r' hn => ?_, fun _ p o α' H' h0 hp R' S' r' => ?_⟩
      · cases d <;> first | exact absurd rfl (hn rfl _ []).1 | exact absurd rfl (hn rfl [] _).2 | (cases (show false = true from hmu))
      · refine hd p o α' H' ?_ hp R' (S1.trans S') r'
        cases q : H p with
        | none => rfl
        | some u =>
          by_cases mα : p ∈ α
          · obtain ⟨t, e⟩ := S1.pre
            exact absurd h0 (R1.sto.tr (by rw [e]; exact List.mem_append_left _ mα))
          · rw [S1.keep p u q mα] at h0
            cases h0
    · rw [if_neg hmu] at hd
      exact False.elim hd

/-! ### a def as a whole -/
theorem RDs.startG {ds : List D} {vs : List V} (r : RDs K N α H ds vs) : ∀ (i : Nat) (d : D), (ds.map some ++ List.replicate n none)[i]? = some (some d) → ∃ v, (vs.map some ++ List.replicate m (none : Option V))[i]? = some (some v) ∧ RD K N α H d v := by
  intro i d h
  by_cases hi : i < ds.length
  · rw [List.getElem?_append_left (by rw [List.length_map]; exact hi), List.getElem?_map] at h
    cases q : ds[i]? with
    | none => rw [q] at h; cases h
    | some d' =>
      rw [q] at h
      cases h
      obtain ⟨v, h1, h2⟩ := r.get q
      exact ⟨v, by rw [List.getElem?_append_left (by rw [List.length_map, ← r.length]; exact hi), List.getElem?_map, h1]; rfl, h2⟩
  · rw [List.getElem?_append_right (by rw [List.length_map]; exact Nat.le_of_not_lt hi)] at h
    rw [List.getElem?_replicate] at h
    split at h <;> cases h
theorem body_start {B : Addr → Prop} {ds : List D} {vs : List V} {n : Nat} (r : RDs K (BA B α) α H ds vs) (hs : StoRel K (BA B α) α H st) (hB : ∀ a, B a → H a ≠ none) (hα : ∀ a, a ∈ α → ¬ B a) (hΓ : ∀ i : Nat, Γ[i]? ≠ some true) :
    Rel K ⟨B, H, α⟩ Γ (startD n ds) st α (vs.map some ++ List.replicate (n - vs.length) none) H := by
  have L : ∀ a, NN ⟨B, H, α⟩ Γ (vs.map some ++ List.replicate (n - vs.length) none) α a → BA B α a := fun a z => by
    rcases z with z | ⟨i, z, _⟩
    · exact z
    · exact absurd z (hΓ i)
  have S : Stp (BA B α) α H (NN ⟨B, H, α⟩ Γ (vs.map some ++ List.replicate (n - vs.length) none) α) α H := .less L
  refine ⟨by unfold startD; rw [List.length_append, List.length_append, List.length_map, List.length_map, List.length_replicate, List.length_replicate, r.length], fun i d h _ => ?_, fun i h => absurd h (hΓ i), fun i j a h => absurd h (hΓ i), hs.step S fun _ _ => rfl, hB, hα, ⟨[], by simp⟩, fun a m => .inl m, fun a o h _ => h⟩
  exact (r.step S).startG i d h
theorem exit_ok {B : Addr → Prop} {H0 : Hp} {α0 : List Addr} (R : Rel K ⟨B, H0, α0⟩ Γ sl st α σ H) (h0 : ∀ a, a ∈ α0 → H0 a ≠ none) : Ext0 K B α0 H0 α H st := by
  refine ⟨⟨R.αn, R.αf, R.fr⟩, R.αB, R.sto.step (.less fun a z => .inl z) fun _ _ => rfl⟩
theorem fn_ok {P : Program} {w : World} {mg : Str → Option Value} {base : Heap} {x qual : Str} {stm : Stmt} {q : Addr} {fd : FuncData} {N ps : List Str} {k : Nat} {fb : FS} {ΓL Γ' : List Bool} (F : Fun K x qual stm q fd) (S : FnScope N ps (defScope stm))
    (hb : ∀ (cdv : Value) (A : Around) (outer : List Env) (s : Shared) (H : Hp) (E : XK), Room k (A.deeper (PyProof.Rows.envOfC qual (defScope stm) s.heap.objs.size q cdv)) → SSs (cxOf CX0 P w K mg base N qual (defScope stm) q cdv A outer s H E).nox W0 ρ ΓL (List.replicate N.length false) (defBody stm) fb Γ') :
    FnOk P w K mg base CX0 (k + 1) q fd ps (FSpec K ρ (mDef N.length ps.length fb)) := by
  refine F.ok S (fun vs H Q E h => ?_) (fun cdv A outer s H vs Q E hr h => ?_)
  · obtain ⟨B, α, ds, st, r, _, _, _, h⟩ := h
    rw [← r.length]
    unfold mDef at h
    by_cases e : ds.length = ps.length
    · exact e
    · rw [if_neg e] at h
      exact False.elim h
  · obtain ⟨B, α, ds, st, r, hs, hB, hα, h⟩ := h
    unfold mDef at h
    by_cases e : ds.length = ps.length
    · rw [if_pos e] at h
      have hΓ : ∀ i : Nat, (List.replicate N.length false)[i]? ≠ some true := fun i z => by
        rw [List.getElem?_replicate] at z
        split at z <;> cases z
      have R0 := body_start (n := N.length) r hs hB hα hΓ
      refine ⟨_, pss_wp, hb cdv A outer s H E hr _ _ _ _ _ H _ R0 ?_⟩
      have hα0 : ∀ a, a ∈ α → H a ≠ none := fun a m => hs.tr m
      have low : ∀ {Γ'' : List Bool} {σ'' : St} {α'' : List Addr} {B' : Addr → Prop} a, BA B' α'' a → NN ⟨B', H, α⟩ Γ'' σ'' α'' a := fun a z => .inl z
      have fin : ∀ {d : D} {s1 : Sto}, FR K ρ B α H Q d s1 → PR K ⟨B, H, α⟩ ρ Q d s1 := fun hd =>
        ⟨fun Γ'' sl'' σ'' v α' H' R' r' hn => hd.1 v α' H' (exit_ok R' hα0) (r'.step (.less low)) hn,
          fun hρ Γ'' sl'' σ'' p o α' H' h0 hp R' r' => hd.2 hρ p o α' H' h0 hp (exit_ok (B := fun a => B a ∨ a = p) R' hα0) (r'.step (.less (low (B' := fun a => B a ∨ a = p))))⟩
      cases eb : fb (startD N.length ds) st with
      | nx l s1 =>
        rw [eb] at h
        intro α' σ' H' R' S'
        exact (fin h).1 _ _ _ _ α' H' R' .non fun _ _ _ => ⟨(fun z => nomatch z), (fun z => nomatch z)⟩
      | rt d s1 => rw [eb] at h; exact fin h
      | bk l s1 => rw [eb] at h; exact False.elim h
      | ct l s1 => rw [eb] at h; exact False.elim h
      | ex x l s1 => rw [eb] at h; exact False.elim h
      | no => rw [eb] at h; exact False.elim h
    · rw [if_neg e] at h
      exact False.elim h
theorem FnOk.toM {P : Program} {w : World} {mg : Str → Option Value} {base : Heap} {q : Addr} {fd : FuncData} {ps : List Str} {k : Nat} {m m' : List D → Sto → R D} (h : FnOk P w K mg base CX0 k q fd ps (FSpec K ρ m)) (e : m = m') : FnOk P w K mg base CX0 k q fd ps (FSpec K ρ m') := e ▸ h

/-! ### the law's end -/
/-- a list of ints is handed in, True comes out -/
def spLaw (K : PySem.W.Frag) : Sp := fun vs H Q _ => ∃ (a : Addr) (ns : List Int), vs = [.ref a] ∧ SqL K H a (ns.map V.int) ∧ ns.length ≤ 63 ∧ Only H ∧ ∀ H', Q (.bl true) H'
theorem rds_ints : ∀ ns : List Int, RDs K N α H (ns.map D.int) (ns.map V.int)
  | [] => .nil
  | n :: ns => .cons (.int n) (rds_ints ns)
theorem law_spec {P : Program} {w : World} {mg : Str → Option Value} {base : Heap} {q : Addr} {fd : FuncData} {ps : List Str} {k : Nat} {m : List D → Sto → R D} (h : FnOk P w K mg base CX0 k q fd ps (FSpec K ρ m)) (hm : ∀ ns : List Int, ns.length ≤ 63 → ∃ st', m [.lst (ns.map .int)] [] = .ok (.bl true) st') : FnOk P w K mg base CX0 k q fd ps (spLaw K) :=
  h.imp fun vs H Q E hq => by
    obtain ⟨a, ns, rfl, hS, hl, hO, q⟩ := hq
    obtain ⟨st', e⟩ := hm ns hl
    refine ⟨fun _ => False, [], [.lst (ns.map .int)], [], ?_, ⟨rfl, List.nodup_nil, fun n ob a h => by simp at h⟩, fun _ z => z.elim, fun a m => by simp at m, ?_⟩
    · refine .cons ?_ .nil
      have nb : ¬ BA (fun _ => False) [] a := fun z => z.elim id (by simp)
      rcases hS with hS | hS
      · exact .lst nb hS (rds_ints ns)
      · exact .lstK (.inr hS) (rds_ints ns)
    · rw [e]
      exact ⟨fun v α' H' _ r _ => by cases r; exact q H', fun _ p o α' H' _ _ _ r => by cases o <;> exact False.elim r⟩
theorem walk {l : PySem.W.OpenLaw} {q : Program} {loose : List Str} {XP : (Str → Option Value) → Heap → Prop} {YP : World → Heap → Prop} {d : DefRec} {K : Params → PySem.W.Frag} {k : Nat} {x : Str} (hn : l.most = some 63) (hdf : d.params.defaults = []) (hr : Room k callerA)
    (hY : ∀ (w : World) (h : Heap), YP w h → (K w.params).In h)
    (F : ∀ (w : World) (mg : Str → Option Value) (fa : Addr) (h : Heap), (K w.params).In h → h.Ns mainGlobals mg → mg d.name = some (.ref fa) →
      ∃ fd : FuncData, (∀ (s : Shared) (u : Value), BindsTo s fd ⟨[u], []⟩ [(x, u)]) ∧ ∀ base : Heap, (K w.params).In base → base.Ns mainGlobals mg → FnOk l.prog w (K w.params) mg base CX0 k fa fd [x] (spLaw (K w.params))) :
    PySem.W.WalkO q loose XP YP l.row.toRowW d [] (fun f vs => PySem.call f vs) :=
  L2.walk_of (n := 63) (k := k) (x := x) (CX := fun _ => CX0) (sp := fun w => spLaw (K w.params)) hn (by decide) hdf hr hY F (fun _ _ a ns hl hO hS => ⟨a, ns, rfl, hS, hl, hO, fun _ => rfl⟩) fun _ _ _ _ _ z => z

/-! ### lists changed in place -/
/-- x.append(e), x one of the frame's own lists -/
theorem ss_app (i : Nat) {p2 apos : Pos} (ha : SE X W Γ a fa) (hΓ : Γ[i]? = some true := by decide) (hN : X.N[i]? = some x := by rfl) (hv : Vis X.env.scope x := by first | exact Or.inl rfl | exact Or.inr (Or.inl rfl) | exact Or.inr (Or.inr rfl))
    (hd : (x == ("__debug__" : Str)) = false := by decide) (hcd : (x == ("__classdict__" : Str)) = false := by decide) (hs : swapsWith (.Call (.Attribute (.Name x p2) "append" apos) [a] [] p) none pos.line X.env = pure false := by rfl)
    (hbase : attributeBase (.Name x p2) "append" X.env (eval (.Name x p2) X.env) = eval (.Name x p2) X.env := by rfl) (hst : starEach [a] X.env = (false, eval a X.env) :: starEach [] X.env := by rfl)
    (pe : ∀ {t : TA}, PA X [a] t → PE X (.Call (.Attribute (.Name x p2) "append" apos) [a] [] p) (tBM X.K "list" rAppend (tVar i) t) := by intro t ht; exact pe_bm PySem.F.plainAttrs_list PySem.F.slot_list_append PySem.F.type_list_append mt_append (pv _) ht) :
    SS X W ρ ΓL Γ (.Expr (.Call (.Attribute (.Name x p2) "append" apos) [a] [] p) pos) (sApp i fa) Γ := by
  intro c sl st α σ H Dn R h
  refine ⟨_, ps_expr (pe (pa_cons pe_wp pa_nil hst)) hs, ?_⟩
  obtain ⟨d, q, o, e0, e1, ho, r, h0, n⟩ := R.own i hΓ
  refine ⟨.ref q, e1, ?_⟩
  unfold sApp at h
  rw [e0] at h
  cases d with
  | lst xs =>
    cases o with
    | lst vs =>
      refine ⟨.inl ⟨rfl, vs, sqL_of (.of ho)⟩, ?_⟩
      refine ha c sl st α σ H _ R ((Vx.R.sat_fl.mp h).imp (fun y s1 hy v α1 H1 R1 S1 r1 => ?_) fun x s1 hx => hx Γ σ)
      by_cases hz : xs.length < 16777216
      · rw [if_pos hz] at hy
        have ho1 := S1.keep q _ ho fun m => n (.inr m)
        have r2 : RDs X.K (NN c Γ σ α) α H xs vs := r
        have r3 := r2.step S1.nn
        refine ⟨q, vs, v, rfl, rfl, ho1, by rw [← r3.length, sizeLine_eq]; exact hz, ?_⟩
        obtain ⟨R2, S2⟩ := R1.change (d' := .lst (xs ++ [y])) (o' := .lst (vs ++ [v])) hΓ e1 (r3.append (.cons r1 .nil))
        exact hy α1 σ _ R2 (S1.nn.trans S2)
      · rw [if_neg hz] at hy
        exact False.elim hy
    | _ => exact False.elim r
  | _ => exact False.elim h
/-- x[k] = e, x one of the frame's own lists -/
theorem ss_put (i : Nat) {p2 : Pos} (ha : SE X W Γ a fa) (hb : SE X W Γ b fb) (hΓ : Γ[i]? = some true := by decide) (hN : X.N[i]? = some x := by rfl) (hv : Vis X.env.scope x := by first | exact Or.inl rfl | exact Or.inr (Or.inl rfl) | exact Or.inr (Or.inr rfl))
    (hd : (x == ("__debug__" : Str)) = false := by decide) (hcd : (x == ("__classdict__" : Str)) = false := by decide) (hs : swapsWithSole [.Subscript (.Name x p2) b p] a pos.line X.env = pure false := by rfl) (hw : swappedStores [.Subscript (.Name x p2) b p] a X.env = pure none := by rfl)
    (h1 : (assignEach [.Subscript (.Name x p2) b p] X.env).map (·.2) = [assign (.Subscript (.Name x p2) b p) X.env] := by rfl)
    (pg : ∀ {t u : TE}, PE X (.Name x p2) t → PE X b u → PG X (.Subscript (.Name x p2) b p) (L2.gSub t u rSetL) := by intro t u ht hu; exact pg_sub ht hu set_list) :
    SS X W ρ ΓL Γ (.Assign [.Subscript (.Name x p2) b p] a pos) (sPut i fa fb) Γ := by
  intro c sl st α σ H Dn R h
  refine ⟨_, ps_asg pe_wp (pg (pe_var hN hv hd hcd) pe_wp) hs hw h1, ?_⟩
  obtain ⟨d, q, o, e0, e1, ho, r, h0, n⟩ := R.own i hΓ
  unfold sPut at h
  rw [e0] at h
  cases d with
  | lst xs =>
    cases o with
    | lst vs =>
      refine ha c sl st α σ H _ R ((Vx.R.sat_fl.mp h).imp (fun y s1 hy v α1 H1 R1 S1 r1 => ?_) fun x s1 hx => hx Γ σ)
      refine ⟨.ref q, e1, ?_⟩
      refine hb c sl s1 α1 σ H1 _ R1 ((Vx.R.sat_fl.mp hy).imp (fun z s2 hz w α2 H2 R2 S2 r2 => ?_) fun x s1 hx => hx Γ σ)
      have S12 := S1.trans S2
      cases z with
      | int m =>
        cases r2
        cases ej : ixI xs.length m with
        | none => simp only [ej] at hz; exact False.elim hz
        | some j =>
          simp only [ej] at hz
          have r3 : RDs X.K (NN c Γ σ α) α H xs vs := r
          have r4 := r3.step S12.nn
          refine ⟨q, vs, m, j, rfl, rfl, S12.keep q _ ho fun m => n (.inr m), by rw [← r4.length]; exact ej, ?_⟩
          obtain ⟨R3, S3⟩ := R2.change (d' := .lst (xs.set j y)) (o' := .lst (vs.set j v)) hΓ e1 (r4.set j (r1.step S2.nn))
          exact hz α2 σ _ R3 (S12.nn.trans S3)
      | _ => exact False.elim hz
    | _ => exact False.elim r
  | _ => exact False.elim h
end
end Vx

/-! VMore: isinstance, op=, defs by name, the text's parts. -/
namespace Vx
open PySem PySem.Spec L2
section
variable {X : Cx} {W : WXc} {ρ : Bool} {Γ Γ' Γ'' ΓL : List Bool} {e a b : Expr} {es : List Expr} {s : Stmt} {ss : List Stmt} {f fa fb fc : FE} {x : Str} {pos p : Pos} {g1 g2 : FS}
variable {K : PySem.W.Frag} {N T : Addr → Prop} {α α' : List Addr} {H H' : Hp} {c c' : Cz} {sl : Sl} {st st' : Sto} {σ : St}
/-! ### isinstance -/
def tyN : D → String
  | .non => "NoneType" | .bl _ => "bool" | .int _ => "int" | .str _ => "str" | .tup _ => "tuple" | .lst _ => "list" | .dic _ => "dict" | .obj _ => ""
theorem ty_of {d : D} {v : V} (h : RB K N T α H d v) (hn : ∀ n, d ≠ .obj n) (hnd : ∀ k, d ≠ .dic k) : TyX K H v (.type (tyN d)) := by
  cases d with
  | non => cases (show RD K N α H _ v from h); exact .base .non
  | bl b => cases (show RD K N α H _ v from h); exact .base (.bl _)
  | int b => cases (show RD K N α H _ v from h); exact .base (.int _)
  | str b => cases (show RD K N α H _ v from h); exact .base (.str _)
  | tup ds =>
    obtain ⟨a, vs, rfl, _, hs, _⟩ := h.tup
    rcases hs with hs | ⟨o, hs⟩
    · exact .base (.tup hs)
    · exact .fTuple hs
  | lst ds =>
    obtain ⟨a, vs, rfl, hs, _⟩ := h.lst
    rcases hs with (hs | ⟨o, hs⟩) | ⟨o, its, n, hk, hc, _⟩
    · exact .base (.lst hs)
    · exact .base (.frz hs)
    · exact .kList hk hc
  | dic ds => exact absurd rfl (hnd ds)
  | obj n => exact absurd rfl (hn n)
theorem isi_of {T' : String} (h : ∀ d : D, (∀ n, d ≠ .obj n) → PySem.W.kitOne K (.type (tyN d)) (.type T') = some (d.isT T')) (N T : Addr → Prop) (α : List Addr) (H : Hp) (d : D) (v : V) (r : RB K N T α H d v) (hn : ∀ n, d ≠ .obj n) (hnd : ∀ k, d ≠ .dic k) : ∃ t, TyX K H v t ∧ PySem.W.kitOne K t (.type T') = some (d.isT T') :=
  ⟨_, ty_of r hn hnd, h d hn⟩
theorem isi_int (N T : Addr → Prop) (α : List Addr) (H : Hp) (d : D) (v : V) (r : RB K N T α H d v) (hn : ∀ n, d ≠ .obj n) (hnd : ∀ k, d ≠ .dic k) : ∃ t, TyX K H v t ∧ PySem.W.kitOne K t (.type "int") = some (d.isT "int") := isi_of (fun d hn => by cases d <;> first | rfl | exact absurd rfl (hn _)) N T α H d v r hn hnd
theorem isi_bool (N T : Addr → Prop) (α : List Addr) (H : Hp) (d : D) (v : V) (r : RB K N T α H d v) (hn : ∀ n, d ≠ .obj n) (hnd : ∀ k, d ≠ .dic k) : ∃ t, TyX K H v t ∧ PySem.W.kitOne K t (.type "bool") = some (d.isT "bool") := isi_of (fun d hn => by cases d <;> first | rfl | exact absurd rfl (hn _)) N T α H d v r hn hnd
theorem isi_str (N T : Addr → Prop) (α : List Addr) (H : Hp) (d : D) (v : V) (r : RB K N T α H d v) (hn : ∀ n, d ≠ .obj n) (hnd : ∀ k, d ≠ .dic k) : ∃ t, TyX K H v t ∧ PySem.W.kitOne K t (.type "str") = some (d.isT "str") := isi_of (fun d hn => by cases d <;> first | rfl | exact absurd rfl (hn _)) N T α H d v r hn hnd
theorem isi_list (N T : Addr → Prop) (α : List Addr) (H : Hp) (d : D) (v : V) (r : RB K N T α H d v) (hn : ∀ n, d ≠ .obj n) (hnd : ∀ k, d ≠ .dic k) : ∃ t, TyX K H v t ∧ PySem.W.kitOne K t (.type "list") = some (d.isT "list") := isi_of (fun d hn => by cases d <;> first | rfl | exact absurd rfl (hn _)) N T α H d v r hn hnd
theorem isi_tuple (N T : Addr → Prop) (α : List Addr) (H : Hp) (d : D) (v : V) (r : RB K N T α H d v) (hn : ∀ n, d ≠ .obj n) (hnd : ∀ k, d ≠ .dic k) : ∃ t, TyX K H v t ∧ PySem.W.kitOne K t (.type "tuple") = some (d.isT "tuple") := isi_of (fun d hn => by cases d <;> first | rfl | exact absurd rfl (hn _)) N T α H d v r hn hnd
/-! ### op= -/
theorem ind_add : InD X .Add gAddI := by
  refine ⟨_, ip_add, fun N T α H x y vx vy d Q _ rx ry e q => ?_⟩
  unfold gAddI at e; split at e
  · cases e
    exact ⟨_, _, rb_int rx, rb_int ry, q _ H (Same.refl H) (.int _)⟩
  · cases e
/-! ### what the frame's own lists are called -/
theorem ss_to {Γ1 : List Bool} (Γ2 : List Bool) (h1 : SS X W ρ ΓL Γ s g1 Γ1) (h : Γ1 = Γ2 := by rfl) : SS X W ρ ΓL Γ s g1 Γ2 := h ▸ h1
theorem ss_pre (Γ2 : List Bool) (h1 : SS X W ρ ΓL Γ2 s g1 Γ'') (h : leG Γ2 Γ = true := by decide) : SS X W ρ ΓL Γ s g1 Γ'' := ss_ahead h h1
theorem ss_post (Γ2 Γ1 : List Bool) (h1 : SS X W ρ ΓL Γ s g1 Γ1) (h : leG Γ2 Γ1 = true := by decide) : SS X W ρ ΓL Γ s g1 Γ2 := ss_behind h h1
theorem sss_pre (Γ2 : List Bool) (h1 : SSs X W ρ ΓL Γ2 ss g1 Γ'') (h : leG Γ2 Γ = true := by decide) : SSs X W ρ ΓL Γ ss g1 Γ'' := sss_ahead h h1
theorem sss_post (Γ2 Γ1 : List Bool) (h1 : SSs X W ρ ΓL Γ ss g1 Γ1) (h : leG Γ2 Γ1 = true := by decide) : SSs X W ρ ΓL Γ ss g1 Γ2 := sss_behind h h1
/-- + of two lists as a new list -/
theorem sf_add (ha : SB X W Γ a fa) (hb : SB X W Γ b fb) : SF X W Γ (.BinOp a .Add b pos) (mBin gAddL fa fb) := by
  intro c sl st α σ H Q R h
  refine ⟨_, pe_op op_catS pe_wp pe_wp, ?_⟩
  refine ha c sl st α σ H _ R ((Vx.R.sat_bind.mp h).imp (fun x s1 hx vx α1 H1 R1 S1 d1 => ?_) fun _ _ z => z)
  refine hb c sl s1 α1 σ H1 _ R1 ((Vx.R.sat_bind.mp hx).imp (fun y s2 hy vy α2 H2 R2 S2 d2 => ?_) fun _ _ z => z)
  cases eg : gAddL x y with
  | none => rw [eg] at hy; exact False.elim hy
  | some d =>
    rw [eg] at hy
    unfold gAddL at eg
    split at eg
    · obtain ⟨hc, rfl⟩ := ite_some eg
      obtain ⟨q, vs, rfl, hs, r⟩ := (d1.step S2.nb S2.nn).lst
      obtain ⟨q2, ws, rfl, hs2, r2⟩ := d2.lst
      exact ⟨q, q2, vs, ws, rfl, rfl, hs, hs2, by rw [← r.length, ← r2.length]; exact szOk_le hc, fun p hp => PQf.new hy R2 (S1.trans S2) (fun _ m => R.sto.tr m) hp (r.append r2)⟩
    · cases eg
end
theorem bv_len : bootBuiltins "len" = some (.builtin "len") := by decide +kernel
theorem bv_max : bootBuiltins "max" = some (.builtin "max") := by decide +kernel
theorem bv_min : bootBuiltins "min" = some (.builtin "min") := by decide +kernel
theorem bv_int : bootBuiltins "int" = some (.type "int") := by decide +kernel
theorem bv_list : bootBuiltins "list" = some (.type "list") := by decide +kernel
theorem bv_tuple : bootBuiltins "tuple" = some (.type "tuple") := by decide +kernel
theorem bv_str : bootBuiltins "str" = some (.type "str") := by decide +kernel
theorem bv_bool : bootBuiltins "bool" = some (.type "bool") := by decide +kernel
theorem bv_sorted : bootBuiltins "sorted" = some (.builtin "sorted") := by decide +kernel
theorem bv_abs : bootBuiltins "abs" = some (.builtin "abs") := by decide +kernel
/-! ### a def under its name -/
structure Cal (P : Program) (w : World) (K : PySem.W.Frag) (mg : Str → Option Value) (base : Heap) (k : Nat) (x : Str) (ρ : Bool) (m : List D → Sto → R D) : Prop where
  ex : ∃ (q : Addr) (fd : FuncData) (ps : List Str), FnOk P w K mg base CX0 k q fd ps (FSpec K ρ m) ∧ mg x = some (.ref q) ∧ PySem.W.keepIn K (.ref q) = true ∧ Binds K fd ps []
/-- a def of the text as it stands behind the top -/
structure Dfn (K : PySem.W.Frag) (mg : Str → Option Value) (x : Str) (st : Stmt) (ps : List Str) : Prop where
  ex : ∃ (q : Addr) (fd : FuncData), Fun K x x st q fd ∧ mg x = some (.ref q) ∧ Binds K fd ps []
section
variable {P : Program} {w : World} {K : PySem.W.Frag} {mg : Str → Option Value} {base : Heap} {ρ : Bool}
theorem cal_of {x : Str} {stm : Stmt} {N ps : List Str} {k n p : Nat} {fb : FS} {Γ0 ΓL Γ' : List Bool} (F : Dfn K mg x stm ps) (S : FnScope N ps (defScope stm))
    (hb : ∀ (q : Addr) (cdv : Value) (A : Around) (outer : List Env) (s : Shared) (H : Hp) (E : XK), Room k (A.deeper (PyProof.Rows.envOfC x (defScope stm) s.heap.objs.size q cdv)) → SSs (cxOf CX0 P w K mg base N x (defScope stm) q cdv A outer s H E).nox W0 ρ ΓL Γ0 (defBody stm) fb Γ')
    (hn : N.length = n := by rfl) (hp : ps.length = p := by rfl) (hΓ : List.replicate n false = Γ0 := by rfl) : Cal P w K mg base (k + 1) x ρ (mDef n p fb) := by
  obtain ⟨q, fd, F, hm, hbd⟩ := F.ex
  subst hn hp hΓ
  exact ⟨q, fd, ps, fn_ok F S (hb q), hm, F.kp, hbd⟩
theorem fn_okL {x qual : Str} {stm : Stmt} {q : Addr} {fd : FuncData} {N ps : List Str} {k n p : Nat} {fb : FS} {Γ0 ΓL Γ' : List Bool} (F : Fun K x qual stm q fd) (S : FnScope N ps (defScope stm))
    (hb : ∀ (cdv : Value) (A : Around) (outer : List Env) (s : Shared) (H : Hp) (E : XK), Room k (A.deeper (PyProof.Rows.envOfC qual (defScope stm) s.heap.objs.size q cdv)) → SSs (cxOf CX0 P w K mg base N qual (defScope stm) q cdv A outer s H E).nox W0 ρ ΓL Γ0 (defBody stm) fb Γ')
    (hn : N.length = n := by rfl) (hp : ps.length = p := by rfl) (hΓ : List.replicate n false = Γ0 := by rfl) : FnOk P w K mg base CX0 (k + 1) q fd ps (FSpec K ρ (mDef n p fb)) := by
  subst hn hp hΓ
  exact fn_ok F S hb
theorem cal_zero {x : Str} {stm : Stmt} {ps : List Str} {k : Nat} (F : Dfn K mg x stm ps) : Cal P w K mg base k x ρ (fun _ _ => .no) := by
  obtain ⟨q, fd, F, hm, hbd⟩ := F.ex
  refine ⟨q, fd, ps, ⟨fun vs H Q E h => ?_, fun A outer s H args us vs Q E _ _ _ _ h => ?_⟩, hm, F.kp, hbd⟩
  · obtain ⟨_, _, _, _, _, _, _, _, h⟩ := h
    exact False.elim h
  · obtain ⟨_, _, _, _, _, _, _, _, h⟩ := h
    exact False.elim h
theorem Cal.to {k : Nat} {x : Str} {m m' : List D → Sto → R D} (h : Cal P w K mg base k x ρ m) (e : m = m') : Cal P w K mg base k x ρ m' := e ▸ h
end
section
variable {X : Cx} {W : WXc} {ρ : Bool} {Γ : List Bool} {e : Expr} {es : List Expr} {x : Str} {pos p : Pos}
theorem room65 {k : Nat} {A : Around} (r : Room k A) : A.units + 65 < cLine := by have := r.un; omega
theorem se_c {k j : Nat} {m : List D → Sto → R D} {fr : FA} (C : Cal X.prog X.w X.K X.mg X.base k x ρ m) (hr : Room j X.A) (ha : SA X W Γ (e :: es) fr) (hk : k ≤ j := by first | decide | omega)
    (hg : Gl X x := by rfl) (hd : (x == ("__debug__" : Str)) = false := by decide) (he : starEach (e :: es) X.env = (false, eval e X.env) :: starEach es X.env := by rfl) (hpl : (backTo pos (starEach es X.env)).any (·.1) = false := by rfl) : SE X W Γ (.Call (.Name x p) (e :: es) [] pos) (mCall m fr) := by
  obtain ⟨q, fd, ps, G, hm, kp, hb⟩ := C.ex
  exact se_call G (hr.mono hk) hm kp hb ha hg hd he hpl
theorem sf_c {k j : Nat} {m : List D → Sto → R D} {fr : FA} (C : Cal X.prog X.w X.K X.mg X.base k x true m) (hr : Room j X.A) (ha : SA X W Γ (e :: es) fr) (hk : k ≤ j := by first | decide | omega)
    (hg : Gl X x := by rfl) (hd : (x == ("__debug__" : Str)) = false := by decide) (he : starEach (e :: es) X.env = (false, eval e X.env) :: starEach es X.env := by rfl) (hpl : (backTo pos (starEach es X.env)).any (·.1) = false := by rfl) : SF X W Γ (.Call (.Name x p) (e :: es) [] pos) (mCallF m fr) := by
  obtain ⟨q, fd, ps, G, hm, kp, hb⟩ := C.ex
  exact sf_call G (hr.mono hk) hm kp hb ha hg hd he hpl
end
end Vx

/-! VExt: lists lent to a def, more built-in functions, more methods. -/
namespace Vx
open PySem PySem.Spec L2
section
variable {X : Cx} {W : WXc} {ρ : Bool} {Γ Γ' Γ'' ΓL : List Bool} {e a b : Expr} {es : List Expr} {s : Stmt} {ss : List Stmt} {f fa fb fc : FE} {x : Str} {pos p : Pos} {g1 g2 : FS}
variable {K : PySem.W.Frag} {N N' T : Addr → Prop} {α α' : List Addr} {H H' : Hp} {c c' : Cz} {sl : Sl} {st st' : Sto} {σ : St}

/-! ### a list lent to a def -/
mutual
theorem RD.bar (h : ∀ a vs, ¬ N a → Rd H a (.tup vs) → ¬ N' a) : ∀ {d : D} {v : V}, RD K N α H d v → D.noMut d = true → RD K N' α H d v
  | _, _, .non, _ => .non
  | _, _, .bl b, _ => .bl b
  | _, _, .int i, _ => .int i
  | _, _, .str x, _ => .str x
  | _, _, .tup n q r, hd => .tup (h _ _ n q) q (RDs.bar h r hd)
  | _, _, .lst n q r, hd => nomatch hd
  | _, _, .lstK q r, hd => nomatch hd
  | _, _, .dic n q r, hd => nomatch hd
  | _, _, .obj q, _ => .obj q
theorem RDs.bar (h : ∀ a vs, ¬ N a → Rd H a (.tup vs) → ¬ N' a) : ∀ {d : List D} {v : List V}, RDs K N α H d v → D.noMutAll d = true → RDs K N' α H d v
  | _, _, .nil, _ => .nil
  | _, _, .cons r t, hd => by
    unfold D.noMutAll at hd
    rw [Bool.and_eq_true] at hd
    exact .cons (RD.bar h r hd.1) (RDs.bar h t hd.2)
end
theorem RKs.bar (h : ∀ a vs, ¬ N a → Rd H a (.tup vs) → ¬ N' a) : ∀ {d : List (D × D)} {v : List (Key × V)}, RKs K N α H d v → D.noMutAll (d.map (·.2)) = true → RKs K N' α H d v
  | _, _, .nil, _ => .nil
  | _, _, .cons k r t, hd => by
    rw [List.map_cons] at hd
    unfold D.noMutAll at hd
    rw [Bool.and_eq_true] at hd
    exact .cons k (RD.bar h r hd.1) (RKs.bar h t hd.2)
theorem StoRel.bar (h : ∀ a vs, ¬ N a → Rd H a (.tup vs) → ¬ N' a) (r : StoRel K N α H st) (hs : stoNo st = true) : StoRel K N' α H st := by
  refine ⟨r.len, r.nd, fun n ob a e1 e2 => ?_⟩
  have q := r.ob n ob a e1 e2
  have ho : Ob.noMut ob = true := List.all_eq_true.mp hs ob (List.mem_of_getElem? e1)
  cases ob with
  | ins C fs => obtain ⟨dx, fs', h1, h2, h3⟩ := q; exact ⟨dx, fs', h1, h2, h3.bar h ho⟩
  | lst ds => obtain ⟨vs, h1, h2⟩ := q; exact ⟨vs, h1, h2.bar h ho⟩
  | dic ds => obtain ⟨vs, h1, h2⟩ := q; exact ⟨vs, h1, h2.bar h ho⟩
theorem RB.lend {d : D} {v : V} (h : RB K (NN c Γ σ α) (NB c α) α H d v) : RD K (NB c α) α H d v := by
  have S : Stp (NN c Γ σ α) α H (NB c α) α H := .less fun a z => .inl z
  cases d with
  | lst ds =>
    obtain ⟨a, vs, rfl, h, r⟩ := h
    rcases h with ⟨n, h⟩ | h
    · exact .lst n h (r.step S)
    · exact .lstK h (r.step S)
  | dic ds =>
    obtain ⟨a, vs, rfl, n, h, r⟩ := h
    exact .dic n h (RKs.step S r)
  | non => exact RD.step S h
  | bl b => exact RD.step S h
  | int b => exact RD.step S h
  | str b => exact RD.step S h
  | tup b => exact RD.step S h
  | obj b => exact RD.step S h
theorem RBs.lend : ∀ {d : List D} {v : List V}, RBs K (NN c Γ σ α) (NB c α) α H d v → RDs K (NB c α) α H d v
  | _, _, .nil => .nil
  | _, _, .cons r t => .cons r.lend (RBs.lend t)
/-- an own list is no tuple -/
theorem own_no_tup (R : Rel K c Γ sl st α σ H) (S : Ste α H α' H') {a : Addr} {vs : List V} (h : LocO Γ σ a) (hr : Rd H' a (.tup vs)) : False := by
  obtain ⟨i, h1, h2⟩ := h
  obtain ⟨d, a', o, e0, e1, ho, r, _, n⟩ := R.own i h1
  rw [h2] at e1
  cases e1
  have hk := S.keep a o ho fun m => n (.inr m)
  rcases hr with hr | ⟨u, hr⟩
  · rw [hk] at hr
    cases hr
    cases d <;> exact False.elim r
  · rw [hk] at hr
    cases hr
    cases d <;> exact False.elim r
theorem call_specL {m : List D → Sto → R D} {ds : List D} {vs : List V} {Q : VK} {E : XK} (R : Rel K c Γ sl st α σ H) (r : RDs K (NB c α) α H ds vs)
    (h : (m ds st).nox.Sat (fun d st' => (D.noMut d && stoNo st') = true ∧ ∀ v α' H', Rel K c Γ sl st' α' σ H' → Ste α H α' H' → RD K (NN c Γ σ α') α' H' d v → Q v H') (fun _ _ => False)) : FSpec K ρ m vs H Q E := by
  refine ⟨c.B, α, ds, st, r, R.sto.step (.less fun a z => .inl z) fun _ _ => rfl, fun a z => R.bt a z, fun a m z => R.αB a m z, ?_⟩
  cases em : m ds st with
  | ex x s1 => rw [em] at h; exact False.elim h
  | no => rw [em] at h; exact False.elim h
  | ok d s1 =>
    rw [em] at h
    obtain ⟨h0, h1⟩ := h
    rw [Bool.and_eq_true] at h0
    refine ⟨fun v α' H' X0 rv hn => ?_, fun hρ p o α' H' hp ho X0 ro => ?_⟩
    · have L : ∀ a vs, ¬ BA c.B α' a → Rd H' a (.tup vs) → ¬ NN c Γ σ α' a := fun a vs n hr z => z.elim n fun z => own_no_tup R X0.st z hr
      exact h1 v α' H' (R.carry X0.st (fun a z => .inl z) rfl rfl (X0.sto.bar L h0.2) fun a m z => X0.nb a m z) X0.st (rv.bar L h0.1)
    · cases d <;> cases o <;> first | exact False.elim ro | (cases h0.1)
/-- f(..), own lists among the arguments -/
theorem se_callL {k : Nat} {fd : FuncData} {ps : List Str} {q : Addr} {m : List D → Sto → R D} {fr : FA} (G : FnOk X.prog X.w X.K X.mg X.base CX0 k q fd ps (FSpec X.K ρ m)) (hr : Room k X.A) (hm : X.mg x = some (.ref q)) (kp : PySem.W.keepIn X.K (.ref q) = true) (hb : Binds X.K fd ps []) (ha : SAb X W Γ (e :: es) fr)
    (hg : Gl X x := by rfl) (hd : (x == ("__debug__" : Str)) = false := by decide) (he : starEach (e :: es) X.env = (false, eval e X.env) :: starEach es X.env := by rfl) (hpl : (backTo pos (starEach es X.env)).any (·.1) = false := by rfl) : SE X W Γ (.Call (.Name x p) (e :: es) [] pos) (mCallL m fr) := by
  intro c sl st α σ H Q R h
  refine ⟨_, pe_call G hr hg hm kp hb .nil pass0 pa_wp hd he hpl, ?_⟩
  refine ha c sl st α σ H _ R ((Vx.R.sat_bind.mp h).imp (fun ds s1 hd vs α1 H1 R1 S1 r1 => ?_) fun _ _ z => z)
  rw [List.append_nil]
  refine call_specL R1 r1.lend ?_
  cases em : m ds s1 with
  | ex x s2 => rw [em] at hd; exact False.elim hd
  | no => rw [em] at hd; exact False.elim hd
  | ok d s2 =>
    rw [em] at hd
    have hd : (if (D.noMut d && stoNo s2) = true then .ok d s2 else .no : Vx.R D).Sat (PQ X.K c Γ sl α σ H Q) (PX X.K c Γ sl σ W) := hd
    by_cases hmu : (D.noMut d && stoNo s2) = true
    · rw [if_pos hmu] at hd
      exact ⟨hmu, fun v α' H' R' S' r' => hd v α' H' R' (S1.trans S') r'⟩
    · rw [if_neg hmu] at hd
      exact False.elim hd
theorem se_cL {k j : Nat} {m : List D → Sto → R D} {fr : FA} (C : Cal X.prog X.w X.K X.mg X.base k x ρ m) (hr : Room j X.A) (ha : SAb X W Γ (e :: es) fr) (hk : k ≤ j := by first | decide | omega)
    (hg : Gl X x := by rfl) (hd : (x == ("__debug__" : Str)) = false := by decide) (he : starEach (e :: es) X.env = (false, eval e X.env) :: starEach es X.env := by rfl) (hpl : (backTo pos (starEach es X.env)).any (·.1) = false := by rfl) : SE X W Γ (.Call (.Name x p) (e :: es) [] pos) (mCallL m fr) := by
  obtain ⟨q, fd, ps, G, hm, kp, hb⟩ := C.ex
  exact se_callL G (hr.mono hk) hm kp hb ha hg hd he hpl

/-! ### lists of ints, of texts -/
theorem rds_intsD : ∀ {xs : List D} {ns : List Int} {vs : List V}, intsD xs = some ns → RDs K N α H xs vs → vs = ns.map V.int
  | [], _, _, h, r => by cases h; cases r; rfl
  | .int i :: xs, ns, _, h, .cons r t => by
    unfold intsD at h
    cases q : intsD xs with
    | none => rw [q] at h; cases h
    | some ms =>
      rw [q] at h
      cases h
      cases r
      rw [rds_intsD q t]
      rfl
  | .non :: _, _, _, h, _ => by cases h
  | .bl _ :: _, _, _, h, _ => by cases h
  | .str _ :: _, _, _, h, _ => by cases h
  | .tup _ :: _, _, _, h, _ => by cases h
  | .lst _ :: _, _, _, h, _ => by cases h
  | .dic _ :: _, _, _, h, _ => by cases h
  | .obj _ :: _, _, _, h, _ => by cases h
theorem rds_strsJ : ∀ {xs : List D} {ns : List Str} {vs : List V}, strsJ xs = some ns → RDs K N α H xs vs → vs = ns.map V.str
  | [], _, _, h, r => by cases h; cases r; rfl
  | .str i :: xs, ns, _, h, .cons r t => by
    unfold strsJ at h
    cases q : strsJ xs with
    | none => rw [q] at h; cases h
    | some ms =>
      rw [q] at h
      cases h
      cases r
      rw [rds_strsJ q t]
      rfl
  | .non :: _, _, _, h, _ => by cases h
  | .bl _ :: _, _, _, h, _ => by cases h
  | .int _ :: _, _, _, h, _ => by cases h
  | .tup _ :: _, _, _, h, _ => by cases h
  | .lst _ :: _, _, _, h, _ => by cases h
  | .dic _ :: _, _, _, h, _ => by cases h
  | .obj _ :: _, _, _, h, _ => by cases h
theorem maxI_mem : ∀ (m : Int) (r : List Int), maxI m r ∈ m :: r
  | m, [] => by simp [maxI]
  | m, n :: r => by
    unfold maxI
    have h := maxI_mem (if m < n then n else m) r
    rcases List.mem_cons.mp h with h | h
    · rw [h]
      split <;> simp
    · simp [h]
theorem maxI_le : ∀ (m : Int) (r : List Int), ∀ y ∈ m :: r, y ≤ maxI m r
  | m, [], y, h => by simp at h; subst h; simp [maxI]
  | m, n :: r, y, h => by
    unfold maxI
    have q := maxI_le (if m < n then n else m) r
    have q0 := q _ List.mem_cons_self
    rcases List.mem_cons.mp h with h | h
    · subst h; split at q0 <;> split <;> simp_all <;> omega
    · rcases List.mem_cons.mp h with h | h
      · subst h; split at q0 <;> split <;> simp_all <;> omega
      · exact q y (List.mem_cons_of_mem _ h)
theorem minI_mem : ∀ (m : Int) (r : List Int), minI m r ∈ m :: r
  | m, [] => by simp [minI]
  | m, n :: r => by
    unfold minI
    have h := minI_mem (if n < m then n else m) r
    rcases List.mem_cons.mp h with h | h
    · rw [h]
      split <;> simp
    · simp [h]
theorem minI_le : ∀ (m : Int) (r : List Int), ∀ y ∈ m :: r, minI m r ≤ y
  | m, [], y, h => by simp at h; subst h; simp [minI]
  | m, n :: r, y, h => by
    unfold minI
    have q := minI_le (if n < m then n else m) r
    have q0 := q _ List.mem_cons_self
    rcases List.mem_cons.mp h with h | h
    · subst h; split at q0 <;> split <;> simp_all <;> omega
    · rcases List.mem_cons.mp h with h | h
      · subst h; split at q0 <;> split <;> simp_all <;> omega
      · exact q y (List.mem_cons_of_mem _ h)
theorem maxI_one {m n : Int} {r : List Int} (h1 : m ∈ n :: r) (h2 : ∀ y, y ∈ n :: r → y ≤ m) : m = maxI n r := by
  have a1 := h2 _ (maxI_mem n r)
  have a2 := maxI_le n r _ h1
  omega
theorem minI_one {m n : Int} {r : List Int} (h1 : m ∈ n :: r) (h2 : ∀ y, y ∈ n :: r → m ≤ y) : m = minI n r := by
  have a1 := h2 _ (minI_mem n r)
  have a2 := minI_le n r _ h1
  omega
theorem calld_max1 (hc : X.calm = true) : CallD X (.builtin "max") gMax1 := by
  refine ⟨_, cr_max hc, fun N T α H xs vs d Q hN r e q => ?_⟩
  unfold gMax1 at e
  split at e
  · rename_i ds
    obtain ⟨v, rfl, rx⟩ := r.one
    obtain ⟨a, ws, rfl, hs, r⟩ := rx.lst
    cases hi : intsD ds with
    | none => rw [hi] at e; cases e
    | some ns =>
      rw [hi] at e
      cases ns with
      | nil => cases e
      | cons n t =>
        cases e
        rw [rds_intsD hi r] at hs
        exact ⟨a, n :: t, rfl, hs, by simp, fun m h1 h2 => by rw [maxI_one h1 h2]; exact q _ H (Same.refl H) (.int _)⟩
  · cases e
theorem calld_min1 (hc : X.calm = true) : CallD X (.builtin "min") gMin1 := by
  refine ⟨_, cr_min hc, fun N T α H xs vs d Q hN r e q => ?_⟩
  unfold gMin1 at e
  split at e
  · rename_i ds
    obtain ⟨v, rfl, rx⟩ := r.one
    obtain ⟨a, ws, rfl, hs, r⟩ := rx.lst
    cases hi : intsD ds with
    | none => rw [hi] at e; cases e
    | some ns =>
      rw [hi] at e
      cases ns with
      | nil => cases e
      | cons n t =>
        cases e
        rw [rds_intsD hi r] at hs
        exact ⟨a, n :: t, rfl, hs, by simp, fun m h1 h2 => by rw [minI_one h1 h2]; exact q _ H (Same.refl H) (.int _)⟩
  · cases e
theorem insI_perm (i : Int) : ∀ r, (insI i r).Perm (i :: r)
  | [] => .refl _
  | j :: r => by
    unfold insI
    split
    · exact .refl _
    · exact (List.Perm.cons j (insI_perm i r)).trans (.swap i j r)
theorem sortI_perm : ∀ r, (sortI r).Perm r
  | [] => .refl _
  | i :: r => (insI_perm i _).trans (.cons i (sortI_perm r))
theorem insI_sorted (i : Int) : ∀ r : List Int, r.Pairwise (· ≤ ·) → (insI i r).Pairwise (· ≤ ·)
  | [], _ => by simp [insI]
  | j :: r, h => by
    unfold insI
    obtain ⟨h1, h2⟩ := List.pairwise_cons.mp h
    split
    · rename_i hij
      refine List.pairwise_cons.mpr ⟨fun y hy => ?_, h⟩
      rcases List.mem_cons.mp hy with e | e
      · subst e; exact hij
      · have := h1 y e; omega
    · rename_i hij
      refine List.pairwise_cons.mpr ⟨fun y hy => ?_, insI_sorted i r h2⟩
      rcases List.mem_cons.mp ((insI_perm i r).mem_iff.mp hy) with e | e
      · subst e; omega
      · exact h1 y e
theorem sortI_sorted : ∀ r : List Int, (sortI r).Pairwise (· ≤ ·)
  | [] => List.Pairwise.nil
  | i :: r => insI_sorted i _ (sortI_sorted r)
theorem sorted_one : ∀ {xs ys : List Int}, xs.Perm ys → xs.Pairwise (· ≤ ·) → ys.Pairwise (· ≤ ·) → xs = ys
  | [], ys, h, _, _ => by rw [List.nil_perm.mp h]
  | x :: xs, [], h, _, _ => by simp at h
  | x :: xs, y :: ys, h, hx, hy => by
    obtain ⟨hx1, hx2⟩ := List.pairwise_cons.mp hx
    obtain ⟨hy1, hy2⟩ := List.pairwise_cons.mp hy
    have e : x = y := by
      have a1 : x ∈ y :: ys := h.mem_iff.mp List.mem_cons_self
      have a2 : y ∈ x :: xs := h.mem_iff.mpr List.mem_cons_self
      rcases List.mem_cons.mp a1 with a1 | a1
      · exact a1
      · rcases List.mem_cons.mp a2 with a2 | a2
        · exact a2.symm
        · have := hx1 y a2; have := hy1 x a1; omega
    subst e
    rw [sorted_one (List.Perm.cons_inv h) hx2 hy2]
theorem callf_sorted : CallF X (.builtin "sorted") gSorted := by
  refine ⟨_, cr_sorted, fun N T α H xs vs d Q hN r e q => ?_⟩
  unfold gSorted at e
  split at e
  · rename_i ds
    obtain ⟨v, rfl, rx⟩ := r.one
    obtain ⟨a, ws, rfl, hs, r⟩ := rx.lst
    by_cases hl : ds.length < 64
    · rw [if_pos hl] at e
      cases hi : intsD ds with
      | none => rw [hi] at e; cases e
      | some ns =>
        rw [hi] at e
        cases e
        have hv := rds_intsD hi r
        rw [hv] at hs
        refine ⟨a, ns, rfl, hs, ?_, fun ns' p h1 h2 hp => ?_⟩
        · have := r.length
          rw [hv, List.length_map] at this
          omega
        · rw [sorted_one (h1.trans (sortI_perm ns).symm) h2 (sortI_sorted ns)]
          exact q p _ hp (rds_ints _)
    · rw [if_neg hl] at e; cases e
  · cases e

/-! ### texts -/
def StD (X : Cx) (id : String) (g : Str → D → Option D) : Prop := ∃ r : V → List V → Hp → VK → Prop, MtR X id r ∧
  ∀ (N T : Addr → Prop) (α : List Addr) (H : Hp) (z : Str) (y d : D) (vy : V) (Q : VK), (∀ a, N a → H a ≠ none) → RB X.K N T α H y vy → g z y = some d →
    (∀ v H', Same H H' → RD X.K N α H' d v → Q v H') → r (.str z) [vy] H Q
theorem se_st {id : String} {nm : Str} {g : Str → D → Option D} {apos : Pos} (slot : Slot "str" nm id) (ty : typeOf (.builtin id) = pure (.type "method_descriptor")) (hg : StD X id g) (ha : SE X W Γ a fa) (hb : SB X W Γ b fb)
    (hs : starEach [b] X.env = [(false, eval b X.env)] := by rfl) (hbase : attributeBase a nm X.env (eval a X.env) = eval a X.env := by rfl) (hline : (apos.endLine == pos.line) = true := by rfl) :
    SE X W Γ (.Call (.Attribute a nm apos) [b] [] pos) (mSt g fa fb) := by
  intro c sl st α σ H Q R h
  obtain ⟨r, o, hr⟩ := hg
  refine ⟨_, pe_m1 slot ty o pe_wp pe_wp hs hbase hline, ?_⟩
  refine ha c sl st α σ H _ R ((Vx.R.sat_bind.mp h).imp (fun x s1 hx vx α1 H1 R1 S1 d1 => ?_) fun _ _ z => z)
  cases x with
  | str z =>
    cases d1
    refine ⟨⟨z, rfl⟩, ?_⟩
    refine hb c sl s1 α1 σ H1 _ R1 ((Vx.R.sat_bind.mp hx).imp (fun y s2 hy vy α2 H2 R2 S2 d2 => ?_) fun _ _ z => z)
    cases eg : g z y with
    | none => rw [eg] at hy; exact False.elim hy
    | some d =>
      rw [eg] at hy
      exact hr _ _ _ _ z y d vy Q R2.nn d2 eg fun v H' G r => hy v α2 H' (R2.grow G) (S1.trans (S2.trans (.grow G))) r
  | _ => exact False.elim hx
theorem std_join : StD X "str.join" gJoin := by
  refine ⟨_, mt_join, fun N T α H z y d vy Q hN ry e q => ?_⟩
  unfold gJoin at e
  split at e
  · rename_i ys
    obtain ⟨a, ws, rfl, hs, r⟩ := ry.lst
    cases hi : strsJ ys with
    | none => rw [hi] at e; cases e
    | some zs =>
      rw [hi] at e
      obtain ⟨hc, rfl⟩ := ite_some e
      rw [rds_strsJ hi r] at hs
      exact ⟨z, a, zs, rfl, rfl, .inl hs, of_decide_eq_true hc, q _ H (Same.refl H) (.str _)⟩
  · cases e
theorem std_find : StD X "str.find" gFind := by
  refine ⟨_, mt_find, fun N T α H z y d vy Q hN ry e q => ?_⟩
  unfold gFind at e
  split at e
  · cases e
    rw [rb_str ry]
    exact ⟨z, _, rfl, rfl, q _ H (Same.refl H) (.int _)⟩
  · cases e

/-! ### a list's methods, as statements -/
def MethD (X : Cx) (id : String) (g : List D → List D → Option (D × List D)) : Prop := ∃ r : V → List V → Hp → VK → Prop, MtR X id r ∧
  ∀ (N : Addr → Prop) (α : List Addr) (H : Hp) (q : Addr) (xs ys zs : List D) (d : D) (vs ws : List V) (Q : VK), H q = some (.lst vs) → RDs X.K N α H xs vs → RDs X.K N α H ys ws → g xs ys = some (d, zs) →
    (∀ v us, RD X.K N α H d v → RDs X.K N α H zs us → Q v (upd H q (.lst us))) → r (.ref q) ws H Q
theorem RDs.eraseIdx : ∀ {ds : List D} {vs : List V} (n : Nat), RDs K N α H ds vs → RDs K N α H (ds.eraseIdx n) (vs.eraseIdx n)
  | _, _, _, .nil => .nil
  | _, _, 0, .cons _ t => t
  | _, _, n + 1, .cons r t => .cons r (RDs.eraseIdx n t)
theorem RDs.dropLast {ds : List D} {vs : List V} (h : RDs K N α H ds vs) : RDs K N α H ds.dropLast vs.dropLast := by
  rw [List.dropLast_eq_take, List.dropLast_eq_take, h.length]
  exact h.take _
theorem rgOk_lt {i : Int} (h : rgOk i = true) : -(2 ^ 63) ≤ i ∧ i < 2 ^ 63 := by
  unfold rgOk at h
  rw [Bool.and_eq_true, decide_eq_true_eq, decide_eq_true_eq] at h
  omega
theorem seqIndex_ixI {i : Int} {n k : Nat} (h : ixI n i = some k) : seqIndex? i n = some k := by
  unfold ixI at h
  unfold seqIndex?
  by_cases h0 : 0 ≤ i
  · rw [if_pos h0] at h
    by_cases h1 : i < n
    · rw [if_pos h1] at h
      have h2 : ¬ i < 0 := by omega
      simp only [h2, if_false, h0, h1, decide_true, Bool.and_self, if_true]
      exact h
    · rw [if_neg h1] at h; cases h
  · rw [if_neg h0] at h
    by_cases h1 : -(n : Int) ≤ i
    · rw [if_pos h1] at h
      have h2 : i < 0 := by omega
      have h3 : 0 ≤ i + n := by omega
      have h4 : i + (n : Int) < n := by omega
      simp only [h2, if_true, h3, h4, decide_true, Bool.and_self]
      exact h
    · rw [if_neg h1] at h; cases h
theorem methd_pop0 : MethD X "list.pop" gPop0 := by
  refine ⟨_, mt_pop, fun N α H q xs ys zs d vs ws Q hq r ra e h => ?_⟩
  cases ys with
  | cons _ _ => cases e
  | nil =>
    unfold gPop0 at e
    cases ra
    cases ey : xs[xs.length - 1]? with
    | none => simp only [ey] at e; cases e
    | some y =>
      simp only [ey] at e
      cases e
      obtain ⟨v, e1, r1⟩ := r.get ey
      exact ⟨q, vs, v, rfl, rfl, hq, by rw [← r.length]; exact e1, h v _ r1 r.dropLast⟩
theorem methd_pop1 : MethD X "list.pop" gPop1 := by
  refine ⟨_, mt_popAt, fun N α H q xs ys zs d vs ws Q hq r ra e h => ?_⟩
  unfold gPop1 at e
  split at e
  · rename_i i
    cases ra with
    | cons r0 rt =>
      cases rt
      cases r0
      obtain ⟨hc, e⟩ : rgOk i = true ∧ ((ixI xs.length i).bind fun k => (xs[k]?).map fun y => (y, xs.eraseIdx k)) = some (d, zs) := by
        by_cases hc : rgOk i = true
        · rw [if_pos hc] at e; exact ⟨hc, e⟩
        · rw [if_neg hc] at e; cases e
      cases ek : ixI xs.length i with
      | none => rw [ek] at e; cases e
      | some k =>
        rw [ek] at e
        simp only [Option.bind_some] at e
        cases ey : xs[k]? with
        | none => rw [ey] at e; cases e
        | some y =>
          rw [ey] at e
          cases e
          obtain ⟨v, e1, r1⟩ := r.get ey
          obtain ⟨g1, g2⟩ := rgOk_lt hc
          exact ⟨q, vs, i, k, v, rfl, rfl, hq, g1, g2, by rw [← r.length]; exact seqIndex_ixI ek, e1, h v _ r1 (r.eraseIdx k)⟩
  · cases e
theorem methd_insert : MethD X "list.insert" gInsert := by
  refine ⟨_, mt_insert, fun N α H q xs ys zs d vs ws Q hq r ra e h => ?_⟩
  unfold gInsert at e
  split at e
  · rename_i i y
    cases ra with
    | cons r0 rt =>
      cases rt with
      | cons r1 rt =>
        cases rt
        cases r0
        obtain ⟨hc, e⟩ := ite_some e
        cases e
        rw [Bool.and_eq_true, Bool.and_eq_true, decide_eq_true_eq] at hc
        obtain ⟨g1, g2⟩ := rgOk_lt hc.2.2
        refine ⟨q, vs, i, _, rfl, rfl, hq, ?_, hc.2.1, g2, h .non _ .non (((r.take _).append (.cons r1 .nil)).append (r.drop _))⟩
        have := szOk_le hc.1
        rw [← r.length]
        omega
  · cases e
theorem methd_clear : MethD X "list.clear" gClear := by
  refine ⟨_, mt_clear, fun N α H q xs ys zs d vs ws Q hq r ra e h => ?_⟩
  unfold gClear at e
  split at e
  · cases ra
    cases e
    exact ⟨q, vs, rfl, rfl, hq, h .non _ .non .nil⟩
  · cases e
theorem methd_reverse : MethD X "list.reverse" gReverse := by
  refine ⟨_, mt_reverse, fun N α H q xs ys zs d vs ws Q hq r ra e h => ?_⟩
  unfold gReverse at e
  split at e
  · cases ra
    cases e
    exact ⟨q, vs, rfl, rfl, hq, h .non _ .non r.reverse⟩
  · cases e
/-- x.m(..), x one of the frame's own lists -/
theorem ss_meth (i : Nat) {nm : Str} {id : String} {g : List D → List D → Option (D × List D)} {fr : FA} {p2 apos : Pos} (slot : Slot "list" nm id) (ty : typeOf (.builtin id) = pure (.type "method_descriptor")) (hm : MethD X id g) (ha : SA X W Γ (e :: es) fr) (hΓ : Γ[i]? = some true := by decide) (hN : X.N[i]? = some x := by rfl) (hv : Vis X.env.scope x := by first | exact Or.inl rfl | exact Or.inr (Or.inl rfl) | exact Or.inr (Or.inr rfl))
    (hd : (x == ("__debug__" : Str)) = false := by decide) (hcd : (x == ("__classdict__" : Str)) = false := by decide) (hs : swapsWith (.Call (.Attribute (.Name x p2) nm apos) (e :: es) [] p) none pos.line X.env = pure false := by rfl)
    (hbase : attributeBase (.Name x p2) nm X.env (eval (.Name x p2) X.env) = eval (.Name x p2) X.env := by rfl)
    (hfew : ((backTo p (starEach (e :: es) X.env)).all (fun x => !x.1) && (backToKw p (keywordEach [] X.env)).all (fun x => x.1.isSome)
      && decide ((e :: es).length + ([] : List Keyword).length + (if ([] : List Keyword).isEmpty then 0 else 1) < 30)) = true := by rfl)
    (hline : (apos.endLine == p.line) = true := by rfl) (hst : starEach (e :: es) X.env = (false, eval e X.env) :: starEach es X.env := by rfl) (hplain : (backTo p (starEach es X.env)).any (·.1) = false := by rfl) :
    SS X W ρ ΓL Γ (.Expr (.Call (.Attribute (.Name x p2) nm apos) (e :: es) [] p) pos) (sMeth g i fr) Γ := by
  intro c sl st α σ H Dn R h
  obtain ⟨r, mt, hr⟩ := hm
  refine ⟨_, ps_expr (pe_bm PySem.F.plainAttrs_list slot ty mt (pe_var hN hv hd hcd) pa_wp hbase hfew hline hst hplain) hs, ?_⟩
  obtain ⟨d, q, o, e0, e1, ho, r0, h0, n⟩ := R.own i hΓ
  refine ⟨.ref q, e1, ?_⟩
  unfold sMeth at h
  rw [e0] at h
  cases d with
  | lst xs =>
    cases o with
    | lst vs =>
      refine ⟨.inl ⟨rfl, vs, sqL_of (.of ho)⟩, ?_⟩
      refine ha c sl st α σ H _ R ((Vx.R.sat_fl.mp h).imp (fun ys s1 hy ws α1 H1 R1 S1 r1 => ?_) fun x s1 hx => hx Γ σ)
      cases eg : g xs ys with
      | none => simp only [eg] at hy; exact False.elim hy
      | some w =>
        obtain ⟨y, zs⟩ := w
        simp only [eg] at hy
        have ho1 := S1.keep q _ ho fun m => n (.inr m)
        have r2 : RDs X.K (NN c Γ σ α) α H xs vs := r0
        refine hr _ _ _ q xs ys zs y vs ws _ ho1 (r2.step S1.nn) r1 eg fun v us rv ru => ?_
        obtain ⟨R2, S2⟩ := R1.change (d' := .lst zs) (o' := .lst us) hΓ e1 ru
        exact hy α1 σ _ R2 (S1.nn.trans S2)
    | _ => exact False.elim r0
  | _ => exact False.elim h
theorem ss_meth0 (i : Nat) {nm : Str} {id : String} {g : List D → List D → Option (D × List D)} {p2 apos : Pos} (slot : Slot "list" nm id) (ty : typeOf (.builtin id) = pure (.type "method_descriptor")) (hm : MethD X id g) (hΓ : Γ[i]? = some true := by decide) (hN : X.N[i]? = some x := by rfl) (hv : Vis X.env.scope x := by first | exact Or.inl rfl | exact Or.inr (Or.inl rfl) | exact Or.inr (Or.inr rfl))
    (hd : (x == ("__debug__" : Str)) = false := by decide) (hcd : (x == ("__classdict__" : Str)) = false := by decide) (hs : swapsWith (.Call (.Attribute (.Name x p2) nm apos) [] [] p) none pos.line X.env = pure false := by rfl)
    (hbase : attributeBase (.Name x p2) nm X.env (eval (.Name x p2) X.env) = eval (.Name x p2) X.env := by rfl) (hline : (apos.endLine == p.line) = true := by rfl) :
    SS X W ρ ΓL Γ (.Expr (.Call (.Attribute (.Name x p2) nm apos) [] [] p) pos) (sMeth g i mNil) Γ := by
  intro c sl st α σ H Dn R h
  obtain ⟨r, mt, hr⟩ := hm
  refine ⟨_, ps_expr (pe_bm0 PySem.F.plainAttrs_list slot ty mt (pe_var hN hv hd hcd) hbase hline) hs, ?_⟩
  obtain ⟨d, q, o, e0, e1, ho, r0, h0, n⟩ := R.own i hΓ
  refine ⟨.ref q, e1, ?_⟩
  unfold sMeth at h
  rw [e0] at h
  cases d with
  | lst xs =>
    cases o with
    | lst vs =>
      refine ⟨.inl ⟨rfl, vs, sqL_of (.of ho)⟩, ?_⟩
      simp only [mNil, Vx.R.fl_ok] at h
      cases eg : g xs [] with
      | none => simp only [eg] at h; exact False.elim h
      | some w =>
        obtain ⟨y, zs⟩ := w
        simp only [eg] at h
        have r2 : RDs X.K (NN c Γ σ α) α H xs vs := r0
        refine hr _ _ _ q xs [] zs y vs [] _ ho r2 .nil eg fun v us rv ru => ?_
        obtain ⟨R2, S2⟩ := R.change (d' := .lst zs) (o' := .lst us) hΓ e1 ru
        exact h α σ _ R2 S2
    | _ => exact False.elim r0
  | _ => exact False.elim h
/-- y = x.m(), x one of the frame's own lists -/
theorem ss_methTo0 (j i : Nat) {y : Str} {nm : Str} {id : String} {g : List D → List D → Option (D × List D)} {p2 p3 apos : Pos} (slot : Slot "list" nm id) (ty : typeOf (.builtin id) = pure (.type "method_descriptor")) (hm : MethD X id g) (hnd : X.N.Nodup) (hΓj : Γ[j]? ≠ some true := by decide) (hj : X.N[j]? = some y := by rfl) (hy : Loc X.env.scope y := by first | exact Or.inl rfl | exact Or.inr rfl) (hΓ : Γ[i]? = some true := by decide) (hN : X.N[i]? = some x := by rfl) (hv : Vis X.env.scope x := by first | exact Or.inl rfl | exact Or.inr (Or.inl rfl) | exact Or.inr (Or.inr rfl))
    (hd : (x == ("__debug__" : Str)) = false := by decide) (hcd : (x == ("__classdict__" : Str)) = false := by decide) (hs : swapsWith (.Call (.Attribute (.Name x p2) nm apos) [] [] p) (some (.Name y p3)) pos.line X.env = pure false := by rfl)
    (hf : X.fn y = true ∨ X.env.scope.names.lookup y = some .local := by first | exact .inl rfl | exact .inr rfl)
    (hbase : attributeBase (.Name x p2) nm X.env (eval (.Name x p2) X.env) = eval (.Name x p2) X.env := by rfl) (hline : (apos.endLine == p.line) = true := by rfl) :
    SS X W ρ ΓL Γ (.Assign [.Name y p3] (.Call (.Attribute (.Name x p2) nm apos) [] [] p) pos) (sMethTo g j i mNil) Γ := by
  intro c sl st α σ H Dn R h
  obtain ⟨r, mt, hr⟩ := hm
  refine ⟨_, ps_set hnd hj hy (pe_bm0 PySem.F.plainAttrs_list slot ty mt (pe_var hN hv hd hcd) hbase hline) hs hf, ?_⟩
  obtain ⟨d, q, o, e0, e1, ho, r0, h0, n⟩ := R.own i hΓ
  refine ⟨.ref q, e1, ?_⟩
  unfold sMethTo at h
  rw [e0] at h
  cases d with
  | lst xs =>
    cases o with
    | lst vs =>
      refine ⟨.inl ⟨rfl, vs, sqL_of (.of ho)⟩, ?_⟩
      simp only [mNil, Vx.R.fl_ok] at h
      cases eg : g xs [] with
      | none => simp only [eg] at h; exact False.elim h
      | some w =>
        obtain ⟨y, zs⟩ := w
        simp only [eg] at h
        have r2 : RDs X.K (NN c Γ σ α) α H xs vs := r0
        refine hr _ _ _ q xs [] zs y vs [] _ ho r2 .nil eg fun v us rv ru => ?_
        obtain ⟨R2, S2⟩ := R.change (d' := .lst zs) (o' := .lst us) hΓ e1 ru
        exact h α _ _ (R2.set hΓj (rv.step S2)) (S2.trans (.less fun a z => (nn_set hΓj a).mp z))
    | _ => exact False.elim r0
  | _ => exact False.elim h
/-- y = x.m(..) -/
theorem ss_methTo (j i : Nat) {y : Str} {nm : Str} {id : String} {g : List D → List D → Option (D × List D)} {fr : FA} {p2 p3 apos : Pos} (slot : Slot "list" nm id) (ty : typeOf (.builtin id) = pure (.type "method_descriptor")) (hm : MethD X id g) (ha : SA X W Γ (e :: es) fr) (hnd : X.N.Nodup) (hΓj : Γ[j]? ≠ some true := by decide) (hj : X.N[j]? = some y := by rfl) (hy : Loc X.env.scope y := by first | exact Or.inl rfl | exact Or.inr rfl) (hΓ : Γ[i]? = some true := by decide) (hN : X.N[i]? = some x := by rfl) (hv : Vis X.env.scope x := by first | exact Or.inl rfl | exact Or.inr (Or.inl rfl) | exact Or.inr (Or.inr rfl))
    (hd : (x == ("__debug__" : Str)) = false := by decide) (hcd : (x == ("__classdict__" : Str)) = false := by decide) (hs : swapsWith (.Call (.Attribute (.Name x p2) nm apos) (e :: es) [] p) (some (.Name y p3)) pos.line X.env = pure false := by rfl)
    (hf : X.fn y = true ∨ X.env.scope.names.lookup y = some .local := by first | exact .inl rfl | exact .inr rfl)
    (hbase : attributeBase (.Name x p2) nm X.env (eval (.Name x p2) X.env) = eval (.Name x p2) X.env := by rfl)
    (hfew : ((backTo p (starEach (e :: es) X.env)).all (fun x => !x.1) && (backToKw p (keywordEach [] X.env)).all (fun x => x.1.isSome)
      && decide ((e :: es).length + ([] : List Keyword).length + (if ([] : List Keyword).isEmpty then 0 else 1) < 30)) = true := by rfl)
    (hline : (apos.endLine == p.line) = true := by rfl) (hst : starEach (e :: es) X.env = (false, eval e X.env) :: starEach es X.env := by rfl) (hplain : (backTo p (starEach es X.env)).any (·.1) = false := by rfl) :
    SS X W ρ ΓL Γ (.Assign [.Name y p3] (.Call (.Attribute (.Name x p2) nm apos) (e :: es) [] p) pos) (sMethTo g j i fr) Γ := by
  intro c sl st α σ H Dn R h
  obtain ⟨r, mt, hr⟩ := hm
  refine ⟨_, ps_set hnd hj hy (pe_bm PySem.F.plainAttrs_list slot ty mt (pe_var hN hv hd hcd) pa_wp hbase hfew hline hst hplain) hs hf, ?_⟩
  obtain ⟨d, q, o, e0, e1, ho, r0, h0, n⟩ := R.own i hΓ
  refine ⟨.ref q, e1, ?_⟩
  unfold sMethTo at h
  rw [e0] at h
  cases d with
  | lst xs =>
    cases o with
    | lst vs =>
      refine ⟨.inl ⟨rfl, vs, sqL_of (.of ho)⟩, ?_⟩
      refine ha c sl st α σ H _ R ((Vx.R.sat_fl.mp h).imp (fun ys s1 hy ws α1 H1 R1 S1 r1 => ?_) fun x s1 hx => hx Γ σ)
      cases eg : g xs ys with
      | none => simp only [eg] at hy; exact False.elim hy
      | some w =>
        obtain ⟨y, zs⟩ := w
        simp only [eg] at hy
        have ho1 := S1.keep q _ ho fun m => n (.inr m)
        have r2 : RDs X.K (NN c Γ σ α) α H xs vs := r0
        refine hr _ _ _ q xs ys zs y vs ws _ ho1 (r2.step S1.nn) r1 eg fun v us rv ru => ?_
        obtain ⟨R2, S2⟩ := R1.change (d' := .lst zs) (o' := .lst us) hΓ e1 ru
        exact hy α1 _ _ (R2.set hΓj (rv.step S2)) ((S1.nn.trans S2).trans (.less fun a z => (nn_set hΓj a).mp z))
    | _ => exact False.elim r0
  | _ => exact False.elim h
/-- x.extend(e), e a new list -/
theorem ss_extF (i : Nat) {p2 apos : Pos} (ha : SF X W Γ a fa) (hΓ : Γ[i]? = some true := by decide) (hN : X.N[i]? = some x := by rfl) (hv : Vis X.env.scope x := by first | exact Or.inl rfl | exact Or.inr (Or.inl rfl) | exact Or.inr (Or.inr rfl))
    (hd : (x == ("__debug__" : Str)) = false := by decide) (hcd : (x == ("__classdict__" : Str)) = false := by decide) (hs : swapsWith (.Call (.Attribute (.Name x p2) "extend" apos) [a] [] p) none pos.line X.env = pure false := by rfl)
    (hst : starEach [a] X.env = (false, eval a X.env) :: starEach [] X.env := by rfl)
    (pe : ∀ {t : TA}, PA X [a] t → PE X (.Call (.Attribute (.Name x p2) "extend" apos) [a] [] p) (tBM X.K "list" rExtend (tVar i) t) := by intro t ht; exact pe_bm PySem.F.plainAttrs_list PySem.F.slot_list_extend PySem.F.type_list_extend mt_extend (pv _) ht) :
    SS X W ρ ΓL Γ (.Expr (.Call (.Attribute (.Name x p2) "extend" apos) [a] [] p) pos) (sExt i fa) Γ := by
  intro c sl st α σ H Dn R h
  refine ⟨_, ps_expr (pe (pa_cons pe_wp pa_nil hst)) hs, ?_⟩
  obtain ⟨d, q, o, e0, e1, ho, r, h0, n⟩ := R.own i hΓ
  refine ⟨.ref q, e1, ?_⟩
  unfold sExt at h
  rw [e0] at h
  cases d with
  | lst xs =>
    cases o with
    | lst vs =>
      refine ⟨.inl ⟨rfl, vs, sqL_of (.of ho)⟩, ?_⟩
      refine ha c sl st α σ H _ R ((Vx.R.sat_fl.mp h).imp (fun y s1 hy b o1 α1 H1 hb0 hb R1 S1 r1 => ?_) fun x s1 hx => hx Γ σ)
      cases y with
      | lst ys =>
        cases o1 with
        | lst ws =>
          simp only [] at hy
          by_cases hz : szOk (xs.length + ys.length) = true
          · rw [if_pos hz] at hy
            have ho1 := S1.keep q _ ho fun m => n (.inr m)
            have r2 : RDs X.K (NN c Γ σ α) α H xs vs := r
            have r3 := r2.step S1.nn
            have r4 : RDs X.K (NN (c.add b) Γ σ α1) α1 H1 ys ws := r1
            have r5 : RDs X.K (NN c Γ σ α1) α1 H1 ys ws := r4.step (.less nn_less)
            refine ⟨q, b, vs, ws, rfl, rfl, ho1, hb, by rw [← r3.length, ← r5.length]; exact szOk_le hz, ?_⟩
            obtain ⟨R2, S2⟩ := R1.drop.change (d' := .lst (xs ++ ys)) (o' := .lst (vs ++ ws)) hΓ e1 (r3.append r5)
            exact hy α1 σ _ R2 (S1.nn.trans S2)
          · rw [if_neg hz] at hy
            exact False.elim hy
        | _ => exact False.elim r1
      | _ => exact False.elim hy
    | _ => exact False.elim r
  | _ => exact False.elim h
/-! ### reversed -/
theorem yields_revL {a : Addr} {ds : List D} {vs : List V} (h : (¬ T a ∧ Rd H a (.lst vs)) ∨ KL K a vs) (r : RDs K N α H ds vs) : Yields K N T α H (Itv K a vs.length) ds.reverse := by
  intro N' T' α' H' sT sN hN
  have hq : SqL K H' a vs := by
    rcases h with ⟨n, h⟩ | h
    · exact sqL_of (sT.rd n h).1
    · exact h.sq
  have r' := r.step sN
  have hl := r'.length
  refine ⟨fun i d hd => ?_, fun i hi => by rw [List.length_reverse, hl] at hi; exact hi⟩
  have hi : i < ds.length := by
    have := (List.getElem?_eq_some_iff.mp hd).1
    rw [List.length_reverse] at this
    exact this
  rw [List.getElem?_reverse hi] at hd
  obtain ⟨v, h1, h2⟩ := r'.get hd
  rw [hl] at h1
  refine ⟨⟨by omega, vs, v, hq, h1⟩, fun x H'' y => ?_⟩
  obtain ⟨rfl, y⟩ := y
  have := y vs hq
  rw [h1] at this
  cases this
  exact ⟨Same.refl _, h2⟩
theorem yields_revT {a : Addr} {ds : List D} {vs : List V} (n : ¬ N a) (h : Rd H a (.tup vs)) (r : RDs K N α H ds vs) : Yields K N T α H (RT.ItvT K a vs.length) ds.reverse := by
  intro N' T' α' H' sT sN hN
  have hq : SqT K H' a vs := sqT_of (sN.rd n h).1
  have r' := r.step sN
  have hl := r'.length
  refine ⟨fun i d hd => ?_, fun i hi => by rw [List.length_reverse, hl] at hi; exact hi⟩
  have hi : i < ds.length := by
    have := (List.getElem?_eq_some_iff.mp hd).1
    rw [List.length_reverse] at this
    exact this
  rw [List.getElem?_reverse hi] at hd
  obtain ⟨v, h1, h2⟩ := r'.get hd
  rw [hl] at h1
  refine ⟨⟨by omega, vs, v, hq, h1⟩, fun x H'' y => ?_⟩
  obtain ⟨rfl, y⟩ := y
  have := y vs hq
  rw [h1] at this
  cases this
  exact ⟨Same.refl _, h2⟩
theorem si_rev {tg : Expr} {bb : Bool} (hm : X.mg "reversed" = none) (ha : SE X W Γ a fa) (hg : Gl X "reversed" := by rfl) (hs : starEach [a] X.env = (false, eval a X.env) :: starEach [] X.env := by rfl) : SI X W Γ bb tg (.Call (.Name "reversed" p) [a] [] pos) (itRev fa) := by
  intro c sl st α σ H R' Rl h
  refine ⟨_, RT.pi_revA hg hm pe_wp hs, ?_⟩
  refine ha c sl st α σ H _ Rl ((Vx.R.sat_bind.mp h).imp (fun d s1 hd v α1 H1 R1 S1 r1 => ?_) fun _ _ z => z)
  cases d with
  | lst xs =>
    have rb := RB.of (T := if bb then NB c α1 else NN c Γ σ α1) r1 nt_of
    obtain ⟨q, vs, rfl, hq, r⟩ := id rb
    exact ⟨q, vs, rfl, .inl ⟨by rcases hq with ⟨_, hq⟩ | hq; exact sqL_of hq; exact hq.sq, hd _ α1 H1 R1 S1 (yields_revL hq r)⟩⟩
  | tup xs =>
    cases r1 with
    | tup n hr r => exact ⟨_, _, rfl, .inr ⟨sqT_of hr, hd _ α1 H1 R1 S1 (yields_revT n hr r)⟩⟩
  | _ => exact False.elim hd
theorem si_revB {tg : Expr} (hm : X.mg "reversed" = none) (ha : SB X W Γ a fa) (hg : Gl X "reversed" := by rfl) (hs : starEach [a] X.env = (false, eval a X.env) :: starEach [] X.env := by rfl) : SI X W Γ true tg (.Call (.Name "reversed" p) [a] [] pos) (itRev fa) := by
  intro c sl st α σ H R' Rl h
  refine ⟨_, RT.pi_revA hg hm pe_wp hs, ?_⟩
  refine ha c sl st α σ H _ Rl ((Vx.R.sat_bind.mp h).imp (fun d s1 hd v α1 H1 R1 S1 r1 => ?_) fun _ _ z => z)
  cases d with
  | lst xs =>
    obtain ⟨q, vs, rfl, hq, r⟩ := r1
    exact ⟨q, vs, rfl, .inl ⟨by rcases hq with ⟨_, hq⟩ | hq; exact sqL_of hq; exact hq.sq, hd _ α1 H1 R1 S1 (yields_revL hq r)⟩⟩
  | tup xs =>
    obtain ⟨q, vs, rfl, n, hr, r⟩ := RB.tup r1
    exact ⟨_, _, rfl, .inr ⟨sqT_of hr, hd _ α1 H1 R1 S1 (yields_revT n hr r)⟩⟩
  | _ => exact False.elim hd
theorem se_tupRev {p2 pos2 : Pos} (hm : X.mg "tuple" = none) (hm2 : X.mg "reversed" = none) (ha : SB X W Γ a fa) (hc : X.calm = true := by rfl) (hg : Gl X "tuple" := by rfl) (hg2 : Gl X "reversed" := by rfl) (hs : starEach [a] X.env = (false, eval a X.env) :: starEach [] X.env := by rfl)
    (hs2 : starEach [.Call (.Name "reversed" p2) [a] [] pos2] X.env = (false, eval (.Call (.Name "reversed" p2) [a] [] pos2) X.env) :: starEach [] X.env := by rfl) :
    SE X W Γ (.Call (.Name "tuple" p) [.Call (.Name "reversed" p2) [a] [] pos2] [] pos) (mUn gTupRev fa) := by
  intro c sl st α σ H Q R h
  refine ⟨_, RT.pe_tupRev hc hg hm hg2 hm2 pe_wp hs hs2, ?_⟩
  refine ha c sl st α σ H _ R ((Vx.R.sat_bind.mp h).imp (fun x s1 hx vx α1 H1 R1 S1 r1 => ?_) fun _ _ z => z)
  cases eg : gTupRev x with
  | none => rw [eg] at hx; exact False.elim hx
  | some d =>
    rw [eg] at hx
    unfold gTupRev at eg
    split at eg
    · cases eg
      obtain ⟨q, vs, rfl, hs, r⟩ := r1.lst
      refine ⟨q, vs, rfl, hs, fun q2 hq2 => ?_⟩
      have G : Same H1 (upd H1 q2 (.tup vs.reverse)) := same_upd hq2
      exact hx (.ref q2) α1 _ (R1.grow G) (S1.trans (.grow G)) (.tup (R1.fresh hq2) (.inl upd_same) (r.reverse.step (.grow G)))
    · cases eg
/-! ### targets of many names -/
def SGs (X : Cx) (es : List Expr) (is : List Nat) : Prop := ∀ c Γ sl st α σ H (ds : List D) (vs : List V) (Q : L2.St → Hp → Prop), (∀ i ∈ is, Γ[i]? ≠ some true) → Rel X.K c Γ sl st α σ H → RDs X.K (NN c Γ σ α) α H ds vs → ds.length = is.length →
  (∀ σ', Rel X.K c Γ (setAll sl is ds) st α σ' H → (∀ a, LocO Γ σ' a ↔ LocO Γ σ a) → σ'.length = σ.length → (∀ i, i ∉ is → σ'[i]? = σ[i]?) → Q σ' H) → ∃ t, PGs X es t ∧ t vs σ H Q
theorem sgs_nil : SGs X [] [] := by
  intro c Γ sl st α σ H ds vs Q hΓ R r hl h
  cases r with
  | nil => exact ⟨_, pgs_nil, rfl, h σ R (fun _ => Iff.rfl) rfl fun _ _ => rfl⟩
  | cons _ _ => cases hl
theorem sgs_cons (i : Nat) {is : List Nat} {p1 : Pos} (hN : X.N.Nodup) (hr : SGs X es is) (hi : X.N[i]? = some x := by rfl) (hx : Loc X.env.scope x := by first | exact Or.inl rfl | exact Or.inr rfl)
    (hf : X.fn x = true ∨ X.env.scope.names.lookup x = some .local := by first | exact .inl rfl | exact .inr rfl)
    (hs : (assignEach (.Name x p1 :: es) X.env).map (·.2) = assign (.Name x p1) X.env :: (assignEach es X.env).map (·.2) := by rfl) : SGs X (.Name x p1 :: es) (i :: is) := by
  intro c Γ sl st α σ H ds vs Q hΓ R r hl h
  have hi' := hΓ i List.mem_cons_self
  cases r with
  | nil => cases hl
  | cons r1 rr =>
    rename_i d ds v vs
    have R1 := R.set hi' r1
    have S1 : Stp (NN c Γ σ α) α H (NN c Γ (σ.set i (some v)) α) α H := .less fun a z => (nn_set hi' a).mp z
    obtain ⟨t, pt, ht⟩ := hr c Γ _ st α _ H ds vs Q (fun j hj => hΓ j (List.mem_cons_of_mem _ hj)) R1 (rr.step S1) (Nat.succ.inj hl) fun σ' R' l' len' o' => h σ' R' (fun a => (l' a).trans (loc_set hi' a)) (by rw [len', List.length_set])
      fun m hm => by rw [o' m (fun z => hm (List.mem_cons_of_mem _ z)), getElem?_set_ne' (fun e => hm (by rw [e]; exact List.mem_cons_self))]
    exact ⟨_, pgs_cons (pg_name hN hi hx hf) pt hs, v, vs, rfl, ht⟩
theorem sg_tup {is : List Nat} {k : Nat} (hc : X.calm = true) (hr : SGs X es is) (hn : (assignEach es X.env).length = is.length := by rfl) (hst : (assignEach es X.env).findIdx? (·.1) = none := by rfl) : SG X (.Tuple es k pos) is (tgN is) := by
  intro c Γ sl st α σ H d v sl' Q hΓ R r e h
  unfold tgN at e
  split at e
  · rename_i xs
    by_cases hl : xs.length = is.length
    · rw [if_pos hl] at e
      cases e
      cases r with
      | tup n hr' rr =>
        rename_i a vs
        obtain ⟨t, pt, ht⟩ := hr c Γ sl st α σ H xs vs Q hΓ R rr hl h
        exact ⟨_, pg_tup hc pt hn hst, a, vs, rfl, .inl hr', by rw [← rr.length]; exact hl, ht⟩
    · rw [if_neg hl] at e
      cases e
  · cases e
theorem setAll_ok : ∀ (is : List Nat) (ds : List D) (l : Sl), (setAll l is ds).length = l.length ∧ ∀ i, i ∉ is → (setAll l is ds)[i]? = l[i]?
  | [], _, l => ⟨rfl, fun _ _ => rfl⟩
  | _ :: _, [], l => ⟨rfl, fun _ _ => rfl⟩
  | i :: is, d :: ds, l => by
    obtain ⟨h1, h2⟩ := setAll_ok is ds (l.set i (some d))
    refine ⟨by unfold setAll; rw [h1, List.length_set], fun m hm => ?_⟩
    unfold setAll
    rw [h2 m (fun z => hm (List.mem_cons_of_mem _ z)), getElem?_set_ne' (fun e => hm (by rw [e]; exact List.mem_cons_self))]
theorem tgN_ok (is : List Nat) : TgOk is (tgN is) := fun d l l' h => by
  unfold tgN at h
  split at h
  · rename_i xs
    by_cases hl : xs.length = is.length
    · rw [if_pos hl] at h
      cases h
      exact setAll_ok is xs l
    · rw [if_neg hl] at h; cases h
  · cases h
theorem se_lenSet {p2 q : Pos} (hm : X.mg "len" = none) (hm2 : X.mg "set" = none) (ha : SB X W Γ a fa) (hc : X.calm = true := by rfl) (hg : Gl X "len" := by rfl) (hg2 : Gl X "set" := by rfl)
    (na : starEach [a] X.env = (false, eval a X.env) :: starEach [] X.env := by rfl) : SE X W Γ (.Call (.Name "len" p) [.Call (.Name "set" p2) [a] [] q] [] pos) (mUn gLenSet fa) := by
  intro c sl st α σ H Q R h
  refine ⟨_, RZ.pe_lenSetI hg hm hg2 hm2 pe_wp hc na, ?_⟩
  refine ha c sl st α σ H _ R ((Vx.R.sat_bind.mp h).imp (fun x s1 hx vx α1 H1 R1 S1 r1 => ?_) fun _ _ z => z)
  cases eg : gLenSet x with
  | none => rw [eg] at hx; exact False.elim hx
  | some d =>
    rw [eg] at hx
    unfold gLenSet at eg
    split at eg
    · rename_i xs
      obtain ⟨l, vs, rfl, hs, r⟩ := r1.lst
      cases hi : intsD xs with
      | none => rw [hi] at eg; cases eg
      | some ns =>
        rw [hi] at eg
        obtain ⟨hc2, rfl⟩ := ite_some eg
        rw [Bool.and_eq_true, decide_eq_true_eq, decide_eq_true_eq] at hc2
        rw [rds_intsD hi r] at hs
        exact ⟨l, ns, rfl, hs, hc2.1, hc2.2, hx _ α1 H1 R1 S1 (.int _)⟩
    · cases eg
end
end Vx

/-! VLow: list(reversed(a list)), at the library's level. -/
namespace Vx
open PySem PySem.Spec PyProof.Rows L2
section
variable {prog : Program} {w : World} {A : Around} {s : Shared}
theorem list_init_rev {R : PySem.Result → Shared → Prop} {S it l : Addr} {items : Array Value} (hh : A.handled = none) (hit : s.heap.IsRevIter it l ((items.size : Int) - 1)) (hl : s.heap.IsList l items) (hne : l ≠ it) (hn : items.size ≤ sizeLine)
    (hS : s.heap.get? S = some { cls := .type "list", data := .seq #[] }) (hSi : S ≠ it) (hSl : S ≠ l)
    (hR : ∀ (h' : Heap) (tk : Nat) (acc : Array Value) (c : Nat), (∀ b o, b ≠ it → b ≠ S → s.heap.get? b = some o → h'.get? b = some o) → h'.get? S = some { cls := .type "list", dict := none, data := .seq acc c, slots := #[] } → ItemsOf (fun i v => items[items.size - 1 - i]? = some v) acc items.size → R (.ok (.ret .none)) { s with heap := h', toks := tk }) :
    wpAny (model prog w) A.in1 (Builtin.«list.__init__» ⟨[.ref S, .ref it], []⟩)
      (fun fin s' => match fin with | .done f => R (.ok f) s' | .again c' => c'.quiet = true ∧ codeAny (model prog w) A c' R s') (fun e s' => R (.error e) s') s := by
  have W := (Walks.listRev (prog := prog) (w := w) (A := A.in1) hh it l hne items).toS
  have hSf : S ∉ [it, l] := by simp only [List.mem_cons, List.not_mem_nil, or_false, not_or]; exact ⟨hSi, hSl⟩
  show wpAny _ A.in1 (do let old ← Builtin.List.listItems (.ref S); Builtin.List.listUpdate (.ref S) (fun _ => #[]); letGo old.toList.reverse; Builtin.List.listExtendWith (.ref S) (.ref it) .none) _ _ s
  refine wpAny_bind ?_
  unfold Builtin.List.listItems
  refine wpAny_bind (wpAny_seqItems hS rfl (wpAny_pure ?_))
  show wpAny _ A.in1 (updateSeq S (fun _ => #[]) >>= fun _ => letGo (#[] : Array Value).toList.reverse >>= fun _ => Builtin.List.listExtendWith (.ref S) (.ref it) .none) _ _ s
  refine wpAny_bind (wpAny_updateSeq hS rfl ?_)
  have hS₂ := Heap.get?_update_self (Obj.mapSeq (fun _ => (#[] : Array Value))) hS rfl
  refine wpAny_bind (wpAny_letGo ?_)
  have oth : ∀ b o, b ≠ S → s.heap.get? b = some o → (s.heap.update S (Obj.mapSeq (fun _ => (#[] : Array Value)))).get? b = some o := fun b o hb e => (Heap.get?_update_other _ _ (Ne.symm hb)).trans e
  have hit2 : (s.heap.update S (Obj.mapSeq (fun _ => (#[] : Array Value)))).IsRevIter it l ((items.size : Int) - 1) := hit.at fun o e => oth it o (Ne.symm hSi) e
  have hT2 : ({ s with heap := s.heap.update S (Obj.mapSeq (fun _ => (#[] : Array Value))) } : Shared).TypeIs (.ref it) "list_reverseiterator" := Heap.IsRevIter.typeIs (s := { s with heap := s.heap.update S (Obj.mapSeq (fun _ => (#[] : Array Value))) }) hit2
  unfold Builtin.List.listExtendWith
  refine wpAny_bind (wpAny_typeOf hT2 ?_)
  have h1 : Builtin.List.listSameRef (.ref S) (.ref it) = false := by simp [Builtin.List.listSameRef, hSi]
  have h2 : (Value.type "list_reverseiterator" == Value.type "list") = false := by decide
  have h3 : (Value.type "list_reverseiterator" == Value.type "tuple") = false := by decide
  simp only [h1, h2, h3, Bool.or_false, Bool.false_eq_true, if_false]
  refine wpAny_bind (wpAny_pyIter_revIter (s := { s with heap := s.heap.update S (Obj.mapSeq (fun _ => (#[] : Array Value))) }) hit2 ?_)
  refine wpAny_bind (wpAny_holding ?_)
  unfold Builtin.List.listLengthHint
  refine wpAny_bind (wpAny_specialOf hT2 RT.nolen_lri ?_)
  show wpAny _ A.in1 (specialOf (Value.ref it) (Str.ofString "__length_hint__") >>= _) _ _ _
  refine wpAny_bind (wpAny_specialOf hT2 RT.hint_lri ?_)
  generalize hid : ("list_reverseiterator.__length_hint__" : String) = id0
  wp_delta
  rw [show splitId id0 = some ("list_reverseiterator", "__length_hint__") from by subst hid; decide +kernel]
  subst hid
  refine wpAny_bind (wpAny_isInstance (b := true) hT2 (by rw [isSubtype_type]; kernel_rfl) ?_)
  refine wpAny_pure ?_
  rw [if_neg (by decide)]
  have e0 : ((items.size : Nat) : Int) - 1 - ((0 : Nat) : Int) = (items.size : Int) - 1 := by omega
  have hl2 : (s.heap.update S (Obj.mapSeq (fun _ => (#[] : Array Value)))).IsList l items := by
    obtain ⟨o, ho, r⟩ := id hl
    exact ⟨o, oth l o (Ne.symm hSl) ho, r⟩
  refine wpAny_pure ⟨plainId_quiet F.plain_extend_loop _, codeAny_extend_loopS W hn _ hSf _ items.size 0 _ _ _ rfl (Nat.zero_le _) ⟨Nat.zero_le _, by rw [e0]; exact hit2, hl2⟩ hS₂ (ItemsOf.nil _) fun s' acc' c' hm hS' hacc => ?_⟩
  rw [Moved.eq_with hm]
  refine hR s'.heap s'.toks acc' c' (fun b o hb hb2 e => hm.heap b o (fun hmem => ?_) (oth b o hb2 e)) hS' hacc
  rcases List.mem_cons.mp hmem with e' | hmem
  · exact hb2 e'
  · exact hb (List.mem_singleton.mp hmem)
theorem call_list_rev {E : Value → Shared → Prop} {it l : Addr} {items : Array Value} {Q : Value → Shared → Prop} (hh : A.handled = none) (hit : s.heap.IsRevIter it l ((items.size : Int) - 1)) (hl : s.heap.IsList l items) (hne : l ≠ it) (hn : items.size ≤ sizeLine)
    (hQ : ∀ (h' : Heap) (tk : Nat) (acc : Array Value) (c : Nat), (∀ b o, b ≠ it → s.heap.get? b = some o → h'.get? b = some o) → h'.get? s.heap.objs.size = some { cls := .type "list", dict := none, data := .seq acc c, slots := #[] } → ItemsOf (fun i v => items[items.size - 1 - i]? = some v) acc items.size →
      Q (.ref s.heap.objs.size) { s with heap := h', toks := tk }) :
    wpAny (model prog w) A (call (.type "list") [.ref it]) Q E s := by
  obtain ⟨oi, hoi, _⟩ := id hit
  obtain ⟨ol, hol, _⟩ := id hl
  have hSi : s.heap.objs.size ≠ it := Nat.ne_of_gt (Heap.lt_size hoi)
  have hSl : s.heap.objs.size ≠ l := Nat.ne_of_gt (Heap.lt_size hol)
  refine callType_codes (Q₁ := fun obj s₁ => obj = .ref s.heap.objs.size ∧ s₁ = { s with heap := s.heap.push { cls := .type "list", data := .seq #[] } }) F.called_list (F.typeCall_list_1 _) F.entry_list_init
    (code_list_new _ ⟨rfl, rfl⟩) fun obj s₁ h₁ => ?_
  obtain ⟨rfl, rfl⟩ := h₁
  have hS : (s.heap.push { cls := .type "list", data := .seq #[] }).get? s.heap.objs.size = some { cls := .type "list", data := .seq #[] } := Heap.get?_push_size _ rfl
  refine ⟨⟨_, hS, rfl⟩, F.args_list_init_2 _ _, list_init_rev (A := A.in1) (s := { s with heap := s.heap.push { cls := .type "list", data := .seq #[] } }) hh (hit.at fun o e => Heap.get?_push_of_some _ e) (hl.push _) hne hn hS hSi hSl fun h' tk acc c hk hS' hacc => ⟨rfl, ?_⟩⟩
  exact hQ h' tk acc c (fun b o hb e => hk b o hb (fun z => by rw [z] at e; exact Nat.lt_irrefl _ (Heap.lt_size e)) (Heap.get?_push_of_some _ e)) hS' hacc
end
/-- list(reversed(x)), x a list: a new list -/
def tLstRev (K : PySem.W.Frag) (te : TE) : TE := fun σ H Q => te σ H fun v H1 => ∃ (a : Addr) (xs : List V), v = .ref a ∧ SqL K H1 a xs ∧ ∀ q, H1 q = none → Q (.ref q) (upd H1 q (.lst xs.reverse))
theorem pe_listRev {X : Cx} {e : Expr} {te : TE} {p p2 pos pos2 : Pos} (hc : X.calm = true) (hg : Gl X "list") (hm : X.mg "list" = none) (hg2 : Gl X "reversed") (hm2 : X.mg "reversed" = none) (he : PE X e te)
    (hs : starEach [e] X.env = (false, eval e X.env) :: starEach [] X.env := by rfl)
    (hs2 : starEach [.Call (.Name "reversed" p2) [e] [] pos2] X.env = (false, eval (.Call (.Name "reversed" p2) [e] [] pos2) X.env) :: starEach [] X.env := by rfl) :
    PE X (.Call (.Name "list" p) [.Call (.Name "reversed" p2) [e] [] pos2] [] pos) (tLstRev X.K te) := by
  refine ⟨fun pins s σ H Q I h => ?_⟩
  refine Call_ (ld_blt I hg hm boot_list (PyProof.Rows.callWith_type1 (args_cons (Call_ (ld_blt I hg2 hm2 PyProof.Rows.boot_reversed (PyProof.Rows.callWith_type1 (args_cons (thn (he.run pins s σ H _ I h) fun u s1 ⟨v, H1, I1, r1, q1⟩ => args_nil ?_) hs) hs rfl))) hs2) hs2 rfl))
  obtain ⟨a, xs, ev, hq, q⟩ := q1
  subst ev
  obtain rfl : u = Value.ref a := r1
  obtain ⟨its, rv, p', hz⟩ := I1.list hq
  refine call_reversed_list p'.isList (args_nil ?_)
  have hl := p'.isList
  obtain ⟨ol, hol, _⟩ := id hl
  have hne : a ≠ s1.heap.objs.size := Nat.ne_of_lt (Heap.lt_size hol)
  have hn : its.toArray.size ≤ sizeLine := by rw [List.size_toArray, ← rv.length]; exact hz
  refine call_list_rev (s := { s1 with heap := s1.heap.push (revObj a ((its.toArray.size : Int) - 1)) }) (I1.ok.hd hc) ⟨_, Heap.get?_push_size _ rfl, rfl, rfl⟩ (hl.push _) hne hn fun h' tk acc c hk hS hi => ?_
  have hsz : (s1.heap.push (revObj a ((its.toArray.size : Int) - 1))).objs.size = s1.heap.objs.size + 1 := by simp [Heap.push]
  have k1 : ∀ b o, s1.heap.get? b = some o → h'.get? b = some o := fun b o e => hk b o (Nat.ne_of_lt (Heap.lt_size e)) (Heap.get?_push_of_some _ e)
  have hle : s1.heap.objs.size ≤ (s1.heap.push (revObj a ((its.toArray.size : Int) - 1))).objs.size := by rw [hsz]; exact Nat.le_succ _
  refine ⟨.ref _, upd H1 _ (.lst xs.reverse), I1.laid (t' := tk) k1 hle (show ObjOk X.prog X.w _ _ _ (.lst xs.reverse) from ⟨by rw [List.length_reverse]; exact hz, acc.toList, c, RT.vals_rev rv hi, ?_⟩), rfl, q _ (I1.hok.fresh hle)⟩
  rw [Array.toArray_toList]
  exact hS
/-! ### enumerate(tuple) -/
set_option maxHeartbeats 1000000 in
theorem meets_enumerate_newT {v : Value} {o : Obj} {H : Heap → Prop} (B : Begins v o H) :
    Meets (Builtin.«enumerate.__new__» ⟨[.type "enumerate", v], []⟩) (fun _ R s => H s.heap ∧
      R (.ok (.ret (.ref (s.heap.push o).objs.size))) { s with heap := (s.heap.push o).push { cls := .type "enumerate", data := .fields #[.none, .bool false, .ref s.heap.objs.size, rawInt 0, .none, .none] } }) :=
  .of_wp fun prog w A R s h => by
    obtain ⟨hp, g, d, tk, os⟩ := s; obtain ⟨h1, h⟩ := h
    have hsub := sub_enumerate
    have q1 : ∀ {A' : Around} {E : Value → Shared → Prop} {Q : Value → Shared → Prop}, Q (.ref hp.objs.size) ⟨hp.push o, g, d, tk, os⟩ → wpAny (model prog w) A' (pyIter v) Q E ⟨hp, g, d, tk, os⟩ :=
      fun q => B.iter prog w _ _ ⟨hp, g, d, tk, os⟩ _ h1 q
    wp_walk using q1
    refine wpAny_stack_any fun st => wpAny_pure ?_
    split
    · rename_i c _ _ _ _ _
      cases (c == Value.type "enumerate")
      · wp_walk using q1
        exact ⟨_, rfl, h⟩
      · wp_walk using q1
        exact ⟨_, rfl, h⟩
    · wp_walk using q1
      exact ⟨_, rfl, h⟩
theorem call_enumerate_tup {prog : Program} {w : World} {A : Around} {s : Shared} {E : Value → Shared → Prop} {l : Addr} {items : Array Value} {Q : Value → Shared → Prop} (hL : s.heap.IsTuple l items)
    (h : ∀ h', IsEnum h' (s.heap.objs.size + 1) s.heap.objs.size 0 .none → h'.IsTupleIter s.heap.objs.size l 0 → h'.objs.size = s.heap.objs.size + 2 →
      (∀ b o, s.heap.get? b = some o → h'.get? b = some o) → Q (.ref (s.heap.objs.size + 1)) { s with heap := h' }) :
    wpAny (model prog w) A (call (.type "enumerate") [.ref l]) Q E s := by
  refine callType_new F.called_enumerate (by decide) (F.typeCall_enumerate_1 _) (F.newCall_enumerate_1 _) (fun obj => F.args_object_init_2 obj _) F.entry_enumerate_new
    (meets_enumerate_newT (begins_tuple l items)) ⟨hL, ?_⟩
  have hz : (s.heap.push { cls := .type "tuple_iterator", data := .fields #[.ref l, .int 0 0] }).objs.size = s.heap.objs.size + 1 := Heap.size_push ..
  show _ ∧ _
  rw [hz]
  have he : IsEnum ((s.heap.push { cls := .type "tuple_iterator", data := .fields #[.ref l, .int 0 0] }).push
      { cls := .type "enumerate", data := .fields #[.none, .bool false, .ref s.heap.objs.size, rawInt 0, .none, .none] }) (s.heap.objs.size + 1) s.heap.objs.size 0 .none := by
    have := Heap.get?_push_size (s.heap.push { cls := .type "tuple_iterator", data := .fields #[.ref l, .int 0 0] })
      (o := { cls := .type "enumerate", data := .fields #[.none, .bool false, .ref s.heap.objs.size, rawInt 0, .none, .none] }) rfl
    rw [hz] at this; exact this
  refine ⟨⟨_, he, rfl⟩, h _ he ⟨_, Heap.get?_push_of_some _ (Heap.get?_push_size _ rfl), rfl, rfl⟩ (by rw [Heap.size_push, hz]) fun b o x => Heap.get?_push_of_some _ (Heap.get?_push_of_some _ x)⟩
/-- the tuple at a, each item in a new pair -/
def IteT (K : PySem.W.Frag) (a : Addr) : It :=
  ⟨fun i H => ∃ (xs : List V) (x : V), SqT K H a xs ∧ xs[i]? = some x, fun i H v H' => ∃ T x, v = .ref T ∧ H T = none ∧ H' = upd H T (.tup [.int (i : Nat), x]) ∧ ∀ xs, SqT K H a xs → xs[i]? = some x, fun i H => ∃ xs : List V, SqT K H a xs ∧ xs.length ≤ i⟩
theorem turn_enumT {P : Program} {w : World} {K : PySem.W.Frag} {elts : List Expr} {kk : Nat} {tpos : Pos} (a e it : Addr) :
    Turn P w K (.Tuple elts kk tpos) (IteT K a) [e, it] e (fun i h => (∃ old, IsEnum h e it ((i : Nat) : Int) old) ∧ h.IsTupleIter it a i ∧ e ≠ it ∧ a ≠ e ∧ a ≠ it) where
  mem := by simp
  obj := fun i h st b hb => by
    obtain ⟨⟨old, he⟩, ⟨o, ho, hc, hd⟩, _⟩ := st
    have e' : b = e ∨ b = it := by simpa using hb
    rcases e' with z | z
    · rw [z]; exact ⟨_, he, fun v q => nomatch q⟩
    · rw [z]; exact ⟨o, ho, fun v q => by rw [hd] at q; cases q⟩
  keep := fun i h h' st k => let ⟨⟨old, he⟩, hi, hne⟩ := st; ⟨⟨old, k e (by simp) _ he⟩, hi.at fun o q => k it (by simp) o q, hne⟩
  item := by
    intro X hP hw hK hc i pins s σ H E I hf st hg
    subst hP hw hK
    obtain ⟨⟨old, he⟩, hit, hne, hae, hai⟩ := st
    obtain ⟨xs, x, hq, hx⟩ := hg
    obtain ⟨its, rv, p, hz⟩ := I.tuple hq
    obtain ⟨u, hu, ru⟩ := rv.get hx
    have hel : e < s.heap.objs.size := Heap.lt_size he
    have hil : it < s.heap.objs.size := by obtain ⟨_, q, _⟩ := hit; exact Heap.lt_size q
    have p0 : s.heap.IsTuple a its.toArray := p
    have hin : i < its.toArray.size := by rw [List.size_toArray]; exact (List.getElem?_eq_some_iff.mp hu).1
    refine wpAny_pyNext_enum_itemD (Draws.tuple (A := X.A.in1) (I.ok.hd hc) it a hai its.toArray) he ⟨hit, p0⟩ hin hne (by simp only [List.mem_cons, List.not_mem_nil, or_false, not_or]; exact ⟨hne, Ne.symm hae⟩) fun y h' tk hy ho hst hT hsz hk => ?_
    have ey : y = u := by
      have : its.toArray[i]? = some u := by simpa using hu
      rw [this] at hy
      exact (Option.some.inj hy).symm
    subst ey
    obtain ⟨hit', _⟩ := hst
    refine ⟨_, rfl, wpAny_letOwnedTupleGo_enum (s := { s with heap := h', toks := tk + 1 }) ho fun h'' he' sb => ?_⟩
    have hT2 : h''.get? s.heap.objs.size = some { cls := .type "tuple", data := .seq #[.int i tk, y] } := (sb.2 _ (Nat.ne_of_gt hel)).trans hT
    have new : ObjOk X.prog X.w (upd H s.heap.objs.size (.tup [.int (i : Nat), x])) h'' s.heap.objs.size (.tup [.int (i : Nat), x]) :=
      ⟨by show 2 ≤ sizeLine; decide, [.int i tk, y], .cons ⟨_, rfl⟩ (.cons ru .nil), ⟨_, hT2, rfl, _, rfl⟩⟩
    have I1 : Inv X pins σ (upd H s.heap.objs.size (.tup [.int (i : Nat), x])) { s with heap := h'', toks := tk + 1 } :=
      I.turnedNew (ch := [e, it]) (fun b ob hb q => (sb.2 b (fun z => hb (by simp [z]))).trans (hk b ob (fun z => hb (by simp [z])) (fun z => hb (by simp [z])) q)) hf (Nat.le_refl _) new
    refine ⟨.ref s.heap.objs.size, _, I1, rfl, ⟨_, x, rfl, I.hok.fresh (Nat.le_refl _), rfl, fun ys hy => by rw [I.tuple_inj hy hq]; exact hx⟩, ⟨⟨y, ?_⟩, hit'.at fun o q => (sb.2 it (Ne.symm hne)).trans q, hne, hae, hai⟩, fun b hb => ?_⟩
    · have e1 : ((i + 1 : Nat) : Int) = (i : Int) + 1 := by omega
      rw [e1]; exact he'
    · have hb' : b < s.heap.objs.size := by
        have e' : b = e ∨ b = it := by simpa using hb
        rcases e' with z | z
        · rw [z]; exact hel
        · rw [z]; exact hil
      rw [upd_ne (Nat.ne_of_lt hb')]
      exact (hf b hb).1
  done := by
    intro X hP hw hK hc i pins s σ H E I hf st hg
    subst hP hw hK
    obtain ⟨⟨old, he⟩, hit, hne, hae, hai⟩ := st
    obtain ⟨xs, hq, hx⟩ := hg
    obtain ⟨its, rv, p, hz⟩ := I.tuple hq
    obtain ⟨f0, f1, f2, f3, f4, f5⟩ := hf it (by simp)
    have hl := rv.length
    have p0 : s.heap.IsTuple a its.toArray := p
    have D := Draws.tuple (prog := X.prog) (w := X.w) (A := X.A.in1) (I.ok.hd hc) it a hai its.toArray
    have hT : s.TypeIs (.ref e) "enumerate" := ⟨_, he, rfl⟩
    unfold pyNext
    refine wpAny_bind (wpAny_attempt (wpAny_callSpecial?_slot (name := Str.ofString "__next__") hT F.slot_enumerate_next
      (wpAny_call_entry F.slot_enumerate_next hT F.entry_enumerate_next ?_ (F.args_enumerate_next_1 _))))
    show wpAny _ _ (field (.ref e) 2 >>= _) _ _ _
    refine wpAny_bind (wpAny_field he rfl (x := .ref it) rfl ?_)
    refine wpAny_bind (wpAny_nextOf_tuple_end (A := X.A.in1) (I.ok.hd hc) hit p0 (by simp; omega) fun h' x he' hx' => ?_)
    obtain ⟨o, ho, hc'⟩ := hx'
    refine wpAny_bind (wpAny_isInstance (T := "StopIteration") (b := true) ⟨o, ho, hc'⟩ isSubtype_stop ?_)
    exact wpAny_pure ⟨rfl, I.turned (t' := s.toks) (fun b o hb q => he' b o hb q) f0 f1 f3 f4 f5⟩
  self := fun A i s Q E st h => let ⟨⟨_, he⟩, _⟩ := st; wpAny_pyIter_enum he h
def iEnumA (K : PySem.W.Frag) (te : TE) : TI := fun σ H R => te σ H fun v H1 => ∃ (a : Addr) (xs : List V), v = .ref a ∧ ((SqL K H1 a xs ∧ R (Ite K a) H1) ∨ (SqT K H1 a xs ∧ R (IteT K a) H1))
theorem pi_enumA {X : Cx} {e : Expr} {te : TE} {p pos tpos : Pos} {elts : List Expr} {kk : Nat} (hg : Gl X "enumerate") (hm : X.mg "enumerate" = none) (he : PE X e te) (hs : starEach [e] X.env = (false, eval e X.env) :: starEach [] X.env := by rfl) :
    PI X (.Tuple elts kk tpos) (.Call (.Name "enumerate" p) [e] [] pos) (iEnumA X.K te) := by
  refine ⟨fun pins s σ H R I h => ?_⟩
  refine Call_ (ld_blt I hg hm boot_enumerate (PyProof.Rows.callWith_type1 (args_cons (thn (he.run pins s σ H _ I h) fun u s1 ⟨v, H1, I1, r1, q1⟩ => args_nil ?_) hs) hs rfl))
  obtain ⟨a, xs, ev, q⟩ := q1
  subst ev
  obtain rfl : u = Value.ref a := r1
  have hfp : ∀ b ∈ [s1.heap.objs.size + 1, s1.heap.objs.size], s1.heap.objs.size ≤ b := fun b hb => by
    have e' : b = s1.heap.objs.size + 1 ∨ b = s1.heap.objs.size := by simpa using hb
    rcases e' with z | z
    · rw [z]; exact Nat.le_add_right _ _
    · rw [z]; exact Nat.le_refl _
  rcases q with ⟨hq, q⟩ | ⟨hq, q⟩
  · obtain ⟨its, rv, p', hz⟩ := I1.list hq
    refine call_enumerate_list p'.isList fun h' he hit hsz hk => wpAny_pyIter_enum he ?_
    have I2 : Inv X pins σ H1 { s1 with heap := h' } := I1.kept (t' := s1.toks) hk
    exact ⟨s1.heap.objs.size + 1, [s1.heap.objs.size + 1, s1.heap.objs.size], _, _, H1, rfl, I2, turn_enum a (s1.heap.objs.size + 1) s1.heap.objs.size, ⟨⟨.none, he⟩, hit, Nat.succ_ne_self _⟩, fun b hb => I1.fpOk (hfp b hb) (I1.hok.fresh (hfp b hb)), q⟩
  · obtain ⟨its, rv, p', hz⟩ := I1.tuple hq
    have p0 : s1.heap.IsTuple a its.toArray := p'
    have hal : a < s1.heap.objs.size := by obtain ⟨_, q, _⟩ := p0; exact Heap.lt_size q
    refine call_enumerate_tup p0 fun h' he hit hsz hk => wpAny_pyIter_enum he ?_
    have I2 : Inv X pins σ H1 { s1 with heap := h' } := I1.kept (t' := s1.toks) hk
    exact ⟨s1.heap.objs.size + 1, [s1.heap.objs.size + 1, s1.heap.objs.size], _, _, H1, rfl, I2, turn_enumT a (s1.heap.objs.size + 1) s1.heap.objs.size, ⟨⟨.none, he⟩, hit, Nat.succ_ne_self _, Nat.ne_of_lt (Nat.lt_succ_of_lt hal), Nat.ne_of_lt hal⟩, fun b hb => I1.fpOk (hfp b hb) (I1.hok.fresh (hfp b hb)), q⟩
end Vx

/-! VExt2: list(reversed(..)), enumerate, zip. -/
namespace Vx
open PySem PySem.Spec L2
section
variable {X : Cx} {W : WXc} {ρ : Bool} {Γ Γ' Γ'' ΓL : List Bool} {e a b : Expr} {es : List Expr} {s : Stmt} {ss : List Stmt} {f fa fb fc : FE} {x : Str} {pos p : Pos} {g1 g2 : FS}
variable {K : PySem.W.Frag} {N N' T : Addr → Prop} {α α' : List Addr} {H H' : Hp} {c c' : Cz} {sl : Sl} {st st' : Sto} {σ : St}
theorem sf_listRev {p2 pos2 : Pos} (hm : X.mg "list" = none) (hm2 : X.mg "reversed" = none) (ha : SB X W Γ a fa) (hc : X.calm = true := by rfl) (hg : Gl X "list" := by rfl) (hg2 : Gl X "reversed" := by rfl) (hs : starEach [a] X.env = (false, eval a X.env) :: starEach [] X.env := by rfl)
    (hs2 : starEach [.Call (.Name "reversed" p2) [a] [] pos2] X.env = (false, eval (.Call (.Name "reversed" p2) [a] [] pos2) X.env) :: starEach [] X.env := by rfl) :
    SF X W Γ (.Call (.Name "list" p) [.Call (.Name "reversed" p2) [a] [] pos2] [] pos) (mUn gListRev fa) := by
  intro c sl st α σ H Q R h
  refine ⟨_, pe_listRev hc hg hm hg2 hm2 pe_wp hs hs2, ?_⟩
  refine ha c sl st α σ H _ R ((Vx.R.sat_bind.mp h).imp (fun x s1 hx vx α1 H1 R1 S1 r1 => ?_) fun _ _ z => z)
  cases x with
  | lst xs =>
    obtain ⟨q, vs, rfl, hs, r⟩ := r1.lst
    have hx' : PQf X.K c Γ sl α σ H Q (.lst xs.reverse) s1 := hx
    exact ⟨q, vs, rfl, hs, fun q2 hq2 => PQf.new (o := .lst vs.reverse) hx' R1 S1 (fun _ m => R.sto.tr m) hq2 r.reverse⟩
  | _ => exact False.elim hx
/-! ### enumerate -/
theorem enumD_get {xs : List D} {i : Nat} {d : D} (h : (enumD xs)[i]? = some d) : ∃ x, xs[i]? = some x ∧ d = .tup [.int (i : Nat), x] := by
  unfold enumD at h
  rw [List.getElem?_zipWith] at h
  cases h1 : (List.range xs.length)[i]? with
  | none => rw [h1] at h; cases h
  | some j =>
    cases h2 : xs[i]? with
    | none => rw [h1, h2] at h; cases h
    | some x =>
      rw [h1, h2] at h
      have hj : j = i := by
        have := List.getElem?_eq_some_iff.mp h1
        obtain ⟨hl, e⟩ := this
        rw [List.getElem_range] at e
        exact e.symm
      subst hj
      simp at h
      exact ⟨x, rfl, h.symm⟩
theorem enumD_length (xs : List D) : (enumD xs).length = xs.length := by unfold enumD; simp
theorem yields_enumL {a : Addr} {ds : List D} {vs : List V} (h : (¬ T a ∧ Rd H a (.lst vs)) ∨ KL K a vs) (r : RDs K N α H ds vs) : Yields K N T α H (Ite K a) (enumD ds) := by
  intro N' T' α' H' sT sN hN
  have hq : SqL K H' a vs := by
    rcases h with ⟨n, h⟩ | h
    · exact sqL_of (sT.rd n h).1
    · exact h.sq
  have r' := r.step sN
  refine ⟨fun i d hd => ?_, fun i hi => ⟨vs, hq, by rw [← r.length]; rw [enumD_length] at hi; exact hi⟩⟩
  obtain ⟨x, hx, rfl⟩ := enumD_get hd
  obtain ⟨v, h1, h2⟩ := r'.get hx
  refine ⟨⟨vs, v, hq, h1⟩, fun y H'' hy => ?_⟩
  obtain ⟨t, z, rfl, ht, rfl, hz⟩ := hy
  have := hz vs hq
  rw [h1] at this
  cases this
  have G : Same H' (upd H' t (.tup [.int (i : Nat), v])) := same_upd ht
  exact ⟨G, .tup (fun z => hN t z ht) (.of upd_same) (.cons (.int _) (.cons (h2.step (.grow G)) .nil))⟩
theorem yields_enumT {a : Addr} {ds : List D} {vs : List V} (n : ¬ N a) (h : Rd H a (.tup vs)) (r : RDs K N α H ds vs) : Yields K N T α H (IteT K a) (enumD ds) := by
  intro N' T' α' H' sT sN hN
  have hq : SqT K H' a vs := sqT_of (sN.rd n h).1
  have r' := r.step sN
  refine ⟨fun i d hd => ?_, fun i hi => ⟨vs, hq, by rw [← r.length]; rw [enumD_length] at hi; exact hi⟩⟩
  obtain ⟨x, hx, rfl⟩ := enumD_get hd
  obtain ⟨v, h1, h2⟩ := r'.get hx
  refine ⟨⟨vs, v, hq, h1⟩, fun y H'' hy => ?_⟩
  obtain ⟨t, z, rfl, ht, rfl, hz⟩ := hy
  have := hz vs hq
  rw [h1] at this
  cases this
  have G : Same H' (upd H' t (.tup [.int (i : Nat), v])) := same_upd ht
  exact ⟨G, .tup (fun z => hN t z ht) (.of upd_same) (.cons (.int _) (.cons (h2.step (.grow G)) .nil))⟩
theorem si_enum {elts : List Expr} {kk : Nat} {tpos : Pos} {bb : Bool} (hm : X.mg "enumerate" = none) (ha : SE X W Γ a fa) (hg : Gl X "enumerate" := by rfl) (hs : starEach [a] X.env = (false, eval a X.env) :: starEach [] X.env := by rfl) : SI X W Γ bb (.Tuple elts kk tpos) (.Call (.Name "enumerate" p) [a] [] pos) (itEnum fa) := by
  intro c sl st α σ H R' Rl h
  refine ⟨_, pi_enumA hg hm pe_wp hs, ?_⟩
  refine ha c sl st α σ H _ Rl ((Vx.R.sat_bind.mp h).imp (fun d s1 hd v α1 H1 R1 S1 r1 => ?_) fun _ _ z => z)
  cases d with
  | lst xs =>
    have rb := RB.of (T := if bb then NB c α1 else NN c Γ σ α1) r1 nt_of
    obtain ⟨q, vs, rfl, hq, r⟩ := id rb
    exact ⟨q, vs, rfl, .inl ⟨by rcases hq with ⟨_, hq⟩ | hq; exact sqL_of hq; exact hq.sq, hd _ α1 H1 R1 S1 (yields_enumL hq r)⟩⟩
  | tup xs =>
    cases r1 with
    | tup n hr r => exact ⟨_, _, rfl, .inr ⟨sqT_of hr, hd _ α1 H1 R1 S1 (yields_enumT n hr r)⟩⟩
  | _ => exact False.elim hd
/-! ### zip -/
theorem zipD_get {xs ys : List D} {i : Nat} {d : D} (h : (zipD xs ys)[i]? = some d) : ∃ x y, xs[i]? = some x ∧ ys[i]? = some y ∧ d = .tup [x, y] := by
  unfold zipD at h
  rw [List.getElem?_zipWith] at h
  cases h1 : xs[i]? with
  | none => rw [h1] at h; cases h
  | some x =>
    cases h2 : ys[i]? with
    | none => rw [h1, h2] at h; cases h
    | some y =>
      rw [h1, h2] at h
      simp at h
      exact ⟨x, y, rfl, rfl, h.symm⟩
theorem yields_zip {a b : Addr} {ds es : List D} {vs us : List V} (h : (¬ T a ∧ Rd H a (.lst vs)) ∨ KL K a vs) (r : RDs K N α H ds vs) (h' : (¬ T b ∧ Rd H b (.lst us)) ∨ KL K b us) (rb : RDs K N α H es us) : Yields K N T α H (Itz K a b) (zipD ds es) := by
  intro N' T' α' H' sT sN hN
  have hq : SqL K H' a vs := by
    rcases h with ⟨n, h⟩ | h
    · exact sqL_of (sT.rd n h).1
    · exact h.sq
  have hq2 : SqL K H' b us := by
    rcases h' with ⟨n, h⟩ | h
    · exact sqL_of (sT.rd n h).1
    · exact h.sq
  have r' := r.step sN
  have rb' := rb.step sN
  refine ⟨fun i d hd => ?_, fun i hi => ⟨vs, us, hq, hq2, ?_⟩⟩
  · obtain ⟨x, y, hx, hy, rfl⟩ := zipD_get hd
    obtain ⟨v, h1, h2⟩ := r'.get hx
    obtain ⟨u, h3, h4⟩ := rb'.get hy
    refine ⟨⟨vs, us, v, u, hq, hq2, h1, h3⟩, fun z H'' hz => ?_⟩
    obtain ⟨t, z1, z2, rfl, ht, rfl, e1, e2⟩ := hz
    have e1 := e1 vs hq
    have e2 := e2 us hq2
    rw [h1] at e1
    rw [h3] at e2
    cases e1
    cases e2
    have G : Same H' (upd H' t (.tup [v, u])) := same_upd ht
    exact ⟨G, .tup (fun z => hN t z ht) (.of upd_same) (.cons (h2.step (.grow G)) (.cons (h4.step (.grow G)) .nil))⟩
  · unfold zipD at hi
    rw [List.length_zipWith, r.length, rb.length] at hi
    omega
theorem si_zip {elts : List Expr} {kk : Nat} {tpos : Pos} {bb : Bool} (hm : X.mg "zip" = none) (ha : SE X W Γ a fa) (hb : SE X W Γ b fb) (hg : Gl X "zip" := by rfl) (hs : starEach [a, b] X.env = (false, eval a X.env) :: starEach [b] X.env := by rfl) (hs2 : starEach [b] X.env = (false, eval b X.env) :: starEach [] X.env := by rfl) (hpl : (backTo pos (starEach [b] X.env)).any (·.1) = false := by rfl) :
    SI X W Γ bb (.Tuple elts kk tpos) (.Call (.Name "zip" p) [a, b] [] pos) (itZip fa fb) := by
  intro c sl st α σ H R' Rl h
  refine ⟨_, RZ.pi_zipA hg hm (pa_cons pe_wp (pa_cons pe_wp pa_nil hs2) hs) hs hpl, ?_⟩
  refine ha c sl st α σ H _ Rl ((Vx.R.sat_bind.mp h).imp (fun d s1 hd v α1 H1 R1 S1 r1 => ?_) fun _ _ z => z)
  refine hb c sl s1 α1 σ H1 _ R1 ((Vx.R.sat_bind.mp hd).imp (fun d2 s2 hd2 v2 α2 H2 R2 S2 r2 => ?_) fun _ _ z => z)
  cases d with
  | lst xs =>
    cases d2 with
    | lst ys =>
      have rb := RB.of (T := if bb then NB c α2 else NN c Γ σ α2) (r1.step S2.nn) nt_of
      have rb2 := RB.of (T := if bb then NB c α2 else NN c Γ σ α2) r2 nt_of
      obtain ⟨q, vs, rfl, hq, r⟩ := id rb
      obtain ⟨q2, vs2, rfl, hq2, rr⟩ := id rb2
      exact ⟨q, q2, vs, vs2, rfl, .inl ⟨by rcases hq with ⟨_, hq⟩ | hq; exact sqL_of hq; exact hq.sq, by rcases hq2 with ⟨_, hq⟩ | hq; exact sqL_of hq; exact hq.sq, hd2 _ α2 H2 R2 (S1.trans S2) (yields_zip hq r hq2 rr)⟩⟩
    | _ => exact False.elim hd2
  | _ => exact False.elim hd2
/-! ### reversed(range(n)) -/
theorem yields_revRg {n : Nat} : Yields K N T α H (Itc (0 + ((n : Nat) : Int) - 1) (-1) n) (rgD 0 n).reverse := by
  intro N' T' α' H' sT sN hN
  refine ⟨fun i d hd => ?_, fun i hi => by rw [List.length_reverse, rgD_length] at hi; exact hi⟩
  have hi : i < n := by
    have := (List.getElem?_eq_some_iff.mp hd).1
    rw [List.length_reverse, rgD_length] at this
    exact this
  rw [List.getElem?_reverse (by rw [rgD_length]; exact hi)] at hd
  obtain ⟨h1, rfl⟩ := rgD_get hd
  refine ⟨hi, fun x H'' y => ?_⟩
  obtain ⟨rfl, rfl⟩ := y
  refine ⟨Same.refl _, ?_⟩
  rw [rgD_length]
  have e : (0 : Int) + ((n - 1 - i : Nat) : Int) = 0 + ((n : Nat) : Int) - 1 + (i : Nat) * (-1) := by omega
  rw [e]
  exact .int _
theorem si_revRg {tg : Expr} {bb : Bool} {p2 pos2 : Pos} (hm : X.mg "reversed" = none) (hm2 : X.mg "range" = none) (ha : SE X W Γ a fa) (hg : Gl X "reversed" := by rfl) (hg2 : Gl X "range" := by rfl) (hs : starEach [a] X.env = (false, eval a X.env) :: starEach [] X.env := by rfl)
    (hs2 : starEach [.Call (.Name "range" p2) [a] [] pos2] X.env = (false, eval (.Call (.Name "range" p2) [a] [] pos2) X.env) :: starEach [] X.env := by rfl) : SI X W Γ bb tg (.Call (.Name "reversed" p) [.Call (.Name "range" p2) [a] [] pos2] [] pos) (itRevRg fa) := by
  intro c sl st α σ H R' Rl h
  refine ⟨_, pi_revR hg hm (prg_1 hg2 hm2 pe_wp hs) hs2, ?_⟩
  refine ha c sl st α σ H _ Rl ((Vx.R.sat_bind.mp h).imp (fun d s1 hd v α1 H1 R1 S1 r1 => ?_) fun _ _ z => z)
  cases d with
  | int n =>
    have hd : (if rgOk n = true then R.ok (rgD 0 n.toNat).reverse s1 else R.no : Vx.R _).Sat _ _ := hd
    by_cases hn : rgOk n = true
    · rw [if_pos hn] at hd
      obtain ⟨n1, n2⟩ := rgOk_iff hn
      have ev : v = .int n := by cases r1; rfl
      refine ⟨n, ev, by omega, by omega, n1, n2, ?_⟩
      have e : (n - 0).toNat = n.toNat := by rw [Int.sub_zero]
      rw [e]
      exact hd _ α1 H1 R1 S1 yields_revRg
    · rw [if_neg hn] at hd
      exact False.elim hd
  | _ => exact False.elim hd
end
end Vx

/-! VDic: dicts with keys that are ints or texts. -/
namespace Vx
open PySem PySem.Spec L2
section
variable {X : Cx} {W : WXc} {ρ : Bool} {Γ Γ' Γ'' ΓL : List Bool} {e a b : Expr} {es : List Expr} {s : Stmt} {ss : List Stmt} {f fa fb fc : FE} {x : Str} {pos p : Pos} {g1 g2 : FS}
variable {K : PySem.W.Frag} {N N' T : Addr → Prop} {α α' : List Addr} {H H' : Hp} {c c' : Cz} {sl : Sl} {st st' : Sto} {σ : St}
theorem lt65 {n : Nat} (h : n + 65 < cLine) : n + 1 < cLine := Nat.lt_of_le_of_lt (by omega) h
/-! ### keys -/
theorem key_of {d : D} {v : V} (h : isKey d = true) (r : RB K N T α H d v) : ∃ k, RKey d k ∧ v = kV k := by
  cases d with
  | int i => exact ⟨.inl i, .int i, by cases (show RD K N α H _ v from r); rfl⟩
  | str i => exact ⟨.inr i, .str i, by cases (show RD K N α H _ v from r); rfl⟩
  | _ => cases h
theorem keyE_iff {d e : D} {k l : Key} (h : RKey d k) (h' : RKey e l) : keyE d e = decide (k = l) := by
  cases h with
  | int i =>
    cases h' with
    | int j => show (i == j) = _; exact Bool.eq_iff_iff.mpr (by simp)
    | str y => rfl
  | str x =>
    cases h' with
    | int j => rfl
    | str y => show (x == y) = _; exact Bool.eq_iff_iff.mpr (by simp)
theorem key_rd {d : D} {k : Key} (h : RKey d k) : RD K N α H d (kV k) := by
  cases h with
  | int i => exact .int i
  | str i => exact .str i
theorem RKs.get {ds : List (D × D)} {vs : List (Key × V)} {d : D} {k : Key} (r : RKs K N α H ds vs) (hk : RKey d k) : (dgetL ds d = none ∧ valV vs k = none) ∨ ∃ e v, dgetL ds d = some e ∧ valV vs k = some v ∧ RD K N α H e v := by
  induction ds generalizing vs with
  | nil => cases r; exact .inl ⟨rfl, rfl⟩
  | cons p ds ih =>
    cases r with
    | cons hk' rd rest =>
      have he := keyE_iff hk' hk
      unfold dgetL valV
      rw [List.find?_cons, List.find?_cons]
      rename_i d' e' k' v' vs'
      by_cases e : k' = k
      · have : keyE d' d = true := by rw [he]; exact decide_eq_true e
        rw [this]
        have e2 : decide (k' = k) = true := decide_eq_true e
        rw [e2]
        exact .inr ⟨_, _, rfl, rfl, rd⟩
      · have : keyE d' d = false := by rw [he]; exact decide_eq_false e
        rw [this]
        have e2 : decide (k' = k) = false := decide_eq_false e
        rw [e2]
        exact ih rest
theorem RKs.any {ds : List (D × D)} {vs : List (Key × V)} {d : D} {k : Key} (r : RKs K N α H ds vs) (hk : RKey d k) : (ds.any fun p => keyE p.1 d) = vs.any fun kv => decide (kv.1 = k) := by
  induction ds generalizing vs with
  | nil => cases r; rfl
  | cons p ds ih =>
    cases r with
    | cons hk' rd rest =>
      rw [List.any_cons, List.any_cons, ih rest, keyE_iff hk' hk]
theorem RKs.put {ds : List (D × D)} {vs : List (Key × V)} {d e : D} {k : Key} {v : V} (r : RKs K N α H ds vs) (hk : RKey d k) (rv : RD K N α H e v) : RKs K N α H (dputL ds d e) (putK vs k v) := by
  have ha := r.any hk
  unfold dputL putK
  by_cases h : (ds.any fun p => keyE p.1 d) = true
  · rw [if_pos h, if_pos (by rw [← ha]; exact h)]
    clear ha h
    induction ds generalizing vs with
    | nil => cases r; exact .nil
    | cons p ds ih =>
      cases r with
      | cons hk' rd rest =>
        have he := keyE_iff hk' hk
        rename_i d' e' k' v' vs'
        rw [List.map_cons, List.map_cons]
        by_cases e2 : k' = k
        · have : keyE d' d = true := by rw [he]; exact decide_eq_true e2
          rw [if_pos this, if_pos e2]
          exact .cons hk' rv (ih rest)
        · have : ¬ keyE d' d = true := by rw [he]; exact fun z => e2 (of_decide_eq_true z)
          rw [if_neg this, if_neg e2]
          exact .cons hk' rd (ih rest)
  · rw [if_neg h, if_neg (by rw [← ha]; exact h)]
    clear ha h
    induction ds generalizing vs with
    | nil => cases r; exact .cons hk rv .nil
    | cons p ds ih =>
      cases r with
      | cons hk' rd rest => exact .cons hk' rd (ih rest)
theorem RKs.length : ∀ {ds : List (D × D)} {vs : List (Key × V)}, RKs K N α H ds vs → ds.length = vs.length
  | _, _, .nil => rfl
  | _, _, .cons _ _ t => by rw [List.length_cons, List.length_cons, RKs.length t]
theorem RKs.get' : ∀ {ds : List (D × D)} {vs : List (Key × V)} {i : Nat} {p : D × D}, RKs K N α H ds vs → ds[i]? = some p → ∃ k v, vs[i]? = some (k, v) ∧ RKey p.1 k ∧ RD K N α H p.2 v
  | _, _, _, _, .nil, e => by simp at e
  | _, _, 0, _, .cons hk r _, e => by simp at e; subst e; exact ⟨_, _, rfl, hk, r⟩
  | _, _, i + 1, _, .cons _ _ t, e => by
    obtain ⟨k, v, h1, h2⟩ := RKs.get' (i := i) t (by simpa using e)
    exact ⟨k, v, by simpa using h1, h2⟩
theorem RB.dic {ds : List (D × D)} {v : V} (h : RB K N T α H (.dic ds) v) : ∃ a vs, v = .ref a ∧ Rd H a (.dK vs) ∧ RKs K N α H ds vs := by
  obtain ⟨a, vs, e, n, h, r⟩ := h
  exact ⟨a, vs, e, h, r⟩

/-! ### in, [] -/
theorem RKs.isSome {ds : List (D × D)} {vs : List (Key × V)} {d : D} {k : Key} (r : RKs K N α H ds vs) (hk : RKey d k) : (dgetL ds d).isSome = (valV vs k).isSome := by
  rcases r.get hk with ⟨e1, e2⟩ | ⟨e, v, e1, e2, _⟩
  · rw [e1, e2]; rfl
  · rw [e1, e2]; rfl
theorem din_core {g : D → D → Option D} {φ : Bool → Bool} (hg : ∀ k kvs, g k (.dic kvs) = if isKey k = true then some (.bl (φ (dgetL kvs k).isSome)) else none) (hn : ∀ k d, (∀ kvs, d ≠ .dic kvs) → g k d = none)
    (ha : SB X W Γ a fa) (hb : SB X W Γ b fb) {c : Cz} {sl : Sl} {st : Sto} {α : List Addr} {σ : St} {H : Hp} {Q : VK} (R : Rel X.K c Γ sl st α σ H) (h : (mBin g fa fb sl st).Sat (PQ X.K c Γ sl α σ H Q) (PX X.K c Γ sl σ W)) :
    wpE X a σ H fun y H1 => wpE X b σ H1 fun x H2 => ∃ a o, x = .ref a ∧ DGet H2 a y o ∧ Q (.bl (φ o.isSome)) H2 := by
  refine ha c sl st α σ H _ R ((Vx.R.sat_bind.mp h).imp (fun x s1 hx vx α1 H1 R1 S1 d1 => ?_) fun _ _ z => z)
  refine hb c sl s1 α1 σ H1 _ R1 ((Vx.R.sat_bind.mp hx).imp (fun y s2 hy vy α2 H2 R2 S2 d2 => ?_) fun _ _ z => z)
  cases eg : g x y with
  | none => rw [eg] at hy; exact False.elim hy
  | some d =>
    have hd : ∃ kvs, y = .dic kvs := Classical.byContradiction fun z => by rw [hn x y fun kvs e => z ⟨kvs, e⟩] at eg; cases eg
    obtain ⟨kvs, rfl⟩ := hd
    rw [hg] at eg
    by_cases hk : isKey x = true
    · rw [if_pos hk] at eg
      cases eg
      rw [hg, if_pos hk] at hy
      obtain ⟨k, rk, rfl⟩ := key_of hk (d1.step S2.nb S2.nn)
      obtain ⟨q, vs, rfl, hq, r⟩ := d2.dic
      refine ⟨q, valV vs k, rfl, .inl ⟨vs, k, hq, rfl, rfl⟩, ?_⟩
      refine hy (.bl (φ (valV vs k).isSome)) α2 H2 R2 (S1.trans S2) ?_
      rw [r.isSome rk]
      exact .bl _
    · rw [if_neg hk] at eg
      cases eg
theorem gDIn_n : ∀ k d, (∀ kvs, d ≠ .dic kvs) → gDIn k d = none := fun k d h => by cases d <;> first | rfl | exact absurd rfl (h _)
theorem gDNotIn_n : ∀ k d, (∀ kvs, d ≠ .dic kvs) → gDNotIn k d = none := fun k d h => by cases d <;> first | rfl | exact absurd rfl (h _)
theorem se_din (hu : X.A.units + 1 < cLine) (ha : SB X W Γ a fa) (hb : SB X W Γ b fb) (hm : behindInMarks .In b = false := by first | exact nobehind _ (by decide) (by decide) | rfl) : SE X W Γ (.Compare a [.In] [b] pos) (mBin gDIn fa fb) :=
  fun c sl st α σ H Q R h => ⟨_, pe_cmp (pc_din hu pe_wp pe_wp) hm, din_core (φ := fun b => b) (fun _ _ => rfl) gDIn_n ha hb R h⟩
theorem se_dnotin (hu : X.A.units + 1 < cLine) (ha : SB X W Γ a fa) (hb : SB X W Γ b fb) (hm : behindInMarks .NotIn b = false := by first | exact nobehind _ (by decide) (by decide) | rfl) : SE X W Γ (.Compare a [.NotIn] [b] pos) (mBin gDNotIn fa fb) :=
  fun c sl st α σ H Q R h => ⟨_, pe_cmp (pc_dnotin hu pe_wp pe_wp) hm, din_core (φ := fun b => !b) (fun _ _ => rfl) gDNotIn_n ha hb R h⟩
theorem gDIn_bl {x y d : D} (h : gDIn x y = some d) : ∃ k, d = .bl k := by
  unfold gDIn at h; split at h
  · split at h <;> cases h; exact ⟨_, rfl⟩
  · cases h
theorem gDNotIn_bl {x y d : D} (h : gDNotIn x y = some d) : ∃ k, d = .bl k := by
  unfold gDNotIn at h; split at h
  · split at h <;> cases h; exact ⟨_, rfl⟩
  · cases h
theorem st_din (hu : X.A.units + 1 < cLine) (ha : SB X W Γ a fa) (hb : SB X W Γ b fb) (hm : behindInMarks .In b = false := by first | exact nobehind _ (by decide) (by decide) | rfl) : ST X W Γ (.Compare a [.In] [b] pos) (mT (mBin gDIn fa fb)) := by
  intro c sl st α σ H Q R h
  refine ⟨_, pt_cmp (pc_din hu pe_wp pe_wp) hm, ?_⟩
  refine din_core (φ := fun b => b) (Q := fun v H => ∃ b, v = V.bl b ∧ Q b H) (fun _ _ => rfl) gDIn_n ha hb R ((Vx.R.sat_bind.mp h).imp (fun d s1 hd v α1 H1 R1 S1 r1 => ?_) fun _ _ z => z)
  cases eg : gBl d with
  | none => rw [eg] at hd; exact False.elim hd
  | some k =>
    rw [eg] at hd
    have ed := gBl_some eg
    subst ed
    exact ⟨k, rd_bl r1, hd α1 H1 R1 S1⟩
theorem st_dnotin (hu : X.A.units + 1 < cLine) (ha : SB X W Γ a fa) (hb : SB X W Γ b fb) (hm : behindInMarks .NotIn b = false := by first | exact nobehind _ (by decide) (by decide) | rfl) : ST X W Γ (.Compare a [.NotIn] [b] pos) (mT (mBin gDNotIn fa fb)) := by
  intro c sl st α σ H Q R h
  refine ⟨_, pt_cmp (pc_dnotin hu pe_wp pe_wp) hm, ?_⟩
  refine din_core (φ := fun b => !b) (Q := fun v H => ∃ b, v = V.bl b ∧ Q b H) (fun _ _ => rfl) gDNotIn_n ha hb R ((Vx.R.sat_bind.mp h).imp (fun d s1 hd v α1 H1 R1 S1 r1 => ?_) fun _ _ z => z)
  cases eg : gBl d with
  | none => rw [eg] at hd; exact False.elim hd
  | some k =>
    rw [eg] at hd
    have ed := gBl_some eg
    subst ed
    exact ⟨k, rd_bl r1, hd α1 H1 R1 S1⟩
/-- d[k] -/
theorem se_dget (hu : X.A.units + 1 < cLine) (ha : SB X W Γ a fa) (hb : SB X W Γ b fb) (hs : NoSl b := by intro _ _; rfl) : SE X W Γ (.Subscript a b pos) (mBin gDGet fa fb) := by
  intro c sl st α σ H Q R h
  refine ⟨_, pe_dget hu pe_wp pe_wp hs, ?_⟩
  refine ha c sl st α σ H _ R ((Vx.R.sat_bind.mp h).imp (fun x s1 hx vx α1 H1 R1 S1 d1 => ?_) fun _ _ z => z)
  refine hb c sl s1 α1 σ H1 _ R1 ((Vx.R.sat_bind.mp hx).imp (fun y s2 hy vy α2 H2 R2 S2 d2 => ?_) fun _ _ z => z)
  cases x with
  | dic kvs =>
    by_cases hk : isKey y = true
    · have hy : (liftO (dgetL kvs y) s2).Sat (PQ X.K c Γ sl α σ H Q) (PX X.K c Γ sl σ W) := by
        have : gDGet (.dic kvs) y = dgetL kvs y := if_pos hk
        rw [← this]; exact hy
      obtain ⟨k, rk, rfl⟩ := key_of hk d2
      obtain ⟨q, vs, rfl, hq, r⟩ := (d1.step S2.nb S2.nn).dic
      rcases r.get rk with ⟨e1, e2⟩ | ⟨e, v, e1, e2, rv⟩
      · rw [e1] at hy; exact False.elim hy
      · rw [e1] at hy
        exact ⟨q, v, rfl, .inl ⟨vs, k, hq, rfl, e2.symm⟩, hy v α2 H2 R2 (S1.trans S2) rv⟩
    · have : gDGet (.dic kvs) y = none := if_neg hk
      rw [this] at hy; exact False.elim hy
  | _ => exact False.elim hy
/-- x[k] = e, x one of the frame's own dicts -/
theorem ss_putD (i : Nat) {p2 : Pos} (hu : X.A.units + 1 < cLine) (ha : SE X W Γ a fa) (hb : SE X W Γ b fb) (hΓ : Γ[i]? = some true := by decide) (hN : X.N[i]? = some x := by rfl) (hv : Vis X.env.scope x := by first | exact Or.inl rfl | exact Or.inr (Or.inl rfl) | exact Or.inr (Or.inr rfl))
    (hd : (x == ("__debug__" : Str)) = false := by decide) (hcd : (x == ("__classdict__" : Str)) = false := by decide) (hs : swapsWithSole [.Subscript (.Name x p2) b p] a pos.line X.env = pure false := by rfl) (hw : swappedStores [.Subscript (.Name x p2) b p] a X.env = pure none := by rfl)
    (h1 : (assignEach [.Subscript (.Name x p2) b p] X.env).map (·.2) = [assign (.Subscript (.Name x p2) b p) X.env] := by rfl)
    (pg : ∀ {t u : TE} {r : TSet}, PE X (.Name x p2) t → PE X b u → PSet X r → PG X (.Subscript (.Name x p2) b p) (L2.gSub t u r) := by intro t u r ht hx hr; exact pg_sub ht hx hr) :
    SS X W ρ ΓL Γ (.Assign [.Subscript (.Name x p2) b p] a pos) (sPutD i fa fb) Γ := by
  intro c sl st α σ H Dn R h
  refine ⟨_, ps_asg pe_wp (pg (pe_var hN hv hd hcd) pe_wp (set_dict hu)) hs hw h1, ?_⟩
  obtain ⟨d, q, o, e0, e1, ho, r, h0, n⟩ := R.own i hΓ
  unfold sPutD at h
  rw [e0] at h
  cases d with
  | dic kvs =>
    cases o with
    | dK vs =>
      refine ha c sl st α σ H _ R ((Vx.R.sat_fl.mp h).imp (fun y s1 hy v α1 H1 R1 S1 r1 => ?_) fun x s1 hx => hx Γ σ)
      refine ⟨.ref q, e1, ?_⟩
      refine hb c sl s1 α1 σ H1 _ R1 ((Vx.R.sat_fl.mp hy).imp (fun z s2 hz w α2 H2 R2 S2 r2 => ?_) fun x s1 hx => hx Γ σ)
      have S12 := S1.trans S2
      by_cases hk : (isKey z && decide (kvs.length < 16777216)) = true
      · rw [if_pos hk] at hz
        rw [Bool.and_eq_true] at hk
        obtain ⟨k, rk, rfl⟩ := key_of (T := fun _ => False) hk.1 (RB.of r2 fun _ z => z.elim)
        have r3 : RKs X.K (NN c Γ σ α) α H kvs vs := r
        have r4 := RKs.step S12.nn r3
        show ∃ a H', V.ref q = .ref a ∧ DPut H2 a (kV k) v H' ∧ Dn.nx σ H'
        refine ⟨q, _, rfl, .inl ⟨vs, k, S12.keep q _ ho fun m => n (.inr m), rfl, by rw [← r4.length, sizeLine_eq]; exact of_decide_eq_true hk.2, rfl⟩, ?_⟩
        obtain ⟨R3, S3⟩ := R2.change (d' := .dic (dputL kvs z y)) (o' := .dK (putK vs k v)) hΓ e1 (r4.put rk (r1.step S2.nn))
        exact hz α2 σ _ R3 (S12.nn.trans S3)
      · rw [if_neg hk] at hz
        exact False.elim hz
    | _ => exact False.elim r
  | _ => exact False.elim h
end
end Vx

/-! VLock: loops over a dict's keys and items, the dict locked the while. -/
namespace Vx
open PySem PySem.Spec L2
section
variable {X : Cx} {W : WXc} {ρ : Bool} {Γ Γ' Γ'' ΓL : List Bool} {e a b : Expr} {es : List Expr} {s : Stmt} {ss : List Stmt} {f fa fb fc : FE} {x : Str} {pos p : Pos} {g1 g2 : FS}
variable {K : PySem.W.Frag} {N N' T : Addr → Prop} {α α' : List Addr} {H H' : Hp} {c c' : Cz} {sl : Sl} {st st' : Sto} {σ : St}
/-! ### the same readings, the dict at a locked or not -/
/-- the dict at a stands as vs, locked or not -/
structure LkEq (a : Addr) (vs : List (Key × V)) (H H' : Hp) : Prop where
  old : Rd H a (.dK vs)
  new : Rd H' a (.dK vs)
  oth : ∀ b, b ≠ a → H' b = H b
theorem dK_inj {a : Addr} {vs ws : List (Key × V)} (h : Rd H a (.dK vs)) (h' : Rd H a (.dK ws)) : ws = vs := by
  rcases h with h | ⟨o, h⟩ <;> rcases h' with h' | ⟨o', h'⟩ <;> rw [h] at h' <;> cases h' <;> rfl
theorem LkEq.rd {a : Addr} {vs : List (Key × V)} (L : LkEq a vs H H') {b : Addr} {u : HO} (hu : ∀ ws o, u ≠ .dK ws ∧ u ≠ .frz o (.dK ws)) (h : Rd H b u) : Rd H' b u := by
  have ne : b ≠ a := fun z => by
    subst z
    rcases L.old with q | ⟨o, q⟩ <;> rcases h with h | ⟨o', h⟩ <;> rw [q] at h <;> cases h
    · exact (hu _ default).1 rfl
    · exact (hu _ _).2 rfl
    · exact (hu _ default).1 rfl
  rcases h with h | ⟨o, h⟩
  · exact .inl ((L.oth b ne).trans h)
  · exact .inr ⟨o, (L.oth b ne).trans h⟩
theorem LkEq.rdK {a : Addr} {vs : List (Key × V)} (L : LkEq a vs H H') {b : Addr} {ws : List (Key × V)} (h : Rd H b (.dK ws)) : Rd H' b (.dK ws) := by
  by_cases e : b = a
  · subst e
    rw [dK_inj L.old h]
    exact L.new
  · rcases h with h | ⟨o, h⟩
    · exact .inl ((L.oth b e).trans h)
    · exact .inr ⟨o, (L.oth b e).trans h⟩
theorem LkEq.rdT {a : Addr} {vs : List (Key × V)} (L : LkEq a vs H H') {b : Addr} {ws : List V} (h : Rd H b (.tup ws)) : Rd H' b (.tup ws) := L.rd (fun _ _ => ⟨(fun z => nomatch z), (fun z => nomatch z)⟩) h
theorem LkEq.rdL {a : Addr} {vs : List (Key × V)} (L : LkEq a vs H H') {b : Addr} {ws : List V} (h : Rd H b (.lst ws)) : Rd H' b (.lst ws) := L.rd (fun _ _ => ⟨(fun z => nomatch z), (fun z => nomatch z)⟩) h
section
variable {aL : Addr} {vL : List (Key × V)}
mutual
theorem RD.lk (L : LkEq aL vL H H') : ∀ {d : D} {v : V}, RD K N α H d v → RD K N α H' d v
  | _, _, .non => .non
  | _, _, .bl b => .bl b
  | _, _, .int i => .int i
  | _, _, .str x => .str x
  | _, _, .tup n h r => .tup n (L.rdT h) (RDs.lk L r)
  | _, _, .lst n h r => .lst n (L.rdL h) (RDs.lk L r)
  | _, _, .lstK h r => .lstK h (RDs.lk L r)
  | _, _, .dic n h r => .dic n (L.rdK h) (RKs.lk L r)
  | _, _, .obj h => .obj h
theorem RDs.lk (L : LkEq aL vL H H') : ∀ {d : List D} {v : List V}, RDs K N α H d v → RDs K N α H' d v
  | _, _, .nil => .nil
  | _, _, .cons r t => .cons (RD.lk L r) (RDs.lk L t)
theorem RKs.lk (L : LkEq aL vL H H') : ∀ {d : List (D × D)} {v : List (Key × V)}, RKs K N α H d v → RKs K N α H' d v
  | _, _, .nil => .nil
  | _, _, .cons k r t => .cons k (RD.lk L r) (RKs.lk L t)
end
end
theorem ROb.lk {a : Addr} {vs : List (Key × V)} (L : LkEq a vs H H') {d : D} {o : HO} (h : ROb K N α H d o) : ROb K N α H' d o := by
  cases d <;> cases o <;> first | exact RDs.lk L h | exact RKs.lk L h | exact False.elim h
/-- the call's constants, with another thing at a -/
def Cz.lk (c : Cz) (a : Addr) (o : HO) : Cz := { c with H0 := upd c.H0 a o }
theorem nn_lk {a : Addr} {o : HO} {b : Addr} : NN (c.lk a o) Γ σ α b ↔ NN c Γ σ α b := Iff.rfl
theorem Rel.lock {a : Addr} {vs : List (Key × V)} {od : Obj} (R : Rel K c Γ sl st α σ H) (n : ¬ NN c Γ σ α a) (h : H a = some (.dK vs)) : Rel K (c.lk a (.frz od (.dK vs))) Γ sl st α σ (upd H a (.frz od (.dK vs))) := by
  have L : LkEq a vs H (upd H a (.frz od (.dK vs))) := ⟨.inl h, .inr ⟨od, upd_same⟩, fun b e => upd_ne e⟩
  have na : a ∉ α := fun m => n (.inl (.inr m))
  have nz : ∀ b, H b ≠ none → (upd H a (.frz od (.dK vs))) b ≠ none := fun b hb => by
    by_cases e : b = a
    · rw [e, upd_same]; exact fun z => nomatch z
    · rw [upd_ne e]; exact hb
  refine ⟨R.len, fun i d h1 h2 => ?_, fun i h1 => ?_, R.dist, ⟨R.sto.len, R.sto.nd, fun m ob b e1 e2 => ?_⟩, fun b hb => nz b (R.bt b hb), R.αB, R.αn, fun b m => ?_, fun b o e m => ?_⟩
  · obtain ⟨v, q1, q2⟩ := R.val i d h1 h2
    exact ⟨v, q1, q2.lk L⟩
  · obtain ⟨d, b, o, q1, q2, q3, q4, q5, q6⟩ := R.own i h1
    have ne : b ≠ a := fun z => n (.inr ⟨i, h1, by rw [← z]; exact q2⟩)
    refine ⟨d, b, o, q1, q2, by rw [upd_ne ne]; exact q3, q4.lk L, ?_, q6⟩
    show upd c.H0 a _ b = none
    rw [upd_ne ne]; exact q5
  · have hb : b ≠ a := fun z => na (z ▸ List.mem_of_getElem? e2)
    have q := R.sto.ob m ob b e1 e2
    cases ob with
    | ins C fs => obtain ⟨dx, fs', h1, h2, h3⟩ := q; exact ⟨dx, fs', by rw [upd_ne hb]; exact h1, h2, h3.lk L⟩
    | lst ds => obtain ⟨vs', h1, h2⟩ := q; exact ⟨vs', by rw [upd_ne hb]; exact h1, h2.lk L⟩
    | dic ds => obtain ⟨vs', h1, h2⟩ := q; exact ⟨vs', by rw [upd_ne hb]; exact h1, h2.lk L⟩
  · rcases R.αf b m with z | z
    · exact .inl z
    · right
      show upd c.H0 a _ b = none
      rw [upd_ne (fun e => na (by rw [← e]; exact m))]; exact z
  · have e : upd c.H0 a (.frz od (.dK vs)) b = some o := e
    by_cases eb : b = a
    · rw [eb, upd_same] at e ⊢; exact e
    · rw [upd_ne eb] at e ⊢
      exact R.fr b o e m
theorem Rel.locked {a : Addr} {vs : List (Key × V)} {od : Obj} (R : Rel K (c.lk a (.frz od (.dK vs))) Γ sl st α σ H) (na : a ∉ c.α0) : H a = some (.frz od (.dK vs)) :=
  R.fr a _ (show upd c.H0 a _ a = some _ from upd_same) na
theorem Rel.unlock {a : Addr} {vs : List (Key × V)} {od : Obj} (R : Rel K (c.lk a (.frz od (.dK vs))) Γ sl st α σ H) (na : a ∉ c.α0) (hc : ∀ o, c.H0 a = some o → o = .dK vs) : Rel K c Γ sl st α σ (upd H a (.dK vs)) := by
  have h := R.locked na
  have L : LkEq a vs H (upd H a (.dK vs)) := ⟨.inr ⟨od, h⟩, .inl upd_same, fun b e => upd_ne e⟩
  have naα : a ∉ α := fun m => by
    rcases R.αf a m with z | z
    · exact na z
    · rw [show (c.lk a (.frz od (.dK vs))).H0 a = some (.frz od (.dK vs)) from upd_same] at z
      cases z
  have nz : ∀ b, H b ≠ none → (upd H a (.dK vs)) b ≠ none := fun b hb => by
    by_cases e : b = a
    · rw [e, upd_same]; exact fun z => nomatch z
    · rw [upd_ne e]; exact hb
  refine ⟨R.len, fun i d h1 h2 => ?_, fun i h1 => ?_, R.dist, ⟨R.sto.len, R.sto.nd, fun m ob b e1 e2 => ?_⟩, fun b hb => nz b (R.bt b hb), R.αB, R.αn, fun b m => ?_, fun b o e m => ?_⟩
  · obtain ⟨v, q1, q2⟩ := R.val i d h1 h2
    exact ⟨v, q1, q2.lk L⟩
  · obtain ⟨d, b, o, q1, q2, q3, q4, q5, q6⟩ := R.own i h1
    have ne : b ≠ a := fun z => by
      rw [z, show (c.lk a (.frz od (.dK vs))).H0 a = some (.frz od (.dK vs)) from upd_same] at q5
      cases q5
    refine ⟨d, b, o, q1, q2, by rw [upd_ne ne]; exact q3, q4.lk L, ?_, q6⟩
    have q5 : upd c.H0 a (.frz od (.dK vs)) b = none := q5
    rw [upd_ne ne] at q5; exact q5
  · have hb : b ≠ a := fun z => naα (z ▸ List.mem_of_getElem? e2)
    have q := R.sto.ob m ob b e1 e2
    cases ob with
    | ins C fs => obtain ⟨dx, fs', h1, h2, h3⟩ := q; exact ⟨dx, fs', by rw [upd_ne hb]; exact h1, h2, h3.lk L⟩
    | lst ds => obtain ⟨vs', h1, h2⟩ := q; exact ⟨vs', by rw [upd_ne hb]; exact h1, h2.lk L⟩
    | dic ds => obtain ⟨vs', h1, h2⟩ := q; exact ⟨vs', by rw [upd_ne hb]; exact h1, h2.lk L⟩
  · rcases R.αf b m with z | z
    · exact .inl z
    · right
      have z : upd c.H0 a (.frz od (.dK vs)) b = none := z
      rw [upd_ne (fun e => naα (by rw [← e]; exact m))] at z; exact z
  · by_cases eb : b = a
    · rw [eb] at e ⊢
      rw [upd_same, hc o e]
    · rw [upd_ne eb]
      refine R.fr b o ?_ m
      show upd c.H0 a _ b = some o
      rw [upd_ne eb]; exact e
/-! ### a loop, from its iterator on -/
theorem for_core {tg : Expr} {body : List Stmt} {is : List Nat} {g : D → Sl → Option Sl} {fb : FS} {J : It} {ds : List D} {Dn : Ends} (hg : SG X tg is g) (hb : SSs X W ρ Γ Γ body fb Γ) (hΓ : ∀ i ∈ is, Γ[i]? ≠ some true)
    (R : Rel X.K c Γ sl st α σ H) (hJ : Yields X.K (NN c Γ σ α) (NN c Γ σ α) α H J ds) (h : FQ X.K W ρ ΓL c Γ α σ H Dn Γ (forD g fb ds sl st)) :
    ∃ W' : Nat → Nat → St → Hp → Prop, (∃ m, W' 0 m σ H) ∧ ∀ i m σ H, W' i m σ H →
      (J.stop i H ∧ Dn.nx σ H) ∨ (J.go i H ∧ ∃ N : St → Hp → Prop, (∀ σ' H', N σ' H' → ∃ m', m' < m ∧ W' (i + 1) m' σ' H') ∧ ∀ x H', J.yld i H x H' → wpG X tg x σ H' fun σ2 H2 => wpB X body { Dn with nx := N, ct := N, bk := Dn.nx } σ2 H2) := by
  refine ⟨fun i m σ' H' => m = ds.length - i ∧ ∃ sl' st' α', Rel X.K c Γ sl' st' α' σ' H' ∧ Stp (NN c Γ σ α) α H (NN c Γ σ' α') α' H' ∧ FQ X.K W ρ ΓL c Γ α' σ' H' Dn Γ (forD g fb (ds.drop i) sl' st'), ⟨ds.length, by simp, sl, st, α, R, .refl, h⟩, ?_⟩
  rintro i m σ2 H2 ⟨rfl, sl2, st2, α2, R2, S2, q2⟩
  obtain ⟨y1, y2⟩ := hJ _ _ α2 H2 S2 S2 R2.nn
  by_cases hlt : i < ds.length
  · have hd' : ds[i]? = some ds[i] := List.getElem?_eq_getElem hlt
    obtain ⟨go, yl⟩ := y1 i _ hd'
    rw [List.drop_eq_getElem_cons hlt] at q2
    refine .inr ⟨go, fun σ' H' => ∃ sl' st' α', Rel X.K c Γ sl' st' α' σ' H' ∧ Stp (NN c Γ σ α) α H (NN c Γ σ' α') α' H' ∧ FQ X.K W ρ ΓL c Γ α' σ' H' Dn Γ (forD g fb (ds.drop (i + 1)) sl' st'), ?_, ?_⟩
    · rintro σ' H' ⟨sl', st', α', h1, h2, h3⟩
      exact ⟨_, by omega, rfl, sl', st', α', h1, h2, h3⟩
    · intro x H3 hy
      obtain ⟨G, rx⟩ := yl x H3 hy
      have R3 := R2.grow G
      unfold forD at q2
      cases eg : g ds[i] sl2 with
      | none => rw [eg] at q2; exact False.elim q2
      | some l1 =>
        rw [eg] at q2
        refine hg c Γ sl2 st2 α2 σ2 H3 _ x l1 _ hΓ R3 rx eg fun σ4 R4 hl _ _ => ?_
        have S4 : Stp (NN c Γ σ2 α2) α2 H2 (NN c Γ σ4 α2) α2 H3 := (Stp.grow G).trans (stp_loc hl)
        refine hb c l1 st2 α2 σ4 H3 _ R4 (loop_body (c0 := c) (FQ.from S4 q2).sat fun l s hq α' σ' H' R' S' => ?_)
        exact ⟨l, s, α', R', S2.trans (S4.trans S'), FQ.from S' hq⟩
  · have hge : ds.length ≤ i := Nat.le_of_not_lt hlt
    rw [List.drop_eq_nil_iff.mpr hge] at q2
    exact .inl ⟨y2 i hge, q2 α2 σ2 H2 R2 .refl⟩
/-! ### what a locked dict yields -/
theorem yields_keys {a : Addr} {o : Obj} {ds : List (D × D)} {vs : List (Key × V)} (n : ¬ N a) (h : H a = some (.frz o (.dK vs))) (r : RKs K N α H ds vs) : Yields K N N α H (Itk a o vs) (ds.map (·.1)) := by
  intro N' T' α' H' sT sN hN
  have hq := (sN.keep a _ h n).1
  have r' := RKs.step sN r
  refine ⟨fun i d hd => ?_, fun i hi => ⟨hq, by rw [← r.length]; simpa using hi⟩⟩
  rw [List.getElem?_map] at hd
  cases q : ds[i]? with
  | none => rw [q] at hd; cases hd
  | some p =>
    rw [q] at hd
    cases hd
    obtain ⟨k, v, h1, h2, h3⟩ := r'.get' q
    refine ⟨⟨hq, (List.getElem?_eq_some_iff.mp h1).1⟩, fun y H'' hy => ?_⟩
    obtain ⟨rfl, k', v', e1, rfl⟩ := hy
    rw [h1] at e1
    cases e1
    exact ⟨Same.refl _, key_rd h2⟩
theorem yields_items {a : Addr} {o : Obj} {ds : List (D × D)} {vs : List (Key × V)} (n : ¬ N a) (h : H a = some (.frz o (.dK vs))) (r : RKs K N α H ds vs) : Yields K N N α H (Iti a o vs) (ds.map fun p => .tup [p.1, p.2]) := by
  intro N' T' α' H' sT sN hN
  have hq := (sN.keep a _ h n).1
  have r' := RKs.step sN r
  refine ⟨fun i d hd => ?_, fun i hi => ⟨hq, by rw [← r.length]; simpa using hi⟩⟩
  rw [List.getElem?_map] at hd
  cases q : ds[i]? with
  | none => rw [q] at hd; cases hd
  | some p =>
    rw [q] at hd
    cases hd
    obtain ⟨k, v, h1, h2, h3⟩ := r'.get' q
    refine ⟨⟨hq, (List.getElem?_eq_some_iff.mp h1).1⟩, fun y H'' hy => ?_⟩
    obtain ⟨t, k', v', e1, rfl, ht, rfl⟩ := hy
    rw [h1] at e1
    cases e1
    have G : Same H' (upd H' t (.tup [kV k, v])) := same_upd ht
    exact ⟨G, .tup (fun z => hN t z ht) (.of upd_same) (.cons (key_rd h2) (.cons (h3.step (.grow G)) .nil))⟩
/-- the loop's ends, under the lock -/
theorem FQ.lock {a : Addr} {vs : List (Key × V)} {od : Obj} {Dn : Ends} {r : Fl} (R : Rel K c Γ sl st α σ H) (n : ¬ NN c Γ σ α a) (h : H a = some (.dK vs)) (q : FQ K W ρ ΓL c Γ α σ H Dn Γ r.nox) :
    FQ K W ρ ΓL (c.lk a (.frz od (.dK vs))) Γ α σ (upd H a (.frz od (.dK vs))) ⟨fun σ' H' => H' a = some (.frz od (.dK vs)) ∧ Dn.nx σ' (upd H' a (.dK vs)), fun v H' => H' a = some (.frz od (.dK vs)) ∧ Dn.rt v (upd H' a (.dK vs)), fun σ' H' => H' a = some (.frz od (.dK vs)) ∧ Dn.bk σ' (upd H' a (.dK vs)), fun σ' H' => H' a = some (.frz od (.dK vs)) ∧ Dn.ct σ' (upd H' a (.dK vs))⟩ Γ r := by
  have na : a ∉ c.α0 := fun m => by
    obtain ⟨t, e⟩ := R.αn
    exact n (.inl (.inr (by rw [e]; exact List.mem_append_left _ m)))
  have hc : ∀ o, c.H0 a = some o → o = .dK vs := fun o e => by
    have := R.fr a o e na
    rw [h] at this
    cases this
    rfl
  have pf : ∀ {k : St → Hp → Prop} {Γ' : List Bool} {l : Sl} {s : Sto}, PF K c Γ α σ H k Γ' l s → PF K (c.lk a (.frz od (.dK vs))) Γ α σ (upd H a (.frz od (.dK vs))) (fun σ' H' => H' a = some (.frz od (.dK vs)) ∧ k σ' (upd H' a (.dK vs))) Γ' l s := by
    intro k Γ' l s hk α' σ' H' R' S'
    have hl := R'.locked na
    refine ⟨hl, hk α' σ' _ (R'.unlock na hc) ⟨S'.pre, fun b o e nb => ?_⟩⟩
    by_cases eb : b = a
    · rw [eb] at e ⊢
      rw [h] at e
      cases e
      rw [upd_same]
      exact ⟨rfl, (S'.keep a _ upd_same n).2⟩
    · obtain ⟨z1, z2⟩ := S'.keep b o (by rw [upd_ne eb]; exact e) nb
      exact ⟨by rw [upd_ne eb]; exact z1, z2⟩
  cases r with
  | nx l s => exact pf q
  | bk l s => exact pf q
  | ct l s => exact pf q
  | rt d s =>
    have q : PR K c ρ Dn.rt d s := q
    refine ⟨fun Γ'' sl'' σ'' v α' H' R' r' hn => ⟨R'.locked na, ?_⟩, fun hρ Γ'' sl'' σ'' p o α' H' h0 hp R' r' => ?_⟩
    · have hl := R'.locked na
      have L : LkEq a vs H' (upd H' a (.dK vs)) := ⟨.inr ⟨od, hl⟩, .inl upd_same, fun b e => upd_ne e⟩
      exact q.1 Γ'' sl'' σ'' v α' _ (R'.unlock na hc) (r'.lk L) hn
    · have hpa : p ≠ a := fun z => by
        rw [z, show (c.lk a (.frz od (.dK vs))).H0 a = some (.frz od (.dK vs)) from upd_same] at h0
        cases h0
      have R'2 : Rel K ((c.add p).lk a (.frz od (.dK vs))) Γ'' sl'' s α' σ'' H' := R'
      have hl := R'2.locked na
      have L : LkEq a vs H' (upd H' a (.dK vs)) := ⟨.inr ⟨od, hl⟩, .inl upd_same, fun b e => upd_ne e⟩
      refine ⟨hl, q.2 hρ Γ'' sl'' σ'' p o α' _ ?_ (by rw [upd_ne hpa]; exact hp) (R'2.unlock na hc) (r'.lk L)⟩
      have h0 : upd c.H0 a (.frz od (.dK vs)) p = none := h0
      rw [upd_ne hpa] at h0; exact h0
  | ex x l s => exact False.elim q
  | no => exact False.elim q
theorem Fl.nox_sat {r : Fl} {n : Sl → Sto → Prop} {t : D → Sto → Prop} {b c : Sl → Sto → Prop} {E : Ex → Sl → Sto → Prop} (h : r.nox.Sat n t b c E) : r.Sat n t b c E := by
  cases r <;> first | exact h | exact False.elim h
/-- for .. in d.keys(), d at slot i -/
theorem ss_forK (i : Nat) {tg : Expr} {body : List Stmt} {is : List Nat} {g : D → Sl → Option Sl} {fb : FS} {p2 apos cpos : Pos} (hp : PassesOwn (model X.prog X.w) X.A X.env X.xe) (hc : X.calm = true) (hg : SG X tg is g) (hb : SSs X W ρ Γ Γ body fb Γ) (hΓi : Γ[i]? ≠ some true := by decide) (hΓ : ∀ i ∈ is, Γ[i]? ≠ some true := by decide)
    (hN : X.N[i]? = some x := by rfl) (hv : Vis X.env.scope x := by first | exact Or.inl rfl | exact Or.inr (Or.inl rfl) | exact Or.inr (Or.inr rfl))
    (hd : (x == ("__debug__" : Str)) = false := by decide) (hcd : (x == ("__classdict__" : Str)) = false := by decide) (hbase : attributeBase (.Name x p2) "keys" X.env (eval (.Name x p2) X.env) = eval (.Name x p2) X.env := by rfl) (hline : (apos.endLine == cpos.line) = true := by rfl)
    (hs : ∀ y, foldedSetIterable (.Call (.Attribute (.Name x p2) "keys" apos) [] [] cpos) X.env y = pure y := by intro _; rfl) : SS X W ρ ΓL Γ (.For tg (.Call (.Attribute (.Name x p2) "keys" apos) [] [] cpos) body [] pos) (sForN (itKeys i) g fb) Γ := by
  intro c sl st α σ H Dn R h
  have pf := ps_for (body := body) hp hc (pi_keysM (tg := tg) (pe_var hN hv hd hcd) hbase hline) pg_wp pss_wp (pos := pos) hs
  unfold sForN sFor itKeys at h
  cases e0 : sl[i]? with
  | none => rw [e0] at h; exact False.elim h
  | some y =>
    cases y with
    | none => rw [e0] at h; exact False.elim h
    | some d =>
      rw [e0] at h
      cases d with
      | dic ds =>
        have h : FQ X.K W ρ ΓL c Γ α σ H Dn Γ (forD g fb (ds.map (·.1)) sl st).nox := h
        obtain ⟨v, e1, r⟩ := R.val i _ e0 hΓi
        cases r with
        | dic n hrd rk =>
          rename_i a vs
          rcases hrd with hrd | ⟨o, hrd⟩
          · refine ⟨_, ps_lock pf, a, .dK vs, hrd, trivial, fun od => ?_⟩
            have hl : (upd H a (.frz od (.dK vs))) a = some (.frz od (.dK vs)) := upd_same
            have L : LkEq a vs H (upd H a (.frz od (.dK vs))) := ⟨.inl hrd, .inr ⟨od, upd_same⟩, fun b e => upd_ne e⟩
            exact ⟨.ref a, e1, a, od, vs, rfl, hl, for_core hg hb hΓ (R.lock n hrd) (yields_keys n hl (RKs.lk L rk)) (FQ.lock R n hrd h)⟩
          · exact ⟨_, pf, .ref a, e1, a, o, vs, rfl, hrd, for_core hg hb hΓ R (yields_keys n hrd rk) (Fl.nox_sat h)⟩
      | _ => exact False.elim h
/-- for a, b in d.items(), d at slot i -/
theorem ss_forI (i : Nat) {elts : List Expr} {kk : Nat} {tpos : Pos} {body : List Stmt} {is : List Nat} {g : D → Sl → Option Sl} {fb : FS} {p2 apos cpos : Pos} (hp : PassesOwn (model X.prog X.w) X.A X.env X.xe) (hc : X.calm = true) (hg : SG X (.Tuple elts kk tpos) is g) (hb : SSs X W ρ Γ Γ body fb Γ) (hΓi : Γ[i]? ≠ some true := by decide) (hΓ : ∀ i ∈ is, Γ[i]? ≠ some true := by decide)
    (hN : X.N[i]? = some x := by rfl) (hv : Vis X.env.scope x := by first | exact Or.inl rfl | exact Or.inr (Or.inl rfl) | exact Or.inr (Or.inr rfl))
    (hd : (x == ("__debug__" : Str)) = false := by decide) (hcd : (x == ("__classdict__" : Str)) = false := by decide) (hbase : attributeBase (.Name x p2) "items" X.env (eval (.Name x p2) X.env) = eval (.Name x p2) X.env := by rfl) (hline : (apos.endLine == cpos.line) = true := by rfl)
    (hs : ∀ y, foldedSetIterable (.Call (.Attribute (.Name x p2) "items" apos) [] [] cpos) X.env y = pure y := by intro _; rfl) : SS X W ρ ΓL Γ (.For (.Tuple elts kk tpos) (.Call (.Attribute (.Name x p2) "items" apos) [] [] cpos) body [] pos) (sForN (itItems i) g fb) Γ := by
  intro c sl st α σ H Dn R h
  have pf := ps_for (body := body) hp hc (pi_items (elts := elts) (kk := kk) (tpos := tpos) (pe_var hN hv hd hcd) hbase hline) pg_wp pss_wp (pos := pos) hs
  unfold sForN sFor itItems at h
  cases e0 : sl[i]? with
  | none => rw [e0] at h; exact False.elim h
  | some y =>
    cases y with
    | none => rw [e0] at h; exact False.elim h
    | some d =>
      rw [e0] at h
      cases d with
      | dic ds =>
        have h : FQ X.K W ρ ΓL c Γ α σ H Dn Γ (forD g fb (ds.map fun p => .tup [p.1, p.2]) sl st).nox := h
        obtain ⟨v, e1, r⟩ := R.val i _ e0 hΓi
        cases r with
        | dic n hrd rk =>
          rename_i a vs
          rcases hrd with hrd | ⟨o, hrd⟩
          · refine ⟨_, ps_lock pf, a, .dK vs, hrd, trivial, fun od => ?_⟩
            have hl : (upd H a (.frz od (.dK vs))) a = some (.frz od (.dK vs)) := upd_same
            have L : LkEq a vs H (upd H a (.frz od (.dK vs))) := ⟨.inl hrd, .inr ⟨od, upd_same⟩, fun b e => upd_ne e⟩
            exact ⟨.ref a, e1, a, od, vs, rfl, hl, for_core hg hb hΓ (R.lock n hrd) (yields_items n hl (RKs.lk L rk)) (FQ.lock R n hrd h)⟩
          · exact ⟨_, pf, .ref a, e1, a, o, vs, rfl, hrd, for_core hg hb hΓ R (yields_items n hrd rk) (Fl.nox_sat h)⟩
      | _ => exact False.elim h
end
end Vx

/-! VBox: lists, dicts, instances that stand in the store. -/
namespace Vx
open PySem PySem.Spec L2

/-! ### on values -/
/-- a list, a dict of the store, as it is now -/
def drf (s : Sto) (d : D) : D := match d with
  | .obj n => match s[n]? with
    | some (.lst xs) => .lst xs
    | some (.dic k) => .dic k
    | _ => .obj n
  | d => d
def obOf : D → Option Ob
  | .lst xs => some (.lst xs)
  | .dic k => some (.dic k)
  | _ => none
/-- a new list or dict, into the store -/
def mBox (f : FE) : FE := fun l s => (f l s).bind fun d s => match obOf d with
  | some ob => .ok (.obj s.length) (s ++ [ob])
  | none => .no
def mBinO (g : D → D → Option D) (a b : FE) : FE := fun l s => (a l s).bind fun x s => (b l s).bind fun y s => liftO (g (drf s x) (drf s y)) s
def mUnO (g : D → Option D) (a : FE) : FE := fun l s => (a l s).bind fun x s => liftO (g (drf s x)) s
def mArgsO (g : List D → Option D) (a : FA) : FE := fun l s => (a l s).bind fun xs s => liftO (g (xs.map (drf s))) s
def mCutO (a : FE) (lo hi : FO) : FE := fun l s => (a l s).bind fun x s => (lo l s).bind fun i s => (hi l s).bind fun j s => liftO (gCut (drf s x) i j) s
def mCutLO (a : FE) (lo hi : FO) : FE := fun l s => (a l s).bind fun x s => (lo l s).bind fun i s => (hi l s).bind fun j s => liftO (gCutL (drf s x) i j) s
/-- the list at a place of the store -/
def lstAt (s : Sto) (d : D) : Option (Nat × List D) := match d with
  | .obj n => match s[n]? with
    | some (.lst xs) => some (n, xs)
    | _ => none
  | _ => none
/-- o.m(..), o a list of the store -/
def mMethO (g : List D → List D → Option (D × List D)) (o : FE) (a : FA) : FE := fun l s => (o l s).bind fun x s => match lstAt s x with
  | none => .no
  | some _ => (a l s).bind fun ys s => match lstAt s x with
    | none => .no
    | some (n, xs) => match g xs ys with
      | some (y, zs) => .ok y (s.set n (.lst zs))
      | none => .no
/-- o[k] = e -/
def sPutO (o a k : FE) : FS := fun l s => (a l s).fl l fun y s => (o l s).fl l fun x s => (k l s).fl l fun z s => match lstAt s x with
  | none => .no
  | some (n, xs) => match z with
    | .int i => match ixI xs.length i with
      | some j => .nx l (s.set n (.lst (xs.set j y)))
      | none => .no
    | _ => .no
/-- the instance at a place of the store -/
def insAt (C : Nat) (s : Sto) (d : D) : Option (Nat × List (Str × D)) := match d with
  | .obj n => match s[n]? with
    | some (.ins C' fs) => if C' = C then some (n, fs) else none
    | _ => none
  | _ => none
def putFD (f : Str) (v : D) : List (Str × D) → List (Str × D)
  | [] => [(f, v)]
  | (g, w) :: r => if g = f then (g, v) :: r else (g, w) :: putFD f v r
def mFld (C : Nat) (f : Str) (o : FE) : FE := fun l s => (o l s).bind fun x s => match insAt C s x with
  | some (_, fs) => liftO (fs.lookup f) s
  | none => .no
def sFldD (C : Nat) (f : Str) (o a : FE) : FS := fun l s => (a l s).fl l fun y s => (o l s).fl l fun x s => match insAt C s x with
  | some (n, fs) => if fs.length < 1000 then .nx l (s.set n (.ins C (putFD f y fs))) else .no
  | none => .no
/-- C(..) -/
def mMake (C : Nat) (m : List D → Sto → R D) (a : FA) : FE := fun l s => (a l s).bind fun xs s => (m (.obj s.length :: xs) (s ++ [.ins C []])).nox.bind fun d s' => match d with
  | .non => .ok (.obj s.length) s'
  | _ => .no
/-- o.m(..), o an instance -/
def mMeth (C : Nat) (nm : Str) (m : List D → Sto → R D) (o : FE) (a : FA) : FE := fun l s => (o l s).bind fun x s => match insAt C s x with
  | none => .no
  | some (_, fs) => if (fs.lookup nm).isNone = true then (a l s).bind fun xs s => (m (x :: xs) s).nox else .no

section
variable {X : Cx} {W : WXc} {ρ : Bool} {Γ Γ' ΓL : List Bool} {e a b : Expr} {es : List Expr} {f fa fb fc : FE} {x : Str} {pos p : Pos}
variable {K : PySem.W.Frag} {N N' T : Addr → Prop} {α α' : List Addr} {H H' : Hp} {c c' : Cz} {sl : Sl} {st st' : Sto} {σ : St} {q : Addr}

/-! ### the store in the heap -/
theorem ObRel.step {ob : Ob} (h : ObRel K N α H ob q) (t : Stp N α H N' α' H') (e : H' q = H q) : ObRel K N' α' H' ob q := by
  cases ob with
  | ins C fs => obtain ⟨dx, fs', h1, h2, h3⟩ := h; exact ⟨dx, fs', e.trans h1, h2, h3.step t⟩
  | lst ds => obtain ⟨vs, h1, h2⟩ := h; exact ⟨vs, e.trans h1, h2.step t⟩
  | dic ds => obtain ⟨vs, h1, h2⟩ := h; exact ⟨vs, e.trans h1, h2.step t⟩
theorem nn_push {a : Addr} : NN c Γ σ (α ++ [q]) a ↔ NN (c.add q) Γ σ α a := by
  unfold NN NB
  rw [List.mem_append, List.mem_singleton]
  constructor
  · rintro ((h | h | h) | h)
    · exact .inl (.inl (.inl h))
    · exact .inl (.inr h)
    · exact .inl (.inl (.inr h))
    · exact .inr h
  · rintro (((h | h) | h) | h)
    · exact .inl (.inl h)
    · exact .inl (.inr (.inr h))
    · exact .inl (.inr (.inl h))
    · exact .inr h
theorem stp_push : Stp (NN (c.add q) Γ σ α) α H (NN c Γ σ (α ++ [q])) (α ++ [q]) H := ⟨⟨[q], rfl⟩, fun a o h n => ⟨h, fun z => n (nn_push.mp z)⟩⟩
/-- one object more in the store -/
theorem Rel.push {ob : Ob} (R : Rel K (c.add q) Γ sl st α σ H) (hB : ¬ c.B q) (h0 : c.H0 q = none) (ho : ObRel K (NN (c.add q) Γ σ α) α H ob q) : Rel K c Γ sl (st ++ [ob]) (α ++ [q]) σ H := by
  have S : Stp (NN (c.add q) Γ σ α) α H (NN c Γ σ (α ++ [q])) (α ++ [q]) H := stp_push
  have nq : q ∉ α := fun m => R.αB q m (.inr rfl)
  refine ⟨R.len, fun i d e n => ?_, fun i n => ?_, R.dist, ⟨?_, ?_, fun n ob' a e1 e2 => ?_⟩, fun a b => R.bt a (.inl b), fun a m z => ?_, ?_, fun a m => ?_, R.fr⟩
  · obtain ⟨v, h1, h2⟩ := R.val i d e n
    exact ⟨v, h1, h2.step S⟩
  · obtain ⟨d, a, o, h1, h2, h3, h4, h5, h6⟩ := R.own i n
    refine ⟨d, a, o, h1, h2, h3, h4.step S, h5, fun z => ?_⟩
    rcases z with z | z
    · exact h6 (.inl (.inl z))
    · rcases List.mem_append.mp z with z | z
      · exact h6 (.inr z)
      · exact h6 (.inl (.inr (List.mem_singleton.mp z)))
  · rw [List.length_append, List.length_append, R.sto.len]
    rfl
  · refine List.nodup_append.mpr ⟨R.sto.nd, by simp, fun a ha b hb e => ?_⟩
    rw [List.mem_singleton] at hb
    exact nq (by rw [← hb, ← e]; exact ha)
  · by_cases hn : n < st.length
    · rw [List.getElem?_append_left hn] at e1
      rw [List.getElem?_append_left (by rw [R.sto.len]; exact hn)] at e2
      exact (R.sto.ob n ob' a e1 e2).step S rfl
    · rw [List.getElem?_append_right (Nat.le_of_not_lt hn)] at e1
      rw [List.getElem?_append_right (by rw [R.sto.len]; exact Nat.le_of_not_lt hn), R.sto.len] at e2
      have hz : n - st.length = 0 := by
        have := (List.getElem?_eq_some_iff.mp e1).1
        simp at this
        omega
      rw [hz] at e1 e2
      cases e1
      cases e2
      exact ho.step S rfl
  · rcases List.mem_append.mp m with m | m
    · exact R.αB a m (.inl z)
    · rw [List.mem_singleton.mp m] at z
      exact hB z
  · obtain ⟨t, e⟩ := R.αn
    exact ⟨t ++ [q], by rw [e, List.append_assoc]; rfl⟩
  · rcases List.mem_append.mp m with m | m
    · exact R.αf a m
    · rw [List.mem_singleton.mp m]
      exact .inr h0
theorem ste_push (S : Ste α H α' H') (hn : H q = none) : Ste α H (α' ++ [q]) H' := by
  obtain ⟨t, e⟩ := S.pre
  refine ⟨⟨t ++ [q], by rw [e, List.append_assoc]⟩, fun a m => ?_, S.keep⟩
  rcases List.mem_append.mp m with m | m
  · exact S.new a m
  · rw [List.mem_singleton.mp m]
    exact .inr hn
theorem stp_upd {o' : HO} (hq : q ∈ α) : Stp (NN c Γ σ α) α H (NN c Γ σ α) α (upd H q o') :=
  ⟨⟨[], by simp⟩, fun a o h n => ⟨by rw [upd_ne (show a ≠ q from fun e => n (.inl (.inr (by rw [e]; exact hq))))]; exact h, n⟩⟩
/-- an object of the store changes -/
theorem Rel.changeO {n : Nat} {ob' : Ob} {o' : HO} (R : Rel K c Γ sl st α σ H) (hq : α[n]? = some q) (hr : ObRel K (NN c Γ σ α) α (upd H q o') ob' q) : Rel K c Γ sl (st.set n ob') α σ (upd H q o') ∧ Ste α H α (upd H q o') := by
  have mq : q ∈ α := List.mem_of_getElem? hq
  have S : Stp (NN c Γ σ α) α H (NN c Γ σ α) α (upd H q o') := stp_upd mq
  refine ⟨⟨R.len, fun i d e n => ?_, fun i n => ?_, R.dist, ⟨by rw [List.length_set]; exact R.sto.len, R.sto.nd, fun m ob a e1 e2 => ?_⟩, fun a z => ?_, R.αB, R.αn, R.αf, fun a o h n => ?_⟩, ⟨⟨[], by simp⟩, fun _ h => .inl h, fun a o h n => by rw [upd_ne (show a ≠ q from fun e => n (by rw [e]; exact mq))]; exact h⟩⟩
  · obtain ⟨v, h1, h2⟩ := R.val i d e n
    exact ⟨v, h1, h2.step S⟩
  · obtain ⟨d, a, o, h1, h2, h3, h4, h5, h6⟩ := R.own i n
    exact ⟨d, a, o, h1, h2, by rw [upd_ne (show a ≠ q from fun e => h6 (.inr (by rw [e]; exact mq)))]; exact h3, h4.step S, h5, h6⟩
  · by_cases hm : n = m
    · subst hm
      rw [hq] at e2
      cases e2
      rw [List.getElem?_set] at e1
      rw [if_pos rfl] at e1
      split at e1
      · cases e1; exact hr
      · cases e1
    · rw [getElem?_set_ne' hm] at e1
      have ne : a ≠ q := fun z => by
        subst z
        obtain ⟨l1, g1⟩ := List.getElem?_eq_some_iff.mp hq
        obtain ⟨l2, g2⟩ := List.getElem?_eq_some_iff.mp e2
        have hp := List.pairwise_iff_getElem.mp R.sto.nd
        rcases Nat.lt_trichotomy n m with h | h | h
        · exact hp n m l1 l2 h (g1.trans g2.symm)
        · exact hm h
        · exact hp m n l2 l1 h (g2.trans g1.symm)
      exact (R.sto.ob m ob a e1 e2).step S (upd_ne ne)
  · rw [upd_ne (show a ≠ q from fun e => R.αB q mq (by rw [← e]; exact z))]
    exact R.bt a z
  · rw [upd_ne (show a ≠ q from fun e => by
      subst e
      rcases R.αf a mq with z | z
      · exact n z
      · rw [z] at h; cases h)]
    exact R.fr a o h n
theorem Rel.at_ (R : Rel K c Γ sl st α σ H) {n : Nat} {a : Addr} (h : α[n]? = some a) : ∃ ob, st[n]? = some ob ∧ ObRel K (NN c Γ σ α) α H ob a := by
  have hl : n < st.length := by rw [← R.sto.len]; exact (List.getElem?_eq_some_iff.mp h).1
  exact ⟨st[n], List.getElem?_eq_getElem hl, R.sto.ob n _ a (List.getElem?_eq_getElem hl) h⟩
theorem RB.obj {n : Nat} {v : V} (h : RB K N T α H (.obj n) v) : ∃ a, v = .ref a ∧ α[n]? = some a := by
  cases (show RD K N α H (.obj n) v from h) with
  | obj h' => exact ⟨_, rfl, h'⟩
/-- read late -/
theorem RB.drf {d : D} {v : V} (R : Rel K c Γ sl st α σ H) (r : RB K (NN c Γ σ α) (NB c α) α H d v) : RB K (NN c Γ σ α) (fun _ => False) α H (Vx.drf st d) v := by
  cases d with
  | obj n =>
    obtain ⟨a, rfl, h⟩ := r.obj
    obtain ⟨ob, e, ho⟩ := R.at_ h
    unfold Vx.drf
    simp only [e]
    cases ob with
    | ins C fs => exact (show RD K (NN c Γ σ α) α H (.obj n) (.ref a) from .obj h)
    | lst ds => obtain ⟨vs, h1, h2⟩ := ho; exact ⟨a, vs, rfl, .inl ⟨id, .of h1⟩, h2⟩
    | dic ds => obtain ⟨vs, h1, h2⟩ := ho; exact ⟨a, vs, rfl, id, .of h1, h2⟩
  | lst xs => 
    obtain ⟨a, vs, e, h, r⟩ := r
    exact ⟨a, vs, e, h.imp (fun ⟨_, h⟩ => ⟨id, h⟩) id, r⟩
  | dic xs =>
    obtain ⟨a, vs, e, _, h, r⟩ := r
    exact ⟨a, vs, e, id, h, r⟩
  | non => exact r
  | bl b => exact r
  | int b => exact r
  | str b => exact r
  | tup b => exact r
theorem RBs.drf (R : Rel K c Γ sl st α σ H) : ∀ {ds : List D} {vs : List V}, RBs K (NN c Γ σ α) (NB c α) α H ds vs → RBs K (NN c Γ σ α) (fun _ => False) α H (ds.map (Vx.drf st)) vs
  | _, _, .nil => .nil
  | _, _, .cons r t => .cons (RB.drf R r) (RBs.drf R t)

/-! ### into the store -/
def boxR (d : D) (s : Sto) : Vx.R D := match obOf d with
  | some ob => .ok (.obj s.length) (s ++ [ob])
  | none => .no
theorem PQ.box {Q : VK} {d : D} {s1 : Sto} {E : Ex → Sto → Prop} (R : Rel X.K c Γ sl st α σ H) (hd : (boxR d s1).Sat (PQ X.K c Γ sl α σ H Q) E) : PQf X.K c Γ sl α σ H Q d s1 := by
  intro p o α1 H1 h0 hp R1 S1 r1
  have hB : ¬ c.B p := fun z => R.bt p z h0
  have key : ∀ ob, ObRel X.K (NN (c.add p) Γ σ α1) α1 H1 ob p → PQ X.K c Γ sl α σ H Q (.obj s1.length) (s1 ++ [ob]) → Q (.ref p) H1 := fun ob ho hq =>
    hq (.ref p) (α1 ++ [p]) H1 (R1.push hB (R.fresh0 h0) ho) (ste_push S1 h0) (.obj (by rw [← R1.sto.len, List.getElem?_append_right (Nat.le_refl _), Nat.sub_self]; rfl))
  cases d with
  | lst xs => cases o with
    | lst vs => exact key (.lst xs) ⟨vs, hp, r1⟩ hd
    | _ => exact False.elim r1
  | dic xs => cases o with
    | dK vs => exact key (.dic xs) ⟨vs, hp, r1⟩ hd
    | _ => exact False.elim r1
  | _ => exact False.elim hd
theorem se_box (ha : SF X W Γ a fa) : SE X W Γ a (mBox fa) := by
  intro c sl st α σ H Q R h
  exact ha c sl st α σ H Q R ((Vx.R.sat_bind.mp h).imp (fun d s1 hd => PQ.box R hd) fun _ _ z => z)
/-- name = [.. for ..], into the store -/
theorem ss_setLcB (i : Nat) {y : Str} {py : Pos} {tg iter elt : Expr} {ifs : List Expr} {scope : Scope} {own : List (Str × Nat)} {is vs : List Nat} {g : D → Sl → Option Sl} {it : FA} {t : FT} {f : FE} {spos : Pos} (hc : X.calm = true) (hN : X.N.Nodup) (hy : X.N[i]? = some y) (hyl : X.env.scope.names.lookup y = some .local)
    (hsw : swapsWith (.ListComp elt [⟨tg, iter, ifs, 0⟩] scope pos) (some (.Name y py)) spos.line X.env = pure true) (hi : SI X W Γ true tg iter it) (ok : BlkOk X.N X.env.scope scope own)
    (hg : ∀ (s : Shared) (H : Hp) (C : Addr) (cl : List (Str × Addr)) (fp : List Addr), SG (X.blk s H scope (compEnvC scope cl C X.env) fp) tg is g) (hgo : TgOk is g) (his : ∀ i ∈ is, i ∈ vs)
    (ht : ∀ (s : Shared) (H : Hp) (C : Addr) (cl : List (Str × Addr)) (fp : List Addr), STs (X.blk s H scope (compEnvC scope cl C X.env) fp) W0 Γ ifs t) (he : ∀ (s : Shared) (H : Hp) (C : Addr) (cl : List (Str × Addr)) (fp : List Addr), SE (X.blk s H scope (compEnvC scope cl C X.env) fp) W0 Γ elt f)
    (hΓ : ∀ i ∈ vs, Γ[i]? ≠ some true) (hΓi : Γ[i]? ≠ some true := by decide) (hs : ∀ x, foldedSetIterable iter X.env x = pure x := by intro _; rfl) (hvs : own.map (·.2) = vs := by rfl) : SS X W ρ ΓL Γ (.Assign [.Name y py] (.ListComp elt [⟨tg, iter, ifs, 0⟩] scope pos) spos) (sSet i (mBox (mComp it g t f vs))) Γ := by
  subst hvs
  intro c sl st α σ H Dn R h
  refine ⟨_, ps_setLc hc hN hy hyl hsw pi_wp ok pg_gU pt_tU pe_eU hs, ?_⟩
  refine comp_core hi hg hgo his ht he hΓ R ((Vx.R.sat_bind.mp (Vx.R.sat_fl.mp h)).imp (fun d s1 hd => ?_) fun x s1 hx => hx Γ σ)
  refine PQ.box R (E := fun _ _ => True) (Vx.R.Sat.imp (r := boxR d s1) hd (fun d s1 hd v α1 H1 R1 S1 r1 => ?_) fun _ _ _ => trivial)
  exact hd α1 _ H1 (R1.set hΓi r1) (S1.nn.trans (.less fun a z => (nn_set hΓi a).mp z))

/-! ### read late -/
theorem bin_coreO {r : R2} {g : D → D → Option D} (hr : ∀ (N T : Addr → Prop) (α : List Addr) (H : Hp) (x y : D) (vx vy : V) (d : D) (Q : VK), (∀ a, N a → H a ≠ none) → RB X.K N T α H x vx → RB X.K N T α H y vy → g x y = some d → (∀ v H', Same H H' → RD X.K N α H' d v → Q v H') → r vx vy H Q)
    (ha : SB X W Γ a fa) (hb : SB X W Γ b fb) {Q : VK} (R : Rel X.K c Γ sl st α σ H)
    (h : (mBinO g fa fb sl st).Sat (PQ X.K c Γ sl α σ H Q) (PX X.K c Γ sl σ W)) : tOp r (wpE X a) (wpE X b) σ H Q := by
  refine ha c sl st α σ H _ R ((Vx.R.sat_bind.mp h).imp (fun x s1 hx vx α1 H1 R1 S1 d1 => ?_) fun _ _ z => z)
  refine hb c sl s1 α1 σ H1 _ R1 ((Vx.R.sat_bind.mp hx).imp (fun y s2 hy vy α2 H2 R2 S2 d2 => ?_) fun _ _ z => z)
  cases eg : g (drf s2 x) (drf s2 y) with
  | none => rw [eg] at hy; exact False.elim hy
  | some d =>
    rw [eg] at hy
    refine hr _ _ _ _ _ _ vx vy d Q R2.nn (RB.drf R2 (d1.step S2.nb S2.nn)) (RB.drf R2 d2) eg fun v H' G r => ?_
    exact hy v α2 H' (R2.grow G) (S1.trans (S2.trans (.grow G))) r
theorem se_binO {op : Operator} {g : D → D → Option D} (ho : OpD X (binaryOp op) g) (ha : SB X W Γ a fa) (hb : SB X W Γ b fb) : SE X W Γ (.BinOp a op b pos) (mBinO g fa fb) := by
  obtain ⟨r, o, hr⟩ := ho
  exact fun c sl st α σ H Q R h => ⟨_, pe_op o pe_wp pe_wp, bin_coreO hr ha hb R h⟩
theorem se_cmpO {op : CmpOp} {g : D → D → Option D} (ho : OpD X (compareOp op) g) (ha : SB X W Γ a fa) (hb : SB X W Γ b fb) (hm : behindInMarks op b = false := by first | exact nobehind _ (by decide) (by decide) | rfl) : SE X W Γ (.Compare a [op] [b] pos) (mBinO g fa fb) := by
  obtain ⟨r, o, hr⟩ := ho
  exact fun c sl st α σ H Q R h => ⟨_, pe_cmpR o pe_wp pe_wp hm, bin_coreO hr ha hb R h⟩
theorem st_cmpO {op : CmpOp} {g : D → D → Option D} (ho : OpD X (compareOp op) g) (ha : SB X W Γ a fa) (hb : SB X W Γ b fb) (hm : behindInMarks op b = false := by first | exact nobehind _ (by decide) (by decide) | rfl) : ST X W Γ (.Compare a [op] [b] pos) (mT (mBinO g fa fb)) := by
  obtain ⟨r, o, hr⟩ := ho
  intro c sl st α σ H Q R h
  refine ⟨_, pt_cmpR o pe_wp pe_wp hm, ?_⟩
  refine bin_coreO hr ha hb R ((Vx.R.sat_bind.mp h).imp (fun d s1 hd v α1 H1 R1 S1 r1 => ?_) fun _ _ z => z)
  cases eg : gBl d with
  | none => rw [eg] at hd; exact False.elim hd
  | some k =>
    rw [eg] at hd
    have ed := gBl_some eg
    subst ed
    exact ⟨k, rd_bl r1, hd α1 H1 R1 S1⟩
theorem se_ixO {g : D → D → Option D} (ho : IxD X g) (ha : SB X W Γ a fa) (hb : SB X W Γ b fb) (hs : PlainIx b := by intro _ _; rfl) : SE X W Γ (.Subscript a b pos) (mBinO g fa fb) := by
  obtain ⟨r, o, hr⟩ := ho
  exact fun c sl st α σ H Q R h => ⟨_, pe_ix o pe_wp pe_wp hs, bin_coreO hr ha hb R h⟩
theorem se_cutO {lo hi : Option Expr} {p2 : Pos} {fl fh : FO} (ho : CutD X gCut) (ha : SB X W Γ a fa) (hl : SO X W Γ lo fl) (hh : SO X W Γ hi fh) : SE X W Γ (.Subscript a (.Slice lo hi none p2) pos) (mCutO fa fl fh) := by
  obtain ⟨r, o, hr⟩ := ho
  intro c sl st α σ H Q R h
  refine ⟨_, pe_slice o pe_wp po_wp po_wp, ?_⟩
  refine ha c sl st α σ H _ R ((Vx.R.sat_bind.mp h).imp (fun d s1 hd v α1 H1 R1 S1 r1 => ?_) fun _ _ z => z)
  refine hl c sl s1 α1 σ H1 _ R1 ((Vx.R.sat_bind.mp hd).imp (fun i s2 hi α2 H2 R2 S2 => ?_) fun _ _ z => z)
  refine hh c sl s2 α2 σ H2 _ R2 ((Vx.R.sat_bind.mp hi).imp (fun j s3 hj α3 H3 R3 S3 => ?_) fun _ _ z => z)
  cases eg : gCut (drf s3 d) i j with
  | none => rw [eg] at hj; exact False.elim hj
  | some z =>
    rw [eg] at hj
    have S23 := S2.trans S3
    exact hr _ _ _ _ _ i j v z Q R3.nn (RB.drf R3 (r1.step S23.nb S23.nn)) eg fun v H' G r => hj v α3 H' (R3.grow G) (S1.trans (S23.trans (.grow G))) r
theorem sf_cutO {lo hi : Option Expr} {p2 : Pos} {fl fh : FO} (ho : CutF X gCutL) (ha : SB X W Γ a fa) (hl : SO X W Γ lo fl) (hh : SO X W Γ hi fh) : SF X W Γ (.Subscript a (.Slice lo hi none p2) pos) (mCutLO fa fl fh) := by
  obtain ⟨r, o, hr⟩ := ho
  intro c sl st α σ H Q R h
  refine ⟨_, pe_slice o pe_wp po_wp po_wp, ?_⟩
  refine ha c sl st α σ H _ R ((Vx.R.sat_bind.mp h).imp (fun d s1 hd v α1 H1 R1 S1 r1 => ?_) fun _ _ z => z)
  refine hl c sl s1 α1 σ H1 _ R1 ((Vx.R.sat_bind.mp hd).imp (fun i s2 hi α2 H2 R2 S2 => ?_) fun _ _ z => z)
  refine hh c sl s2 α2 σ H2 _ R2 ((Vx.R.sat_bind.mp hi).imp (fun j s3 hj α3 H3 R3 S3 => ?_) fun _ _ z => z)
  cases eg : gCutL (drf s3 d) i j with
  | none => rw [eg] at hj; exact False.elim hj
  | some z =>
    rw [eg] at hj
    have S23 := S2.trans S3
    exact hr _ _ _ _ _ i j v z Q R3.nn (RB.drf R3 (r1.step S23.nb S23.nn)) eg fun p o hp r => PQf.new hj R3 (S1.trans S23) (fun _ m => R.sto.tr m) hp r
theorem call_coreO {r : List V → Hp → VK → Prop} {g : List D → Option D} {fr : FA} (hr : ∀ (N T : Addr → Prop) (α : List Addr) (H : Hp) (xs : List D) (vs : List V) (d : D) (Q : VK), (∀ a, N a → H a ≠ none) → RBs X.K N T α H xs vs → g xs = some d → (∀ v H', Same H H' → RD X.K N α H' d v → Q v H') → r vs H Q)
    (ha : SAb X W Γ es fr) {Q : VK} (R : Rel X.K c Γ sl st α σ H) (h : (mArgsO g fr sl st).Sat (PQ X.K c Γ sl α σ H Q) (PX X.K c Γ sl σ W)) : tCB r (wpA X es) σ H Q := by
  refine ha c sl st α σ H _ R ((Vx.R.sat_bind.mp h).imp (fun ds s1 hd vs α1 H1 R1 S1 r1 => ?_) fun _ _ z => z)
  cases eg : g (ds.map (drf s1)) with
  | none => rw [eg] at hd; exact False.elim hd
  | some d =>
    rw [eg] at hd
    exact hr _ _ _ _ _ vs d Q R1.nn (RBs.drf R1 r1) eg fun v H' G r => hd v α1 H' (R1.grow G) (S1.trans (.grow G)) r
theorem callF_coreO {r : List V → Hp → VK → Prop} {g : List D → Option D} {fr : FA} (hr : ∀ (N T : Addr → Prop) (α : List Addr) (H : Hp) (xs : List D) (vs : List V) (d : D) (Q : VK), (∀ a, N a → H a ≠ none) → RBs X.K N T α H xs vs → g xs = some d → (∀ p o, H p = none → ROb X.K N α H d o → Q (.ref p) (upd H p o)) → r vs H Q)
    (ha : SAb X W Γ es fr) {Q : VK} (R : Rel X.K c Γ sl st α σ H) (h : (mArgsO g fr sl st).Sat (PQf X.K c Γ sl α σ H Q) (PX X.K c Γ sl σ W)) : tCB r (wpA X es) σ H Q := by
  refine ha c sl st α σ H _ R ((Vx.R.sat_bind.mp h).imp (fun ds s1 hd vs α1 H1 R1 S1 r1 => ?_) fun _ _ z => z)
  cases eg : g (ds.map (drf s1)) with
  | none => rw [eg] at hd; exact False.elim hd
  | some d =>
    rw [eg] at hd
    exact hr _ _ _ _ _ vs d Q R1.nn (RBs.drf R1 r1) eg fun p o hp r => PQf.new hd R1 S1 (fun _ m => R.sto.tr m) hp r
theorem se_callBO {id : String} {g : List D → Option D} {fr : FA} (hc : CallD X (.builtin id) g) (hm : X.mg x = none) (hv : bootBuiltins x = some (.builtin id)) (ha : SAb X W Γ (e :: es) fr) (hg : Gl X x := by rfl) (hn : x ≠ "__name__" := by decide) (hdb : (x == ("__debug__" : Str)) = false := by decide)
    (he : starEach (e :: es) X.env = (false, eval e X.env) :: starEach es X.env := by rfl) (hpl : (backTo pos (starEach es X.env)).any (·.1) = false := by rfl) : SE X W Γ (.Call (.Name x p) (e :: es) [] pos) (mArgsO g fr) := by
  obtain ⟨r, o, hr⟩ := hc
  exact fun c sl st α σ H Q R h => ⟨_, pe_callB o hg hm hv pa_wp hn hdb he hpl, call_coreO hr ha R h⟩
theorem se_callTyO {T : String} {g : List D → Option D} {fr : FA} (hc : CallD X (.type T) g) (hm : X.mg x = none) (hv : bootBuiltins x = some (.type T)) (ha : SAb X W Γ (e :: es) fr) (hg : Gl X x := by rfl) (hn : x ≠ "__name__" := by decide) (hdb : (x == ("__debug__" : Str)) = false := by decide)
    (he : starEach (e :: es) X.env = (false, eval e X.env) :: starEach es X.env := by rfl) (hpl : (backTo pos (starEach es X.env)).any (·.1) = false := by rfl) : SE X W Γ (.Call (.Name x p) (e :: es) [] pos) (mArgsO g fr) := by
  obtain ⟨r, o, hr⟩ := hc
  exact fun c sl st α σ H Q R h => ⟨_, pe_callTy o hg hm hv pa_wp hn hdb he hpl, call_coreO hr ha R h⟩
theorem sf_callBO {id : String} {g : List D → Option D} {fr : FA} (hc : CallF X (.builtin id) g) (hm : X.mg x = none) (hv : bootBuiltins x = some (.builtin id)) (ha : SAb X W Γ (e :: es) fr) (hg : Gl X x := by rfl) (hn : x ≠ "__name__" := by decide) (hdb : (x == ("__debug__" : Str)) = false := by decide)
    (he : starEach (e :: es) X.env = (false, eval e X.env) :: starEach es X.env := by rfl) (hpl : (backTo pos (starEach es X.env)).any (·.1) = false := by rfl) : SF X W Γ (.Call (.Name x p) (e :: es) [] pos) (mArgsO g fr) := by
  obtain ⟨r, o, hr⟩ := hc
  exact fun c sl st α σ H Q R h => ⟨_, pe_callB o hg hm hv pa_wp hn hdb he hpl, callF_coreO hr ha R h⟩
theorem sf_callTyO {T : String} {g : List D → Option D} {fr : FA} (hc : CallF X (.type T) g) (hm : X.mg x = none) (hv : bootBuiltins x = some (.type T)) (ha : SAb X W Γ (e :: es) fr) (hg : Gl X x := by rfl) (hn : x ≠ "__name__" := by decide) (hdb : (x == ("__debug__" : Str)) = false := by decide)
    (he : starEach (e :: es) X.env = (false, eval e X.env) :: starEach es X.env := by rfl) (hpl : (backTo pos (starEach es X.env)).any (·.1) = false := by rfl) : SF X W Γ (.Call (.Name x p) (e :: es) [] pos) (mArgsO g fr) := by
  obtain ⟨r, o, hr⟩ := hc
  exact fun c sl st α σ H Q R h => ⟨_, pe_callTy o hg hm hv pa_wp hn hdb he hpl, callF_coreO hr ha R h⟩

/-! ### isinstance, slices -/
theorem se_isiO {T : String} {y : Str} {p p2 : Pos} {a : Expr} (hcl : ∀ (N T' : Addr → Prop) (α : List Addr) (H : Hp) (d : D) (v : V), RB X.K N T' α H d v → (∀ n, d ≠ .obj n) → (∀ k, d ≠ .dic k) → ∃ t, TyX X.K H v t ∧ PySem.W.kitOne X.K t (.type T) = some (d.isT T))
    (hm : X.mg "isinstance" = none) (hmT : X.mg y = none) (hvT : bootBuiltins y = some (.type T)) (ha : SB X W Γ a fa) (hg : Gl X "isinstance" := by rfl) (hgT : Gl X y := by rfl) (hv : bootBuiltins "isinstance" = some (.builtin "isinstance") := by decide +kernel) (hyn : y ≠ "__name__" := by decide) (hyd : (y == ("__debug__" : Str)) = false := by decide)
    (he : starEach [a, .Name y p2] X.env = (false, eval a X.env) :: starEach [.Name y p2] X.env := by rfl) (he2 : starEach [.Name y p2] X.env = (false, eval (.Name y p2) X.env) :: starEach [] X.env := by rfl) (hpl : (backTo pos (starEach [.Name y p2] X.env)).any (·.1) = false := by rfl) :
    SE X W Γ (.Call (.Name "isinstance" p) [a, .Name y p2] [] pos) (mUnO (gIsi T) fa) := by
  intro c sl st α σ H Q R h
  refine ⟨_, pe_callB call_isi hg hm hv (pa_cons (e := a) pe_wp (pa_cons (pe_bltn (v := .ty T) hgT hmT hvT rfl hyn hyd) pa_nil he2) he) (by decide) (by decide) he hpl, ?_⟩
  refine ha c sl st α σ H _ R ((Vx.R.sat_bind.mp h).imp (fun d0 s1 hd v α1 H1 R1 S1 r1 => ?_) fun _ _ z => z)
  have r2 := RB.drf R1 r1
  generalize drf s1 d0 = d at hd r2
  have hno : ∀ n, d ≠ .obj n := fun n q => by subst q; exact False.elim hd
  have hnd : ∀ n, d ≠ .dic n := fun n q => by subst q; exact False.elim hd
  obtain ⟨t, ht, hk⟩ := hcl _ _ _ _ d v r2 hno hnd
  refine ⟨v, .ty T, t, .type T, d.isT T, rfl, .ty T, ht, hk, ?_⟩
  have hd' : PQ X.K c Γ sl α σ H Q (.bl (d.isT T)) s1 := by cases d <;> first | exact hd | exact False.elim hd
  exact hd' _ α1 H1 R1 S1 (.bl _)

/-! ### changed in place -/
theorem lstAt_some {s : Sto} {d : D} {n : Nat} {xs : List D} (h : lstAt s d = some (n, xs)) : d = .obj n ∧ s[n]? = some (.lst xs) := by
  unfold lstAt at h
  split at h
  · split at h
    · cases h; exact ⟨rfl, by assumption⟩
    · cases h
  · cases h
theorem insAt_some {C : Nat} {s : Sto} {d : D} {n : Nat} {fs : List (Str × D)} (h : insAt C s d = some (n, fs)) : d = .obj n ∧ s[n]? = some (.ins C fs) := by
  unfold insAt at h
  split at h
  · split at h
    · split at h
      · rename_i e
        subst e
        cases h; exact ⟨rfl, by assumption⟩
      · cases h
    · cases h
  · cases h
theorem Rel.lstAt (R : Rel K c Γ sl st α σ H) {d : D} {v : V} {n : Nat} {xs : List D} (r : RD K (NN c Γ σ α) α H d v) (h : lstAt st d = some (n, xs)) : ∃ a vs, v = .ref a ∧ α[n]? = some a ∧ H a = some (.lst vs) ∧ RDs K (NN c Γ σ α) α H xs vs := by
  obtain ⟨rfl, e⟩ := lstAt_some h
  cases r with
  | obj ha =>
    obtain ⟨ob, e1, ho⟩ := R.at_ ha
    rw [e] at e1
    cases e1
    obtain ⟨vs, h1, h2⟩ := ho
    exact ⟨_, vs, rfl, ha, h1, h2⟩
theorem Rel.insAt (R : Rel K c Γ sl st α σ H) {d : D} {v : V} {C n : Nat} {fs : List (Str × D)} (r : RD K (NN c Γ σ α) α H d v) (h : insAt C st d = some (n, fs)) : ∃ a dx fs', v = .ref a ∧ α[n]? = some a ∧ H a = some (.ins C dx fs') ∧ fs.map (·.1) = fs'.map (·.1) ∧ RDs K (NN c Γ σ α) α H (fs.map (·.2)) (fs'.map (·.2)) := by
  obtain ⟨rfl, e⟩ := insAt_some h
  cases r with
  | obj ha =>
    obtain ⟨ob, e1, ho⟩ := R.at_ ha
    rw [e] at e1
    cases e1
    obtain ⟨dx, fs', h1, h2, h3⟩ := ho
    exact ⟨_, dx, fs', rfl, ha, h1, h2, h3⟩
theorem meth_coreO {id : String} {g : List D → List D → Option (D × List D)} {r : V → List V → Hp → VK → Prop} (hr : ∀ (N : Addr → Prop) (α : List Addr) (H : Hp) (q : Addr) (xs ys zs : List D) (d : D) (vs ws : List V) (Q : VK), H q = some (.lst vs) → RDs X.K N α H xs vs → RDs X.K N α H ys ws → g xs ys = some (d, zs) →
    (∀ v us, RD X.K N α H d v → RDs X.K N α H zs us → Q v (upd H q (.lst us))) → r (.ref q) ws H Q) {fr : FA} {es : List Expr} (ho : SE X W Γ a fa) (ha : SA X W Γ es fr) {Q : VK} (R : Rel X.K c Γ sl st α σ H)
    (h : (mMethO g fa fr sl st).Sat (PQ X.K c Γ sl α σ H Q) (PX X.K c Γ sl σ W)) : tBM X.K "list" r (wpE X a) (wpA X es) σ H Q := by
  refine ho c sl st α σ H _ R ((Vx.R.sat_bind.mp h).imp (fun x s1 hx vx α1 H1 R1 S1 d1 => ?_) fun _ _ z => z)
  cases e1 : Vx.lstAt s1 x with
  | none => simp only [e1] at hx; exact False.elim hx
  | some w =>
    obtain ⟨n, xs⟩ := w
    simp only [e1] at hx
    obtain ⟨q, vs, rfl, hq, hv, _⟩ := R1.lstAt d1 e1
    refine ⟨.inl ⟨rfl, vs, sqL_of (.of hv)⟩, ?_⟩
    refine ha c sl s1 α1 σ H1 _ R1 ((Vx.R.sat_bind.mp hx).imp (fun ys s2 hy ws α2 H2 R2 S2 d2 => ?_) fun _ _ z => z)
    cases e2 : Vx.lstAt s2 x with
    | none => simp only [e2] at hy; exact False.elim hy
    | some w =>
      obtain ⟨m, xs2⟩ := w
      simp only [e2] at hy
      obtain ⟨q2, vs2, eq2, hq2, hv2, rv2⟩ := R2.lstAt (d1.step S2.nn) e2
      cases eq2
      cases eg : g xs2 ys with
      | none => simp only [eg] at hy; exact False.elim hy
      | some w =>
        obtain ⟨y, zs⟩ := w
        simp only [eg] at hy
        refine hr _ _ _ q xs2 ys zs y vs2 ws Q hv2 rv2 d2 eg fun v us rv ru => ?_
        have mq : q ∈ α2 := List.mem_of_getElem? hq2
        have S : Stp (NN c Γ σ α2) α2 H2 (NN c Γ σ α2) α2 (upd H2 q (.lst us)) := stp_upd mq
        obtain ⟨R3, S3⟩ := R2.changeO (ob' := .lst zs) (o' := .lst us) hq2 ⟨us, upd_same, ru.step S⟩
        exact hy v α2 _ R3 (S1.trans (S2.trans S3)) (rv.step S)
theorem se_methO {nm : Str} {id : String} {g : List D → List D → Option (D × List D)} {fr : FA} {apos : Pos} (slot : Slot "list" nm id) (ty : typeOf (.builtin id) = pure (.type "method_descriptor")) (hm : MethD X id g) (ho : SE X W Γ a fa) (ha : SA X W Γ (e :: es) fr)
    (hbase : attributeBase a nm X.env (eval a X.env) = eval a X.env := by rfl)
    (hfew : ((backTo p (starEach (e :: es) X.env)).all (fun x => !x.1) && (backToKw p (keywordEach [] X.env)).all (fun x => x.1.isSome)
      && decide ((e :: es).length + ([] : List Keyword).length + (if ([] : List Keyword).isEmpty then 0 else 1) < 30)) = true := by rfl)
    (hline : (apos.endLine == p.line) = true := by rfl) (hst : starEach (e :: es) X.env = (false, eval e X.env) :: starEach es X.env := by rfl) (hplain : (backTo p (starEach es X.env)).any (·.1) = false := by rfl) :
    SE X W Γ (.Call (.Attribute a nm apos) (e :: es) [] p) (mMethO g fa fr) := by
  obtain ⟨r, mt, hr⟩ := hm
  exact fun c sl st α σ H Q R h => ⟨_, pe_bm PySem.F.plainAttrs_list slot ty mt pe_wp pa_wp hbase hfew hline hst hplain, meth_coreO (id := id) hr ho ha R h⟩
theorem se_methO0 {nm : Str} {id : String} {g : List D → List D → Option (D × List D)} {apos : Pos} (slot : Slot "list" nm id) (ty : typeOf (.builtin id) = pure (.type "method_descriptor")) (hm : MethD X id g) (ho : SE X W Γ a fa)
    (hbase : attributeBase a nm X.env (eval a X.env) = eval a X.env := by rfl) (hline : (apos.endLine == p.line) = true := by rfl) :
    SE X W Γ (.Call (.Attribute a nm apos) [] [] p) (mMethO g fa mNil) := by
  obtain ⟨r, mt, hr⟩ := hm
  refine fun c sl st α σ H Q R h => ⟨_, pe_bm0 PySem.F.plainAttrs_list slot ty mt pe_wp hbase hline, ?_⟩
  refine ho c sl st α σ H _ R ((Vx.R.sat_bind.mp h).imp (fun x s1 hx vx α1 H1 R1 S1 d1 => ?_) fun _ _ z => z)
  cases e1 : Vx.lstAt s1 x with
  | none => simp only [e1] at hx; exact False.elim hx
  | some w =>
    obtain ⟨n, xs⟩ := w
    simp only [e1, mNil, Vx.R.bind_ok] at hx
    obtain ⟨q, vs, rfl, hq, hv, rv⟩ := R1.lstAt d1 e1
    refine ⟨.inl ⟨rfl, vs, sqL_of (.of hv)⟩, ?_⟩
    cases eg : g xs [] with
    | none => simp only [eg] at hx; exact False.elim hx
    | some w =>
      obtain ⟨y, zs⟩ := w
      simp only [eg] at hx
      refine hr _ _ _ q xs [] zs y vs [] Q hv rv .nil eg fun v us rv ru => ?_
      have mq : q ∈ α1 := List.mem_of_getElem? hq
      have S : Stp (NN c Γ σ α1) α1 H1 (NN c Γ σ α1) α1 (upd H1 q (.lst us)) := stp_upd mq
      obtain ⟨R3, S3⟩ := R1.changeO (ob' := .lst zs) (o' := .lst us) hq ⟨us, upd_same, ru.step S⟩
      exact hx v α1 _ R3 (S1.trans S3) (rv.step S)
def gAppend (xs ys : List D) : Option (D × List D) := match ys with
  | [y] => if xs.length < 16777216 then some (.non, xs ++ [y]) else none
  | _ => none
theorem methd_append : MethD X "list.append" gAppend := by
  refine ⟨_, mt_append, fun N α H q xs ys zs d vs ws Q hq r ra e h => ?_⟩
  unfold gAppend at e
  split at e
  · cases ra with
    | cons r0 rt =>
      cases rt
      obtain ⟨hc, e⟩ := ite_some e
      cases e
      exact ⟨q, vs, _, rfl, rfl, hq, by rw [← r.length, sizeLine_eq]; exact hc, h .non _ .non (r.append (.cons r0 .nil))⟩
  · cases e
/-- the first place of k -/
def atI? (k : Int) : List Int → Option Nat
  | [] => none
  | n :: r => if n = k then some 0 else (atI? k r).map (· + 1)
def gRemove (xs ys : List D) : Option (D × List D) := match ys with
  | [.int k] => (intsD xs).bind fun ns => (atI? k ns).map fun j => (.non, xs.eraseIdx j)
  | _ => none
theorem atI?_spec {k : Int} : ∀ {ns : List Int} {j : Nat}, atI? k ns = some j → ns[j]? = some k ∧ ∀ m : Nat, m < j → ns[m]? ≠ some k
  | [], _, h => by cases h
  | n :: r, j, h => by
    unfold atI? at h
    split at h
    · rename_i e
      cases h
      exact ⟨by simp [e], fun m hm => by omega⟩
    · rename_i e
      rw [Option.map_eq_some_iff] at h
      obtain ⟨i, hi, rfl⟩ := h
      obtain ⟨h1, h2⟩ := atI?_spec hi
      refine ⟨by simpa using h1, fun m hm => ?_⟩
      cases m with
      | zero => simpa using e
      | succ m => simpa using h2 m (by omega)
theorem erase_map {α β : Type} (f : α → β) : ∀ (xs : List α) (j : Nat), (xs.map f).eraseIdx j = (xs.eraseIdx j).map f
  | [], _ => rfl
  | _ :: _, 0 => rfl
  | x :: r, j + 1 => by
    show f x :: (r.map f).eraseIdx j = f x :: (r.eraseIdx j).map f
    rw [erase_map f r j]
theorem methd_remove : MethD X "list.remove" gRemove := by
  refine ⟨_, mt_remove, fun N α H q xs ys zs d vs ws Q hq r ra e h => ?_⟩
  unfold gRemove at e
  split at e
  · rename_i k
    cases ra with
    | cons r0 rt =>
      cases rt
      cases r0
      cases ei : intsD xs with
      | none => rw [ei] at e; cases e
      | some ns =>
        rw [ei] at e
        have e : (atI? k ns).map (fun j => (D.non, xs.eraseIdx j)) = some (d, zs) := e
        rw [Option.map_eq_some_iff] at e
        obtain ⟨j, hj, e⟩ := e
        cases e
        obtain ⟨h1, h2⟩ := atI?_spec hj
        have ev : vs = ns.map V.int := rds_intsD ei r
        subst ev
        refine ⟨q, ns, k, j, rfl, rfl, hq, h1, h2, ?_⟩
        have := h .non ((ns.map V.int).eraseIdx j) .non (r.eraseIdx j)
        rw [erase_map] at this
        exact this
  · cases e
/-- o[k] = e -/
theorem ss_putO {i : Expr} (ha : SE X W Γ a fa) (ho : SE X W Γ b fb) (hi : SE X W Γ i fc) (hs : swapsWithSole [.Subscript b i p] a pos.line X.env = pure false := by rfl) (hw : swappedStores [.Subscript b i p] a X.env = pure none := by rfl)
    (h1 : (assignEach [.Subscript b i p] X.env).map (·.2) = [assign (.Subscript b i p) X.env] := by rfl)
    (pg : ∀ {t u : TE}, PE X b t → PE X i u → PG X (.Subscript b i p) (L2.gSub t u rSetL) := by intro t u ht hu; exact pg_sub ht hu set_list) :
    SS X W ρ ΓL Γ (.Assign [.Subscript b i p] a pos) (sPutO fb fa fc) Γ := by
  intro c sl st α σ H Dn R h
  refine ⟨_, ps_asg pe_wp (pg pe_wp pe_wp) hs hw h1, ?_⟩
  refine ha c sl st α σ H _ R ((Vx.R.sat_fl.mp h).imp (fun y s1 hy v α1 H1 R1 S1 r1 => ?_) fun x s1 hx => hx Γ σ)
  refine ho c sl s1 α1 σ H1 _ R1 ((Vx.R.sat_fl.mp hy).imp (fun x s2 hx vx α2 H2 R2 S2 r2 => ?_) fun x s1 hx => hx Γ σ)
  refine hi c sl s2 α2 σ H2 _ R2 ((Vx.R.sat_fl.mp hx).imp (fun z s3 hz w α3 H3 R3 S3 r3 => ?_) fun x s1 hx => hx Γ σ)
  have S23 := S2.trans S3
  cases e3 : Vx.lstAt s3 x with
  | none => simp only [e3] at hz; exact False.elim hz
  | some u =>
    obtain ⟨n, xs⟩ := u
    simp only [e3] at hz
    obtain ⟨q, vs, rfl, hq, hv, rv⟩ := R3.lstAt (r2.step S3.nn) e3
    cases z with
    | int m =>
      cases r3
      cases ej : ixI xs.length m with
      | none => simp only [ej] at hz; exact False.elim hz
      | some j =>
        simp only [ej] at hz
        refine ⟨q, vs, m, j, rfl, rfl, hv, by rw [← rv.length]; exact ej, ?_⟩
        have mq : q ∈ α3 := List.mem_of_getElem? hq
        have S : Stp (NN c Γ σ α3) α3 H3 (NN c Γ σ α3) α3 (upd H3 q (.lst (vs.set j v))) := stp_upd mq
        obtain ⟨R4, S4⟩ := R3.changeO (ob' := .lst (xs.set j y)) (o' := .lst (vs.set j v)) hq ⟨_, upd_same, (rv.set j (r1.step S23.nn)).step S⟩
        exact hz α3 σ _ R4 ((S1.trans (S23.trans S4)).nn)
    | _ => exact False.elim hz

/-! ### instances -/
theorem rds_lookup {f : Str} : ∀ {fs : List (Str × D)} {fs' : List (Str × V)} {d : D}, fs.map (·.1) = fs'.map (·.1) → RDs K N α H (fs.map (·.2)) (fs'.map (·.2)) → fs.lookup f = some d → ∃ v, fs'.lookup f = some v ∧ RD K N α H d v
  | [], _, _, _, _, h => by cases h
  | (g, w) :: r, [], _, e, _, _ => by cases e
  | (g, w) :: r, (g', w') :: r', d, e, q, h => by
    have e1 : g = g' := (List.cons.inj e).1
    subst e1
    cases q with
    | cons q1 q2 =>
      rw [List.lookup_cons] at h ⊢
      cases hb : (f == g) with
      | true => rw [hb] at h; cases h; exact ⟨_, rfl, q1⟩
      | false => rw [hb] at h; exact rds_lookup (List.cons.inj e).2 q2 h
theorem lookup_none {f : Str} : ∀ {fs : List (Str × D)} {fs' : List (Str × V)}, fs.map (·.1) = fs'.map (·.1) → fs.lookup f = none → fs'.lookup f = none
  | [], [], _, _ => rfl
  | [], (_, _) :: _, e, _ => by cases e
  | (g, w) :: r, [], e, _ => by cases e
  | (g, w) :: r, (g', w') :: r', e, h => by
    have e1 : g = g' := (List.cons.inj e).1
    subst e1
    rw [List.lookup_cons] at h ⊢
    cases hb : (f == g) with
    | true => rw [hb] at h; cases h
    | false => rw [hb] at h; exact lookup_none (List.cons.inj e).2 h
theorem rds_putF {f : Str} {d : D} {v : V} (rv : RD K N α H d v) : ∀ {fs : List (Str × D)} {fs' : List (Str × V)}, fs.map (·.1) = fs'.map (·.1) → RDs K N α H (fs.map (·.2)) (fs'.map (·.2)) →
    (putFD f d fs).map (·.1) = (putF f v fs').map (·.1) ∧ RDs K N α H ((putFD f d fs).map (·.2)) ((putF f v fs').map (·.2))
  | [], [], _, _ => ⟨rfl, .cons rv .nil⟩
  | [], (_, _) :: _, e, _ => by cases e
  | (g, w) :: r, [], e, _ => by cases e
  | (g, w) :: r, (g', w') :: r', e, q => by
    have e1 : g = g' := (List.cons.inj e).1
    subst e1
    cases q with
    | cons q1 q2 =>
      unfold putFD putF
      by_cases hb : g = f
      · rw [if_pos hb, if_pos hb]
        exact ⟨congrArg (g :: ·) (List.cons.inj e).2, .cons rv q2⟩
      · rw [if_neg hb, if_neg hb]
        obtain ⟨h1, h2⟩ := rds_putF (f := f) rv (List.cons.inj e).2 q2
        exact ⟨congrArg (g :: ·) h1, .cons q1 h2⟩
/-- o.f -/
theorem se_fld {C : Nat} {f : Str} (cl : Cls X.K C) (na : NoAttr X.K C f) (ho : SE X W Γ a fa) (hbase : attributeBase a f X.env (eval a X.env) = eval a X.env := by rfl) : SE X W Γ (.Attribute a f pos) (mFld C f fa) := by
  intro c sl st α σ H Q R h
  refine ⟨_, pe_fld pe_wp hbase, ?_⟩
  refine ho c sl st α σ H _ R ((Vx.R.sat_bind.mp h).imp (fun x s1 hx vx α1 H1 R1 S1 d1 => ?_) fun _ _ z => z)
  cases e1 : Vx.insAt C s1 x with
  | none => simp only [e1] at hx; exact False.elim hx
  | some w =>
    obtain ⟨n, fs⟩ := w
    simp only [e1] at hx
    obtain ⟨q, dx, fs', rfl, hq, hv, hn, rv⟩ := R1.insAt d1 e1
    cases ef : fs.lookup f with
    | none => rw [ef] at hx; exact False.elim hx
    | some d =>
      rw [ef] at hx
      obtain ⟨v, h1, h2⟩ := rds_lookup hn rv ef
      exact ⟨q, C, dx, fs', v, rfl, hv, cl, na, h1, hx v α1 H1 R1 S1 h2⟩
/-- o.f = e -/
theorem ss_fld {C : Nat} {f : Str} {pos' : Pos} (cl : Cls X.K C) (na : NoAttr X.K C f) (ho : SE X W Γ a fa) (hv : SE X W Γ b fb) (hs : swapsWith b (some (.Attribute a f pos')) pos.line X.env = pure false := by rfl) : SS X W ρ ΓL Γ (.Assign [.Attribute a f pos'] b pos) (sFldD C f fa fb) Γ := by
  intro c sl st α σ H Dn R h
  refine ⟨_, ps_fld pe_wp pe_wp hs, ?_⟩
  refine hv c sl st α σ H _ R ((Vx.R.sat_fl.mp h).imp (fun y s1 hy v α1 H1 R1 S1 r1 => ?_) fun x s1 hx => hx Γ σ)
  refine ho c sl s1 α1 σ H1 _ R1 ((Vx.R.sat_fl.mp hy).imp (fun x s2 hx vx α2 H2 R2 S2 r2 => ?_) fun x s1 hx => hx Γ σ)
  cases e1 : Vx.insAt C s2 x with
  | none => simp only [e1] at hx; exact False.elim hx
  | some w =>
    obtain ⟨n, fs⟩ := w
    simp only [e1] at hx
    obtain ⟨q, dx, fs', rfl, hq, hv, hn, rv⟩ := R2.insAt r2 e1
    by_cases hl : fs.length < 1000
    · rw [if_pos hl] at hx
      have ll : fs'.length < 1000 := by
        have := congrArg List.length hn
        rw [List.length_map, List.length_map] at this
        omega
      refine ⟨q, C, dx, fs', rfl, hv, cl, na, ll, ?_⟩
      have mq : q ∈ α2 := List.mem_of_getElem? hq
      have S : Stp (NN c Γ σ α2) α2 H2 (NN c Γ σ α2) α2 (upd H2 q (.ins C dx (putF f v fs'))) := stp_upd mq
      obtain ⟨g1, g2⟩ := rds_putF (f := f) (r1.step S2.nn) hn rv
      obtain ⟨R4, S4⟩ := R2.changeO (ob' := .ins C (putFD f y fs)) (o' := .ins C dx (putF f v fs')) hq ⟨dx, _, upd_same, g1, g2.step S⟩
      exact hx α2 σ _ R4 ((S1.trans (S2.trans S4)).nn)
    · rw [if_neg hl] at hx
      exact False.elim hx
/-- a method of the class at C -/
structure McalI (P : Program) (w : World) (K : PySem.W.Frag) (mg : Str → Option Value) (base : Heap) (k : Nat) (C : Nat) (x : Str) (ρ : Bool) (m : List D → Sto → R D) : Prop where
  ex : ∃ (q : Addr) (fd : FuncData) (ps : List Str), FnOk P w K mg base CX0 k q fd ps (FSpec K ρ m) ∧ Cls K C ∧ Meth K C x q ∧ Binds K fd ps []
theorem meth_core {C : Nat} {nm : Str} {m : List D → Sto → R D} {fr : FA} {t : TA} {E : XK} (ho : SE X W Γ a fa) (ht : ∀ c sl st α σ H Q, Rel X.K c Γ sl st α σ H → (fr sl st).Sat (fun ds st' => ∀ vs α' H', Rel X.K c Γ sl st' α' σ H' → Ste α H α' H' → RDs X.K (NN c Γ σ α') α' H' ds vs → Q vs H') (PX X.K c Γ sl σ W) → t σ H Q)
    {Q : VK} (R : Rel X.K c Γ sl st α σ H) (h : (Vx.mMeth C nm m fa fr sl st).Sat (PQ X.K c Γ sl α σ H Q) (PX X.K c Γ sl σ W)) : tMeth C nm (FSpec X.K ρ m) [] E (wpE X a) t σ H Q := by
  refine ho c sl st α σ H _ R ((Vx.R.sat_bind.mp h).imp (fun x s1 hx vx α1 H1 R1 S1 d1 => ?_) fun _ _ z => z)
  cases e1 : Vx.insAt C s1 x with
  | none => simp only [e1] at hx; exact False.elim hx
  | some w =>
    obtain ⟨n, fs⟩ := w
    simp only [e1] at hx
    obtain ⟨q, dx, fs', rfl, hq, hv, hn, rv⟩ := R1.insAt d1 e1
    by_cases hl : (fs.lookup nm).isNone = true
    · rw [if_pos hl] at hx
      refine ⟨q, dx, fs', rfl, hv, lookup_none hn (Option.isNone_iff_eq_none.mp hl), ?_⟩
      refine ht c sl s1 α1 σ H1 _ R1 ((Vx.R.sat_bind.mp hx).imp (fun ds s2 hd vs α2 H2 R2 S2 r2 => ?_) fun _ _ z => z)
      rw [List.append_nil]
      refine call_spec R2 (RDs.cons (d1.step S2.nn) r2) ?_
      cases em : m (x :: ds) s2 with
      | ex x s2 => rw [em] at hd; exact False.elim hd
      | no => rw [em] at hd; exact False.elim hd
      | ok d s3 =>
        rw [em] at hd
        have hd : PQ X.K c Γ sl α σ H Q d s3 := hd
        refine ⟨fun v α' H' R' S' r' _ => hd v α' H' R' (S1.trans (S2.trans S')) r', fun _ p o α' H' h0 hp R' S' r' => ?_⟩
        exact hd (.ref p) α' H' R'.drop (S1.trans (S2.trans S')) ((r'.step (.less nn_less)).rd hp (R'.add_ne fun z => R2.bt p z h0))
    · rw [if_neg hl] at hx
      exact False.elim hx
theorem se_m {k j C : Nat} {m : List D → Sto → R D} {fr : FA} {nm : Str} {apos : Pos} {pl : Sem Bool} (M : McalI X.prog X.w X.K X.mg X.base k C nm ρ m) (hr : Room j X.A) (ho : SE X W Γ a fa) (ha : SA X W Γ (e :: es) fr) (hk : k ≤ j := by first | decide | omega)
    (he : starEach (e :: es) X.env = (false, eval e X.env) :: starEach es X.env := by rfl) (hpl : (backTo pos (starEach es X.env)).any (·.1) = false := by rfl)
    (hev : eval (.Call (.Attribute a nm apos) (e :: es) [] pos) X.env = (do
      let ov ← eval a X.env
      standAt apos.atName
      let (f, first) ← holding [ov] (getMethod ov nm pl)
      callWith pos f first (backTo pos (starEach (e :: es) X.env)) (backToKw pos (keywordEach [] X.env))) := by rfl) : SE X W Γ (.Call (.Attribute a nm apos) (e :: es) [] pos) (Vx.mMeth C nm m fa fr) := by
  obtain ⟨q, fd, ps, G, cl, mt, hb⟩ := M.ex
  exact fun c sl st α σ H Q R h => ⟨_, pe_meth pe_wp cl mt G (hr.mono hk) hb .nil pass0 pa_wp he hpl hev, meth_core ho (fun c sl st α σ H Q R h => ha c sl st α σ H Q R h) R h⟩
theorem se_m0 {k j C : Nat} {m : List D → Sto → R D} {nm : Str} {apos : Pos} {pl : Sem Bool} (M : McalI X.prog X.w X.K X.mg X.base k C nm ρ m) (hr : Room j X.A) (ho : SE X W Γ a fa) (hk : k ≤ j := by first | decide | omega)
    (hev : eval (.Call (.Attribute a nm apos) [] [] pos) X.env = (do
      let ov ← eval a X.env
      standAt apos.atName
      let (f, first) ← holding [ov] (getMethod ov nm pl)
      callWith pos f first (backTo pos (starEach [] X.env)) (backToKw pos (keywordEach [] X.env))) := by rfl) : SE X W Γ (.Call (.Attribute a nm apos) [] [] pos) (Vx.mMeth C nm m fa mNil) := by
  obtain ⟨q, fd, ps, G, cl, mt, hb⟩ := M.ex
  refine fun c sl st α σ H Q R h => ⟨_, pe_meth0 pe_wp cl mt G (hr.mono hk) hb .nil pass0 hev, meth_core (fr := mNil) ho (fun c sl st α σ H Q R h => ?_) R h⟩
  exact h [] α H R .refl .nil
/-- the class at C under its name, and its __init__ -/
structure MkI (P : Program) (w : World) (K : PySem.W.Frag) (mg : Str → Option Value) (base : Heap) (k : Nat) (C : Nat) (x : Str) (ρ : Bool) (m : List D → Sto → R D) : Prop where
  ex : ∃ (q : Addr) (fd : FuncData) (ps : List Str), FnOk P w K mg base CX0 k q fd ps (FSpec K ρ m) ∧ mg x = some (.ref C) ∧ Mk K C q ∧ Binds K fd ps []
theorem make_core {C : Addr} {m : List D → Sto → R D} {fr : FA} {t : TA} {E : XK} (ht : ∀ c sl st α σ H Q, Rel X.K c Γ sl st α σ H → (fr sl st).Sat (fun ds st' => ∀ vs α' H', Rel X.K c Γ sl st' α' σ H' → Ste α H α' H' → RDs X.K (NN c Γ σ α') α' H' ds vs → Q vs H') (PX X.K c Γ sl σ W) → t σ H Q)
    {Q : VK} (R : Rel X.K c Γ sl st α σ H) (h : (Vx.mMake C m fr sl st).Sat (PQ X.K c Γ sl α σ H Q) (PX X.K c Γ sl σ W)) : tMake C (FSpec X.K ρ m) [] E t σ H Q := by
  refine ht c sl st α σ H _ R ((Vx.R.sat_bind.mp h).imp (fun ds s1 hd vs α1 H1 R1 S1 r1 => ?_) fun _ _ z => z)
  intro x dx hx hdx hne
  rw [List.append_nil]
  have G1 : Same H1 (upd H1 dx (.own x)) := same_upd hdx
  have R2 := R1.grow G1
  have hx2 : upd H1 dx (.own x) x = none := by rw [upd_ne (show x ≠ dx from fun e => hne e.symm)]; exact hx
  obtain ⟨R3, _⟩ := R2.new (o := .ins C dx []) hx2
  have R4 := R3.push (ob := .ins C []) (fun z => R1.bt x z hx) (R1.fresh0 hx) ⟨dx, [], upd_same, rfl, .nil⟩
  have S4 : Ste α1 H1 (α1 ++ [x]) (upd (upd H1 dx (.own x)) x (.ins C dx [])) := ste_push (.grow (G1.trans (same_upd hx2))) hx
  have rs : RD X.K (NN c Γ σ (α1 ++ [x])) (α1 ++ [x]) (upd (upd H1 dx (.own x)) x (.ins C dx [])) (.obj s1.length) (.ref x) := .obj (by rw [← R1.sto.len, List.getElem?_append_right (Nat.le_refl _), Nat.sub_self]; rfl)
  refine call_spec R4 (RDs.cons rs (r1.step S4.nn)) ?_
  cases em : m (.obj s1.length :: ds) (s1 ++ [.ins C []]) with
  | ex x s2 => rw [em] at hd; exact False.elim hd
  | no => rw [em] at hd; exact False.elim hd
  | ok d s3 =>
    rw [em] at hd
    cases d with
    | non =>
      have hd : PQ X.K c Γ sl α σ H Q (.obj s1.length) s3 := hd
      refine ⟨fun v α' H' R' S' r' _ => ⟨by cases r'; rfl, hd (.ref x) α' H' R' (S1.trans (S4.trans S')) (rs.step S'.nn)⟩, fun _ p o α' H' h0 hp R' S' r' => ?_⟩
      cases o <;> exact False.elim r'
    | _ => exact False.elim hd
theorem se_mk {k j C : Nat} {m : List D → Sto → R D} {fr : FA} (M : MkI X.prog X.w X.K X.mg X.base k C x ρ m) (hr : Room j X.A) (ha : SA X W Γ (e :: es) fr) (hk : k + 1 ≤ j := by first | decide | omega) (hg : Gl X x := by rfl) (hd : (x == ("__debug__" : Str)) = false := by decide)
    (he : starEach (e :: es) X.env = (false, eval e X.env) :: starEach es X.env := by rfl) (hpl : (backTo pos (starEach es X.env)).any (·.1) = false := by rfl) : SE X W Γ (.Call (.Name x p) (e :: es) [] pos) (Vx.mMake C m fr) := by
  obtain ⟨q, fd, ps, G, hm, mk, hb⟩ := M.ex
  exact fun c sl st α σ H Q R h => ⟨_, pe_make mk G (hr.mono hk) hg hm hb .nil pass0 pa_wp hd he hpl, make_core (fun c sl st α σ H Q R h => ha c sl st α σ H Q R h) R h⟩
theorem se_mk0 {k j C : Nat} {m : List D → Sto → R D} (M : MkI X.prog X.w X.K X.mg X.base k C x ρ m) (hr : Room j X.A) (hk : k + 1 ≤ j := by first | decide | omega) (hg : Gl X x := by rfl) (hd : (x == ("__debug__" : Str)) = false := by decide) : SE X W Γ (.Call (.Name x p) [] [] pos) (Vx.mMake C m mNil) := by
  obtain ⟨q, fd, ps, G, hm, mk, hb⟩ := M.ex
  exact fun c sl st α σ H Q R h => ⟨_, pe_make0 mk G (hr.mono hk) hg hm hb .nil pass0 hd, make_core (fr := mNil) (fun c sl st α σ H Q R h => h [] α H R .refl .nil) R h⟩
/-- o.m(..): a new list, ours then -/
def mMethF (C : Nat) (nm : Str) (m : List D → Sto → R D) (o : FE) (a : FA) : FE := fun l s => (Vx.mMeth C nm m o a l s).bind fun d s => if d.isMut = true then .ok d s else .no
theorem meth_coreF {C : Nat} {nm : Str} {m : List D → Sto → R D} {fr : FA} {t : TA} {E : XK} (ho : SE X W Γ a fa) (ht : ∀ c sl st α σ H Q, Rel X.K c Γ sl st α σ H → (fr sl st).Sat (fun ds st' => ∀ vs α' H', Rel X.K c Γ sl st' α' σ H' → Ste α H α' H' → RDs X.K (NN c Γ σ α') α' H' ds vs → Q vs H') (PX X.K c Γ sl σ W) → t σ H Q)
    {Q : VK} (R : Rel X.K c Γ sl st α σ H) (h : (Vx.mMethF C nm m fa fr sl st).Sat (PQf X.K c Γ sl α σ H Q) (PX X.K c Γ sl σ W)) : tMeth C nm (FSpec X.K true m) [] E (wpE X a) t σ H Q := by
  have h := Vx.R.sat_bind.mp h
  refine ho c sl st α σ H _ R ((Vx.R.sat_bind.mp h).imp (fun x s1 hx vx α1 H1 R1 S1 d1 => ?_) fun _ _ z => z)
  cases e1 : Vx.insAt C s1 x with
  | none => simp only [e1] at hx; exact False.elim hx
  | some w =>
    obtain ⟨n, fs⟩ := w
    simp only [e1] at hx
    obtain ⟨q, dx, fs', rfl, hq, hv, hn, rv⟩ := R1.insAt d1 e1
    by_cases hl : (fs.lookup nm).isNone = true
    · rw [if_pos hl] at hx
      refine ⟨q, dx, fs', rfl, hv, lookup_none hn (Option.isNone_iff_eq_none.mp hl), ?_⟩
      refine ht c sl s1 α1 σ H1 _ R1 ((Vx.R.sat_bind.mp hx).imp (fun ds s2 hd vs α2 H2 R2 S2 r2 => ?_) fun _ _ z => z)
      rw [List.append_nil]
      refine call_spec R2 (RDs.cons (d1.step S2.nn) r2) ?_
      cases em : m (x :: ds) s2 with
      | ex x s2 => rw [em] at hd; exact False.elim hd
      | no => rw [em] at hd; exact False.elim hd
      | ok d s3 =>
        rw [em] at hd
        have hd : (if d.isMut = true then .ok d s3 else .no : Vx.R D).Sat (PQf X.K c Γ sl α σ H Q) (PX X.K c Γ sl σ W) := hd
        by_cases hmu : d.isMut = true
        · rw [if_pos hmu] at hd
          have S02 := S1.trans S2
          refine ⟨fun v α' H' R' S' r' hn => ?_, fun _ p o α' H' h0 hp R' S' r' => ?_⟩
          · cases d <;> first | exact absurd rfl (hn rfl _ []).1 | exact absurd rfl (hn rfl [] _).2 | (cases (show false = true from hmu))
          · refine hd p o α' H' ?_ hp R' (S02.trans S') r'
            cases q : H p with
            | none => rfl
            | some u =>
              by_cases mα : p ∈ α
              · obtain ⟨t, e⟩ := S02.pre
                exact absurd h0 (R2.sto.tr (by rw [e]; exact List.mem_append_left _ mα))
              · rw [S02.keep p u q mα] at h0
                cases h0
        · rw [if_neg hmu] at hd
          exact False.elim hd
    · rw [if_neg hl] at hx
      exact False.elim hx
theorem sf_m {k j C : Nat} {m : List D → Sto → R D} {fr : FA} {nm : Str} {apos : Pos} {pl : Sem Bool} (M : McalI X.prog X.w X.K X.mg X.base k C nm true m) (hr : Room j X.A) (ho : SE X W Γ a fa) (ha : SA X W Γ (e :: es) fr) (hk : k ≤ j := by first | decide | omega)
    (he : starEach (e :: es) X.env = (false, eval e X.env) :: starEach es X.env := by rfl) (hpl : (backTo pos (starEach es X.env)).any (·.1) = false := by rfl)
    (hev : eval (.Call (.Attribute a nm apos) (e :: es) [] pos) X.env = (do
      let ov ← eval a X.env
      standAt apos.atName
      let (f, first) ← holding [ov] (getMethod ov nm pl)
      callWith pos f first (backTo pos (starEach (e :: es) X.env)) (backToKw pos (keywordEach [] X.env))) := by rfl) : SF X W Γ (.Call (.Attribute a nm apos) (e :: es) [] pos) (Vx.mMethF C nm m fa fr) := by
  obtain ⟨q, fd, ps, G, cl, mt, hb⟩ := M.ex
  exact fun c sl st α σ H Q R h => ⟨_, pe_meth pe_wp cl mt G (hr.mono hk) hb .nil pass0 pa_wp he hpl hev, meth_coreF ho (fun c sl st α σ H Q R h => ha c sl st α σ H Q R h) R h⟩
theorem sf_m0 {k j C : Nat} {m : List D → Sto → R D} {nm : Str} {apos : Pos} {pl : Sem Bool} (M : McalI X.prog X.w X.K X.mg X.base k C nm true m) (hr : Room j X.A) (ho : SE X W Γ a fa) (hk : k ≤ j := by first | decide | omega)
    (hev : eval (.Call (.Attribute a nm apos) [] [] pos) X.env = (do
      let ov ← eval a X.env
      standAt apos.atName
      let (f, first) ← holding [ov] (getMethod ov nm pl)
      callWith pos f first (backTo pos (starEach [] X.env)) (backToKw pos (keywordEach [] X.env))) := by rfl) : SF X W Γ (.Call (.Attribute a nm apos) [] [] pos) (Vx.mMethF C nm m fa mNil) := by
  obtain ⟨q, fd, ps, G, cl, mt, hb⟩ := M.ex
  refine fun c sl st α σ H Q R h => ⟨_, pe_meth0 pe_wp cl mt G (hr.mono hk) hb .nil pass0 hev, meth_coreF (fr := mNil) ho (fun c sl st α σ H Q R h => ?_) R h⟩
  exact h [] α H R .refl .nil
end
/-- a method of the text, as it stands behind the top -/
structure MDfn (K : PySem.W.Frag) (C : Nat) (x qual : Str) (st : Stmt) (ps : List Str) : Prop where
  ex : ∃ (q : Addr) (fd : FuncData), Fun K x qual st q fd ∧ Cls K C ∧ Meth K C x q ∧ Binds K fd ps []
structure IDfn (K : PySem.W.Frag) (mg : Str → Option Value) (C : Nat) (x qual : Str) (st : Stmt) (ps : List Str) : Prop where
  ex : ∃ (q : Addr) (fd : FuncData), Fun K "__init__" qual st q fd ∧ mg x = some (.ref C) ∧ Mk K C q ∧ Binds K fd ps []
section
variable {P : Program} {w : World} {K : PySem.W.Frag} {mg : Str → Option Value} {base : Heap} {ρ : Bool}
theorem mcal_of {C : Nat} {x qual : Str} {stm : Stmt} {N ps : List Str} {k n p : Nat} {fb : FS} {Γ0 ΓL Γ' : List Bool} (F : MDfn K C x qual stm ps) (S : FnScope N ps (defScope stm))
    (hb : ∀ (q : Addr) (cdv : Value) (A : Around) (outer : List Env) (s : Shared) (H : Hp) (E : XK), Room k (A.deeper (PyProof.Rows.envOfC qual (defScope stm) s.heap.objs.size q cdv)) → SSs (cxOf CX0 P w K mg base N qual (defScope stm) q cdv A outer s H E).nox W0 ρ ΓL Γ0 (defBody stm) fb Γ')
    (hn : N.length = n := by rfl) (hp : ps.length = p := by rfl) (hΓ : List.replicate n false = Γ0 := by rfl) : McalI P w K mg base (k + 1) C x ρ (mDef n p fb) := by
  obtain ⟨q, fd, F, cl, mt, hbd⟩ := F.ex
  subst hn hp hΓ
  exact ⟨q, fd, ps, fn_ok F S (hb q), cl, mt, hbd⟩
theorem mki_of {C : Nat} {x qual : Str} {stm : Stmt} {N ps : List Str} {k n p : Nat} {fb : FS} {Γ0 ΓL Γ' : List Bool} (F : IDfn K mg C x qual stm ps) (S : FnScope N ps (defScope stm))
    (hb : ∀ (q : Addr) (cdv : Value) (A : Around) (outer : List Env) (s : Shared) (H : Hp) (E : XK), Room k (A.deeper (PyProof.Rows.envOfC qual (defScope stm) s.heap.objs.size q cdv)) → SSs (cxOf CX0 P w K mg base N qual (defScope stm) q cdv A outer s H E).nox W0 ρ ΓL Γ0 (defBody stm) fb Γ')
    (hn : N.length = n := by rfl) (hp : ps.length = p := by rfl) (hΓ : List.replicate n false = Γ0 := by rfl) : MkI P w K mg base (k + 1) C x ρ (mDef n p fb) := by
  obtain ⟨q, fd, F, hm, mk, hbd⟩ := F.ex
  subst hn hp hΓ
  exact ⟨q, fd, ps, fn_ok F S (hb q), hm, mk, hbd⟩
end
end Vx

namespace Vx
open PySem PySem.Spec PyProof.Rows L2
theorem extend_ll (l b : Addr) (xs ys : Array Value) (n m : Nat) (sl : Array (Option Value)) (c0 : ¬ (!xs.isEmpty && Builtin.List.listTooLong (xs.size + ys.size)) = true) (c1 : xs.size ≤ sizeLine) (c2 : xs.size + ys.size ≤ sizeLine + 1) :
    Meets (Builtin.«list.extend» ⟨[.ref l, .ref b], []⟩) (fun _ R s => s.heap.get? l = some ⟨.type "list", none, .seq xs n, #[]⟩ ∧ s.heap.get? b = some ⟨.type "list", none, .seq ys m, sl⟩ ∧ R (.ok (.ret .none)) { s with heap := s.heap.update l (Obj.mapSeq fun z => z ++ ys), toks := s.toks }) := by
  refine .of_wp fun prog w A R s h => ?_
  obtain ⟨hp, gs, dr, tk, oo⟩ := s
  obtain ⟨h1, h2, h3⟩ := h
  have t1 := AutoSeq1.idx_int
  have t2 := AutoSeq1.sub_tuple_tuple
  have t3 := AutoSeq1.sub_list_list
  have t4 := AutoSeq1.sub_tuple_list
  have t5 := AutoSeq1.sub_list_tuple
  have c3 : (xs ++ ys).size ≤ sizeLine + 1 := by simpa using c2
  wp_walk using (wpAny_updateSeq h1 rfl (hz := c1) (_hz' := c3)), AutoSeq1.wpAny_loadPart' h1, AutoSeq1.wpAny_loadPart' h2
  exact ⟨_, rfl, h3⟩
def rExtS (K : PySem.W.Frag) : V → List V → Hp → VK → Prop := fun x vs H Q => ∃ l b xs zs, x = .ref l ∧ vs = [.ref b] ∧ H l = some (.lst xs) ∧ SqL K H b zs ∧ xs.length + zs.length ≤ sizeLine ∧ Q .non (upd H l (.lst (xs ++ zs)))
theorem mt_extS {X : Cx} : MtR X "list.extend" (rExtS X.K) := by
  intro pins s σ H x vs v us Q I rx rv h
  obtain ⟨l, b, xs, zs, rfl, rfl, hH, hB, hzz, qq⟩ := h
  cases rx
  obtain ⟨u, rfl, ru⟩ := rv.one
  cases ru
  obtain ⟨zl, its, n, r, hl, e⟩ := I.lstM hH
  obtain ⟨its2, r2, ⟨o, n2, e2, o1, o2, o3⟩, z2⟩ := I.list hB
  have hl2 := r2.length
  obtain ⟨cls, dict, data, sl⟩ := o
  simp only at o1 o2 o3
  subst o1 o2 o3
  have hsz : its.toArray.size + its2.toArray.size ≤ sizeLine := by simp; omega
  have hlong : ¬ (!its.toArray.isEmpty && Builtin.List.listTooLong (its.toArray.size + its2.toArray.size)) = true := fun hb => by
    rw [notLongL hsz] at hb
    simp at hb
  exact call_meets F.slot_list_extend ⟨_, e, rfl⟩ F.entry_list_extend (F.args_list_extend_2 _ _)
    (extend_ll l b its.toArray its2.toArray n n2 sl hlong (by rw [List.size_toArray]; omega) (by omega)) ⟨e, e2, ⟨.non, _, I.lset (its' := its ++ its2) hH e (by simp) (r.append r2) (by simp; omega), rfl, qq⟩⟩

def gExtend (xs ys : List D) : Option (D × List D) := match ys with
  | [.lst zs] => if szOk (xs.length + zs.length) = true then some (.non, xs ++ zs) else none
  | _ => none
theorem methd_extend {X : Cx} : MethD X "list.extend" gExtend := by
  refine ⟨_, mt_extS, fun N α H q xs ys zs d vs ws Q hq r ra e h => ?_⟩
  unfold gExtend at e
  split at e
  · rename_i us
    cases ra with
    | cons r0 rt =>
      cases rt
      obtain ⟨hc, e⟩ := ite_some e
      cases e
      cases r0 with
      | lst n hr rv => exact ⟨q, _, vs, _, rfl, rfl, hq, sqL_of hr, by rw [← r.length, ← rv.length]; exact szOk_le hc, h .non _ .non (r.append rv)⟩
      | lstK hk rv => exact ⟨q, _, vs, _, rfl, rfl, hq, hk.sq, by rw [← r.length, ← rv.length]; exact szOk_le hc, h .non _ .non (r.append rv)⟩
  · cases e
end Vx
namespace Vx
open PySem PySem.Spec L2
/-- for .. in a list of the store: its items as they are at each turn -/
def forO (g : D → Sl → Option Sl) (b : FS) (x : D) : Nat → Nat → Sl → Sto → Fl
  | 0, _, _, _ => .no
  | n + 1, i, l, s => match lstAt s x with
    | none => .no
    | some p => match p.2[i]? with
      | none => .nx l s
      | some d => match g d l with
        | none => .no
        | some l1 => match b l1 s with
          | .nx l2 s2 => forO g b x n (i + 1) l2 s2
          | .ct l2 s2 => forO g b x n (i + 1) l2 s2
          | .bk l2 s2 => .nx l2 s2
          | f => f
def sForO (o : FE) (g : D → Sl → Option Sl) (b : FS) : FS := fun l s => (o l s).fl l fun x s => forO g b x bigN 0 l s
section
variable {X : Cx} {W : WXc} {ρ : Bool} {Γ ΓL : List Bool} {fa : FE} {pos : Pos}
theorem ss_forO {tg iter : Expr} {body : List Stmt} {is : List Nat} {g : D → Sl → Option Sl} {fb : FS} (hp : PassesOwn (model X.prog X.w) X.A X.env X.xe) (hc : X.calm = true) (hi : SE X W Γ iter fa) (hg : SG X tg is g) (hb : SSs X W ρ Γ Γ body fb Γ) (hΓ : ∀ i ∈ is, Γ[i]? ≠ some true := by decide)
    (hs : ∀ x, foldedSetIterable iter X.env x = pure x := by intro _; rfl) : SS X W ρ ΓL Γ (.For tg iter body [] pos) (sForO fa g fb) Γ := by
  intro c sl st α σ H Dn R h
  refine ⟨_, ps_for hp hc (pi_list pe_wp) pg_wp pss_wp hs, ?_⟩
  refine hi c sl st α σ H _ R ((Vx.R.sat_fl.mp h).imp (fun x s1 hd v α1 H1 R1 S1 r1 => ?_) fun x s1 hx => hx Γ σ)
  cases e0 : Vx.lstAt s1 x with
  | none =>
    unfold bigN forO at hd
    simp only [e0] at hd
    exact False.elim hd
  | some w =>
    obtain ⟨n0, xs0⟩ := w
    obtain ⟨q, vs0, rfl, hq, hv, rv⟩ := R1.lstAt r1 e0
    obtain ⟨rfl, _⟩ := lstAt_some e0
    refine ⟨q, rfl, ⟨vs0, sqL_of (.of hv)⟩, ?_⟩
    refine ⟨fun i m σ' H' => ∃ sl' st' α', Rel X.K c Γ sl' st' α' σ' H' ∧ α'[n0]? = some q ∧ Stp (NN c Γ σ α1) α1 H1 (NN c Γ σ' α') α' H' ∧ FQ X.K W ρ ΓL c Γ α' σ' H' Dn Γ (forO g fb (.obj n0) m i sl' st'), ⟨bigN, sl, s1, α1, R1, hq, .refl, FQ.from S1.nn hd⟩, ?_⟩
    rintro i m σ2 H2 ⟨sl2, st2, α2, R2, hq2, S2, q2⟩
    cases m with
    | zero => exact False.elim q2
    | succ m =>
      unfold forO at q2
      cases e2 : Vx.lstAt st2 (.obj n0) with
      | none => simp only [e2] at q2; exact False.elim q2
      | some w =>
        obtain ⟨n2, xs⟩ := w
        simp only [e2] at q2
        obtain ⟨q', vs, eq2, hq3, hv2, rv2⟩ := R2.lstAt (.obj hq2) e2
        cases eq2
        have hS : SqL X.K H2 q vs := sqL_of (.of hv2)
        cases ei : xs[i]? with
        | none =>
          simp only [ei] at q2
          have hge : xs.length ≤ i := List.getElem?_eq_none_iff.mp ei
          exact .inl ⟨⟨vs, hS, by rw [← rv2.length]; exact hge⟩, q2 α2 σ2 H2 R2 .refl⟩
        | some d =>
          simp only [ei] at q2
          obtain ⟨vv, g1, g2⟩ := rv2.get ei
          refine .inr ⟨⟨vs, vv, hS, g1⟩, fun σ' H' => ∃ sl' st' α', Rel X.K c Γ sl' st' α' σ' H' ∧ α'[n0]? = some q ∧ Stp (NN c Γ σ α1) α1 H1 (NN c Γ σ' α') α' H' ∧ FQ X.K W ρ ΓL c Γ α' σ' H' Dn Γ (forO g fb (.obj n0) m (i + 1) sl' st'), ?_, ?_⟩
          · rintro σ' H' ⟨sl', st', α', h1, h2, h3, h4⟩
            exact ⟨m, Nat.lt_succ_self _, sl', st', α', h1, h2, h3, h4⟩
          · intro x H3 hy
            obtain ⟨rfl, hy⟩ := hy
            have ex := hy vs hS
            rw [g1] at ex
            cases ex
            cases eg : g d sl2 with
            | none => simp only [eg] at q2; exact False.elim q2
            | some l1 =>
              simp only [eg] at q2
              refine hg c Γ sl2 st2 α2 σ2 _ _ _ l1 _ hΓ R2 g2 eg fun σ4 R4 hl _ _ => ?_
              have S4 : Stp (NN c Γ σ2 α2) α2 H3 (NN c Γ σ4 α2) α2 H3 := stp_loc hl
              refine hb c l1 st2 α2 σ4 H3 _ R4 (loop_body (c0 := c) (FQ.from S4 q2).sat fun l s hq α' σ' H' R' S' => ?_)
              exact ⟨l, s, α', R', S'.at_ hq2, S2.trans (S4.trans S'), FQ.from S' hq⟩
end
end Vx

/-! VCompO: comprehensions over lists of the store. -/
namespace Vx
open PySem PySem.Spec L2
def compO (g : D → Sl → Option Sl) (t : FT) (e : FE) (l : Sl) (x : D) : Nat → Nat → List D → Sto → R D
  | 0, _, _, _ => .no
  | n + 1, i, acc, s => match lstAt s x with
    | none => .no
    | some p => match p.2[i]? with
      | none => .ok (.lst acc) s
      | some d => match g d l with
        | none => .no
        | some l1 => (t l1 s).nox.bind fun b s => if b = true then (e l1 s).nox.bind fun y s => if acc.length < 16777216 then compO g t e l x n (i + 1) (acc ++ [y]) s else .no else compO g t e l x n (i + 1) acc s
def mCompO (o : FE) (g : D → Sl → Option Sl) (t : FT) (e : FE) (vs : List Nat) : FE := fun l s => (o l s).bind fun x s => compO g t e (wipeD l vs) x bigN 0 [] s
section
variable {X : Cx} {W : WXc} {ρ : Bool} {Γ Γ' Γ'' ΓL : List Bool} {e a b : Expr} {es : List Expr} {s : Stmt} {ss : List Stmt} {f fa fb fc : FE} {x : Str} {pos p : Pos} {g1 g2 : FS}
variable {K : PySem.W.Frag} {N T : Addr → Prop} {α α' : List Addr} {H H' : Hp} {c c' : Cz} {sl : Sl} {st st' : Sto} {σ : St}

theorem comp_coreO {tg iter elt : Expr} {ifs : List Expr} {scope : Scope} {own : List (Str × Nat)} {is : List Nat} {g : D → Sl → Option Sl} {it : FE} {t : FT} {f : FE}
    (hi : SE X W Γ iter it) (hg : ∀ (s : Shared) (H : Hp) (C : Addr) (cl : List (Str × Addr)) (fp : List Addr), SG (X.blk s H scope (compEnvC scope cl C X.env) fp) tg is g) (hgo : TgOk is g) (his : ∀ i ∈ is, i ∈ own.map (·.2))
    (ht : ∀ (s : Shared) (H : Hp) (C : Addr) (cl : List (Str × Addr)) (fp : List Addr), STs (X.blk s H scope (compEnvC scope cl C X.env) fp) W0 Γ ifs t) (he : ∀ (s : Shared) (H : Hp) (C : Addr) (cl : List (Str × Addr)) (fp : List Addr), SE (X.blk s H scope (compEnvC scope cl C X.env) fp) W0 Γ elt f)
    (hΓ : ∀ i ∈ own.map (·.2), Γ[i]? ≠ some true) {Q : VK} (R : Rel X.K c Γ sl st α σ H) (h : (mCompO it g t f (own.map (·.2)) sl st).Sat (PQf X.K c Γ sl α σ H Q) (PX X.K c Γ sl σ W)) :
    tLc (iList X.K (wpE X iter)) (gU X scope tg)
      (tU X scope ifs)
      (eU X scope elt) (own.map (·.2)) σ H Q := by
  generalize hvs : own.map (·.2) = vs at *
  refine hi c sl st α σ H _ R ((Vx.R.sat_bind.mp h).imp (fun xd s1 hd v1 α1 H1 R1 S1 hJ => ?_) fun _ _ z => z)
  cases e0 : Vx.lstAt s1 xd with
  | none =>
    unfold bigN compO at hd
    simp only [e0] at hd
    exact False.elim hd
  | some w0 =>
  obtain ⟨n0, xs0⟩ := w0
  obtain ⟨q0, vs0, rfl, hq0, hv0, rv0⟩ := R1.lstAt hJ e0
  obtain ⟨rfl, _⟩ := lstAt_some e0
  refine ⟨q0, rfl, ⟨vs0, sqL_of (.of hv0)⟩, ?_⟩
  intro Dl hD
  obtain ⟨R1', SD⟩ := R1.new (o := .lst []) hD
  have dα : ∀ {α' : List Addr} {H' : Hp}, Ste α1 H1 α' H' → Dl ∈ α' → Dl ∈ α1 ∨ H1 Dl = none := fun S m => S.new Dl m
  refine ⟨fun i m H' => ∃ acc accV st' α', H' Dl = some (.lst accV) ∧ Rel X.K (c.add Dl) Γ (wipeD sl vs) st' α' (wipe σ vs) H' ∧ Ste α1 H1 α' H' ∧ RDs X.K (NN (c.add Dl) Γ (wipe σ vs) α') α' H' acc accV ∧
    (compO g t f (wipeD sl vs) (.obj n0) m i acc st').Sat (PQf X.K c Γ sl α σ H Q) (PX X.K c Γ sl σ W), ⟨bigN, [], [], s1, α1, upd_same, (R1'.wiped hΓ).1, .grow (same_upd hD), .nil, hd⟩, ?_⟩
  rintro i m H2 ⟨acc, accV, st2, α2, hD2, R2, S2, r2, q2⟩
  have lw := (R1'.wiped hΓ).2
  have hq2 : α2[n0]? = some q0 := (S2.nb (c := c)).at_ hq0
  cases m with
  | zero => exact False.elim q2
  | succ m =>
  unfold compO at q2
  cases e2 : Vx.lstAt st2 (.obj n0) with
  | none => simp only [e2] at q2; exact False.elim q2
  | some w2 =>
  obtain ⟨n2, xs⟩ := w2
  simp only [e2] at q2
  obtain ⟨q', vs2, eq2, hq3, hv2, rv2⟩ := R2.lstAt (.obj hq2) e2
  cases eq2
  have hSq : SqL X.K H2 q0 vs2 := sqL_of (.of hv2)
  cases ei : xs[i]? with
  | some dd =>
    simp only [ei] at q2
    obtain ⟨vv, g1, g2⟩ := rv2.get ei
    refine .inr ⟨⟨vs2, vv, hSq, g1⟩, fun H' => ∃ acc accV st' α', H' Dl = some (.lst accV) ∧ Rel X.K (c.add Dl) Γ (wipeD sl vs) st' α' (wipe σ vs) H' ∧ Ste α1 H1 α' H' ∧ RDs X.K (NN (c.add Dl) Γ (wipe σ vs) α') α' H' acc accV ∧
      (compO g t f (wipeD sl vs) (.obj n0) m (i + 1) acc st').Sat (PQf X.K c Γ sl α σ H Q) (PX X.K c Γ sl σ W), ?_, ?_⟩
    · rintro H' ⟨acc', accV', st', α', h1, h2, h3, h4, h5⟩
      exact ⟨m, Nat.lt_succ_self _, acc', accV', st', α', h1, h2, h3, h4, h5⟩
    · intro x H3 hy
      obtain ⟨eh, hy⟩ := hy
      subst eh
      have ex := hy vs2 hSq
      rw [g1] at ex
      cases ex
      have G : Same H3 H3 := Same.refl _
      have rx := g2
      have R3 := R2.grow G
      cases eg : g dd (wipeD sl vs) with
      | none => simp only [eg] at q2; exact False.elim q2
      | some l1 =>
        simp only [eg] at q2
        obtain ⟨gl, go'⟩ := hgo _ _ _ eg
        intro s9 H9 C9 cl9 fp9
        refine hg s9 H9 C9 cl9 fp9 (c.add Dl) Γ (wipeD sl vs) st2 α2 (wipe σ vs) H3 _ _ l1 _ (fun i m => hΓ i (his i m)) R3 rx eg fun σ4 R4 hl4 ln4 at4 => ?_
        have w4 : wipe σ4 vs = wipe σ vs := by
          have e1 : wipe σ4 vs = wipe (wipe σ vs) vs := wipe_same ln4 fun i hi => at4 i fun m => hi (his i m)
          rw [e1]
          exact wipe_same (wipe_length _ _) fun i hi => by rw [wipe_get, if_neg hi]
        have wl : wipeD l1 vs = wipeD sl vs := by
          have e1 : wipeD l1 vs = wipeD (wipeD sl vs) vs := wipeD_same gl fun i hi => go' i fun m => hi (his i m)
          rw [e1]
          exact wipeD_same (wipeD_length _ _) fun i hi => by rw [wipeD_get, if_neg hi]
        refine ⟨w4, ?_⟩
        have back : ∀ {st' : Sto} {α' : List Addr} {H' : Hp}, Rel X.K (c.add Dl) Γ l1 st' α' σ4 H' → Rel X.K (c.add Dl) Γ (wipeD sl vs) st' α' (wipe σ vs) H' := fun R' => by
          have := (R'.wiped hΓ).1
          rw [w4, wl] at this
          exact this
        have S3 : Ste α1 H1 α2 H3 := S2.trans (.grow G)
        have hD3 := G _ _ hD2
        have nnL : ∀ α' a, NN (c.add Dl) Γ (wipe σ vs) α' a ↔ NN (c.add Dl) Γ σ4 α' a := fun α' a => by
          unfold NN
          rw [hl4]
        intro s8 H8 C8 cl8 fp8
        refine ht s8 H8 C8 cl8 fp8 (c.add Dl) l1 st2 α2 σ4 H3 _ R4 (Vx.R.sat_nox (E := fun _ _ => True) ((Vx.R.sat_bind.mp q2).imp (fun k s5 hk α5 H5 R5 S5 => ?_) fun _ _ _ => trivial))
        have dα5 : Dl ∉ α2 := fun m => R3.αB Dl m (.inr rfl)
        have hD5 := S5.keep Dl _ hD3 dα5
        have r5 : RDs X.K (NN (c.add Dl) Γ (wipe σ vs) α5) α5 H5 acc accV := ((r2.step (.grow G)).step S5.nn : RDs X.K (NN (c.add Dl) Γ (wipe σ vs) α5) α5 H5 acc accV)
        cases k with
        | false =>
          rw [if_neg Bool.false_ne_true] at hk ⊢
          exact ⟨acc, accV, s5, α5, hD5, back R5, S3.trans S5, r5, hk⟩
        | true =>
          rw [if_pos rfl] at hk ⊢
          intro s7 H7 C7 cl7 fp7
          refine he s7 H7 C7 cl7 fp7 (c.add Dl) l1 s5 α5 σ4 H5 _ R5 (Vx.R.sat_nox (E := fun _ _ => True) ((Vx.R.sat_bind.mp hk).imp (fun y s6 hy6 vy α6 H6 R6 S6 ry => ?_) fun _ _ _ => trivial))
          have dα6 : Dl ∉ α5 := fun m => R5.αB Dl m (.inr rfl)
          have hD6 := S6.keep Dl _ hD5 dα6
          have r6 := r5.step S6.nn
          by_cases hz : acc.length < 16777216
          · rw [if_pos hz] at hy6
            refine ⟨accV, hD6, by rw [← r6.length, sizeLine_eq]; exact hz, ?_⟩
            obtain ⟨R7, S7⟩ := (back R6).barred (o' := .lst (accV ++ [vy])) hD6 (R1.fresh0 hD)
            refine ⟨acc ++ [y], accV ++ [vy], s6, α6, upd_same, R7, ?_, (r6.append (.cons (ry.step (.less fun a z => (nnL α6 a).mp z)) .nil)).step S7, hy6⟩
            have S16 := S3.trans (S5.trans S6)
            exact ⟨S16.pre, S16.new, fun a o e n => by rw [upd_ne (ne_of_none e hD)]; exact S16.keep a o e n⟩
          · rw [if_neg hz] at hy6
            exact False.elim hy6
  | none =>
    simp only [ei] at q2
    have hge : xs.length ≤ i := List.getElem?_eq_none_iff.mp ei
    refine .inl ⟨⟨vs2, hSq, by rw [← rv2.length]; exact hge⟩, ?_⟩
    have q2 : PQf X.K c Γ sl α σ H Q (.lst acc) st2 := q2
    have nn2 : ∀ a, NN (c.add Dl) Γ σ α2 a ↔ NN (c.add Dl) Γ (wipe σ vs) α2 a := fun a => by
      unfold NN
      rw [lw]
    have R3 : Rel X.K (c.add Dl) Γ sl st2 α2 σ H2 := R1.carry S2 (fun a z => z.elim .inl fun z => .inr ⟨by rw [z]; exact hD, by rw [z, hD2]; exact (fun z => nomatch z), by rw [z]; exact fun m => R2.αB Dl m (.inr rfl)⟩) rfl rfl
      (R2.sto.step (.less fun a z => (nn2 a).mp z) fun _ _ => rfl) fun a m z => R2.αB a m (.inl z)
    refine q2 Dl (.lst accV) α2 H2 ?_ hD2 R3 (S1.trans S2) (r2.step (.less fun a z => (nn2 a).mp z))
    cases q : H Dl with
    | none => rfl
    | some o =>
      by_cases mα : Dl ∈ α
      · obtain ⟨t, e⟩ := S1.pre
        exact absurd hD (R1.sto.tr (by rw [e]; exact List.mem_append_left _ mα))
      · rw [S1.keep Dl o q mα] at hD
        cases hD
theorem sf_compO {tg iter elt : Expr} {ifs : List Expr} {scope : Scope} {own : List (Str × Nat)} {is vs : List Nat} {g : D → Sl → Option Sl} {it : FE} {t : FT} {f : FE} (hc : X.calm = true) (hN : X.N.Nodup) (hi : SE X W Γ iter it) (ok : BlkOk X.N X.env.scope scope own)
    (hg : ∀ (s : Shared) (H : Hp) (C : Addr) (cl : List (Str × Addr)) (fp : List Addr), SG (X.blk s H scope (compEnvC scope cl C X.env) fp) tg is g) (hgo : TgOk is g) (his : ∀ i ∈ is, i ∈ vs)
    (ht : ∀ (s : Shared) (H : Hp) (C : Addr) (cl : List (Str × Addr)) (fp : List Addr), STs (X.blk s H scope (compEnvC scope cl C X.env) fp) W0 Γ ifs t) (he : ∀ (s : Shared) (H : Hp) (C : Addr) (cl : List (Str × Addr)) (fp : List Addr), SE (X.blk s H scope (compEnvC scope cl C X.env) fp) W0 Γ elt f)
    (hΓ : ∀ i ∈ vs, Γ[i]? ≠ some true) (hs : ∀ x, foldedSetIterable iter X.env x = pure x := by intro _; rfl) (hvs : own.map (·.2) = vs := by rfl) : SF X W Γ (.ListComp elt [⟨tg, iter, ifs, 0⟩] scope pos) (mCompO it g t f vs) := by
  subst hvs
  intro c sl st α σ H Q R h
  exact ⟨_, pe_lc hc hN (pi_list pe_wp) ok pg_gU pt_tU pe_eU hs, comp_coreO hi hg hgo his ht he hΓ R h⟩
end
end Vx

/-! VRep: a new list times an int. -/
namespace Vx
open PySem PySem.Spec L2
def gRep : D → D → Option D
  | .lst xs, .int k => if (decide (0 ≤ k) && decide (k < 16777216) && szOk (xs.length * k.toNat)) = true then some (.lst (List.replicate k.toNat xs).flatten) else none
  | _, _ => none
def mRep (a b : FE) : FE := fun l s => (a l s).bind fun x s => (b l s).nox.bind fun y s => liftO (gRep x y) s
section
variable {X : Cx} {W : WXc} {ρ : Bool} {Γ Γ' Γ'' ΓL : List Bool} {e a b : Expr} {es : List Expr} {s : Stmt} {ss : List Stmt} {f fa fb fc : FE} {x : Str} {pos p : Pos} {g1 g2 : FS}
variable {K : PySem.W.Frag} {N T : Addr → Prop} {α α' : List Addr} {H H' : Hp} {c c' : Cz} {sl : Sl} {st st' : Sto} {σ : St}
theorem RDs.rep {xs : List D} {vs : List V} (r : RDs K N α H xs vs) : ∀ n : Nat, RDs K N α H (List.replicate n xs).flatten (List.replicate n vs).flatten
  | 0 => .nil
  | n + 1 => by
    rw [List.replicate_succ, List.replicate_succ, List.flatten_cons, List.flatten_cons]
    exact r.append (RDs.rep r n)
theorem sf_rep (ha : SF X W Γ a fa) (hb : SE X W0 Γ b fb) : SF X W Γ (.BinOp a .Mult b pos) (mRep fa fb) := by
  intro c sl st α σ H Q R h
  refine ⟨_, pe_op op_rep pe_wp pe_wp, ?_⟩
  refine ha c sl st α σ H _ R ((Vx.R.sat_bind.mp h).imp (fun x s1 hx p o α1 H1 hp ho R1 S1 r1 => ?_) fun _ _ z => z)
  refine hb (c.add p) sl s1 α1 σ H1 _ R1 (Vx.R.sat_nox (E := fun _ _ => True) ((Vx.R.sat_bind.mp hx).imp (fun y s2 hy vy α2 H2 R2 S2 d2 => ?_) fun _ _ _ => trivial))
  cases eg : gRep x y with
  | none => rw [eg] at hy; exact False.elim hy
  | some d =>
    rw [eg] at hy
    unfold gRep at eg
    split at eg
    · rename_i xs k
      obtain ⟨hc, rfl⟩ := ite_some eg
      simp only [Bool.and_eq_true, decide_eq_true_eq] at hc
      obtain ⟨⟨h0, h1⟩, h2⟩ := hc
      cases d2
      cases o with
      | lst vs =>
        have rl : RDs X.K (NN (c.add p) Γ σ α1) α1 H1 xs vs := r1
        have dα : p ∉ α1 := fun m => R1.αB p m (.inr rfl)
        have hp2 := S2.keep p _ ho dα
        have hl := szOk_le h2
        refine ⟨p, k, vs, rfl, rfl, hp2, by omega, by omega, by rw [← rl.length]; exact hl, fun q hq => ?_⟩
        have r2 : RDs X.K (NN c Γ σ α2) α2 H2 xs vs := (rl.step S2.nn).step (.less nn_less)
        exact PQf.new (o := .lst (List.replicate k.toNat vs).flatten) hy R2.drop (S1.trans S2) (fun _ m => R.sto.tr m) hq (r2.rep k.toNat)
      | _ => exact False.elim r1
    · cases eg
end
end Vx

/-! VAddO: + of two lists that stand in the store, as a new list. -/
namespace Vx
open PySem PySem.Spec L2
section
variable {X : Cx} {W : WXc} {Γ : List Bool} {a b : Expr} {fa fb : FE} {pos : Pos}
theorem sf_addO (ha : SB X W Γ a fa) (hb : SB X W Γ b fb) : SF X W Γ (.BinOp a .Add b pos) (mBinO gAddL fa fb) := by
  intro c sl st α σ H Q R h
  refine ⟨_, pe_op op_catS pe_wp pe_wp, ?_⟩
  refine ha c sl st α σ H _ R ((Vx.R.sat_bind.mp h).imp (fun x s1 hx vx α1 H1 R1 S1 d1 => ?_) fun _ _ z => z)
  refine hb c sl s1 α1 σ H1 _ R1 ((Vx.R.sat_bind.mp hx).imp (fun y s2 hy vy α2 H2 R2 S2 d2 => ?_) fun _ _ z => z)
  have e1 := RB.drf R2 (d1.step S2.nb S2.nn)
  have e2 := RB.drf R2 d2
  cases eg : gAddL (drf s2 x) (drf s2 y) with
  | none => rw [eg] at hy; exact False.elim hy
  | some d =>
    rw [eg] at hy
    generalize drf s2 x = x' at eg e1
    generalize drf s2 y = y' at eg e2
    unfold gAddL at eg
    split at eg
    · obtain ⟨hc, rfl⟩ := ite_some eg
      obtain ⟨q, vs, rfl, hs, r⟩ := e1.lst
      obtain ⟨q2, ws, rfl, hs2, r2⟩ := e2.lst
      exact ⟨q, q2, vs, ws, rfl, rfl, hs, hs2, by rw [← r.length, ← r2.length]; exact szOk_le hc, fun p hp => PQf.new hy R2 (S1.trans S2) (fun _ m => R.sto.tr m) hp (r.append r2)⟩
    · cases eg
end
section
variable {X : Cx} {W : WXc} {ρ : Bool} {Γ Γ' Γ'' ΓL : List Bool} {e a b : Expr} {es : List Expr} {s : Stmt} {ss : List Stmt} {f fa fb fc : FE} {x : Str} {pos p : Pos} {g1 g2 : FS}
variable {K : PySem.W.Frag} {N T : Addr → Prop} {α α' : List Addr} {H H' : Hp} {c c' : Cz} {sl : Sl} {st st' : Sto} {σ : St}
/-- name = [..] on one line, the name a local -/
theorem ss_setLcO (i : Nat) {y : Str} {py : Pos} {tg iter elt : Expr} {ifs : List Expr} {scope : Scope} {own : List (Str × Nat)} {is vs : List Nat} {g : D → Sl → Option Sl} {it : FE} {t : FT} {f : FE} {spos : Pos} (hc : X.calm = true) (hN : X.N.Nodup) (hy : X.N[i]? = some y) (hyl : X.env.scope.names.lookup y = some .local)
    (hsw : swapsWith (.ListComp elt [⟨tg, iter, ifs, 0⟩] scope pos) (some (.Name y py)) spos.line X.env = pure true) (hi : SE X W Γ iter it) (ok : BlkOk X.N X.env.scope scope own)
    (hg : ∀ (s : Shared) (H : Hp) (C : Addr) (cl : List (Str × Addr)) (fp : List Addr), SG (X.blk s H scope (compEnvC scope cl C X.env) fp) tg is g) (hgo : TgOk is g) (his : ∀ i ∈ is, i ∈ vs)
    (ht : ∀ (s : Shared) (H : Hp) (C : Addr) (cl : List (Str × Addr)) (fp : List Addr), STs (X.blk s H scope (compEnvC scope cl C X.env) fp) W0 Γ ifs t) (he : ∀ (s : Shared) (H : Hp) (C : Addr) (cl : List (Str × Addr)) (fp : List Addr), SE (X.blk s H scope (compEnvC scope cl C X.env) fp) W0 Γ elt f)
    (hΓ : ∀ i ∈ vs, Γ[i]? ≠ some true) (hgl : i < Γ.length := by decide) (hs : ∀ x, foldedSetIterable iter X.env x = pure x := by intro _; rfl) (hvs : own.map (·.2) = vs := by rfl) : SS X W ρ ΓL Γ (.Assign [.Name y py] (.ListComp elt [⟨tg, iter, ifs, 0⟩] scope pos) spos) (sSetF i (mCompO it g t f vs)) (Γ.set i true) := by
  subst hvs
  intro c sl st α σ H Dn R h
  refine ⟨_, ps_setLc hc hN hy hyl hsw (pi_list pe_wp) ok pg_gU pt_tU pe_eU hs, ?_⟩
  refine comp_coreO hi hg hgo his ht he hΓ R ((Vx.R.sat_fl.mp h).imp (fun d s1 hd => ?_) fun x s1 hx => hx Γ σ)
  by_cases hl : i < sl.length
  · rw [if_pos hl] at hd
    exact set_own_core R hgl hl hd
  · rw [if_neg hl] at hd
    exact False.elim hd
/-- name = [.. for ..], into the store -/
theorem ss_setLcBO (i : Nat) {y : Str} {py : Pos} {tg iter elt : Expr} {ifs : List Expr} {scope : Scope} {own : List (Str × Nat)} {is vs : List Nat} {g : D → Sl → Option Sl} {it : FE} {t : FT} {f : FE} {spos : Pos} (hc : X.calm = true) (hN : X.N.Nodup) (hy : X.N[i]? = some y) (hyl : X.env.scope.names.lookup y = some .local)
    (hsw : swapsWith (.ListComp elt [⟨tg, iter, ifs, 0⟩] scope pos) (some (.Name y py)) spos.line X.env = pure true) (hi : SE X W Γ iter it) (ok : BlkOk X.N X.env.scope scope own)
    (hg : ∀ (s : Shared) (H : Hp) (C : Addr) (cl : List (Str × Addr)) (fp : List Addr), SG (X.blk s H scope (compEnvC scope cl C X.env) fp) tg is g) (hgo : TgOk is g) (his : ∀ i ∈ is, i ∈ vs)
    (ht : ∀ (s : Shared) (H : Hp) (C : Addr) (cl : List (Str × Addr)) (fp : List Addr), STs (X.blk s H scope (compEnvC scope cl C X.env) fp) W0 Γ ifs t) (he : ∀ (s : Shared) (H : Hp) (C : Addr) (cl : List (Str × Addr)) (fp : List Addr), SE (X.blk s H scope (compEnvC scope cl C X.env) fp) W0 Γ elt f)
    (hΓ : ∀ i ∈ vs, Γ[i]? ≠ some true) (hΓi : Γ[i]? ≠ some true := by decide) (hs : ∀ x, foldedSetIterable iter X.env x = pure x := by intro _; rfl) (hvs : own.map (·.2) = vs := by rfl) : SS X W ρ ΓL Γ (.Assign [.Name y py] (.ListComp elt [⟨tg, iter, ifs, 0⟩] scope pos) spos) (sSet i (mBox (mCompO it g t f vs))) Γ := by
  subst hvs
  intro c sl st α σ H Dn R h
  refine ⟨_, ps_setLc hc hN hy hyl hsw (pi_list pe_wp) ok pg_gU pt_tU pe_eU hs, ?_⟩
  refine comp_coreO hi hg hgo his ht he hΓ R ((Vx.R.sat_bind.mp (Vx.R.sat_fl.mp h)).imp (fun d s1 hd => ?_) fun x s1 hx => hx Γ σ)
  refine PQ.box R (E := fun _ _ => True) (Vx.R.Sat.imp (r := boxR d s1) hd (fun d s1 hd v α1 H1 R1 S1 r1 => ?_) fun _ _ _ => trivial)
  exact hd α1 _ H1 (R1.set hΓi r1) (S1.nn.trans (.less fun a z => (nn_set hΓi a).mp z))

end
end Vx

namespace Law
open PySem Vx
def b_Letters___init__ (ca : Nat → Nat) : FS := (sSeq (sFldD (ca 0) "most" (mV 0) (mV 1))
 (sFldD (ca 0) "line" (mV 0) (mBox (mLst mNil))))
def m_Letters___init__ (ca : Nat → Nat) : List D → Sto → Vx.R D := mDef 2 2 (b_Letters___init__ ca)
def b__law_cell_at : FS := (sSeq (sIf (mT (mBin gEq (mArgs gLen (mCons (mV 0) mNil)) (mC (.int 0))))
 (sRet (mC (.int 0)))
 sNil)
 (sRet (mBin gIx (mV 0) (mBin gMod (mV 1) (mArgs gLen (mCons (mV 0) mNil))))))
def m__law_cell_at : List D → Sto → Vx.R D := mDef 2 2 b__law_cell_at
def b__law_mixed : FS := (sSeq (sSet 3 (mCall m__law_cell_at (mCons (mV 0) (mCons (mV 1) mNil))))
 (sSeq (sSet 4 (mBin gDiv (mV 1) (mArgs gMax2 (mCons (mC (.int 1)) (mCons (mArgs gLen (mCons (mV 0) mNil)) mNil)))))
 (sSeq (sSet 5 (mBin gAdd (mBin gAdd (mBin gAdd (mBin gMask (mV 3) (mC (.int 2147483647))) (mBin gMul (mBin gMul (mC (.int 1009)) (mV 1)) (mV 1))) (mBin gMul (mBin gMul (mC (.int 7919)) (mV 2)) (mV 2))) (mC (.int 12))))
 (sSeq (sSet 5 (mBin gMod (mBin gMul (mV 5) (mC (.int 48271))) (mC (.int 2147483647))))
 (sSeq (sSet 5 (mBin gMod (mBin gMul (mV 5) (mV 5)) (mC (.int 2147483629))))
 (sRet (mBin gMask (mBin gAdd (mBin gShr (mV 3) (mBin gMul (mC (.int 31)) (mBin gAdd (mV 2) (mBin gMul (mC (.int 128)) (mV 4))))) (mV 5)) (mC (.int 2147483647)))))))))
def m__law_mixed : List D → Sto → Vx.R D := mDef 6 3 b__law_mixed
def b__law_depths : FS := (sSeq (sSetF 2 (mLst (mCons (mC (.int 0)) mNil)))
 (sSeq (sFor (itRg2 (mCons (mC (.int 1)) (mCons (mV 1) mNil))) (tg1 3)
 (sApp 2 (mBin gAdd (mC (.int 1)) (mBin gMod (mCall m__law_mixed (mCons (mV 0) (mCons (mBin gAdd (mC (.int 8)) (mV 3)) (mCons (mC (.int 1)) mNil)))) (mBin gAdd (mArgs gMin2 (mCons (mBin gIx (mV 2) (mBin gSub (mV 3) (mC (.int 1)))) (mCons (mC (.int 3)) mNil))) (mC (.int 1)))))))
 (sRet (mV 2))))
def m__law_depths : List D → Sto → Vx.R D := mDef 4 2 b__law_depths
def b__law_name : FS := (sSeq (sSet 2 (mBin gIx (mLst (mCons (mC (.str "")) (mCons (mC (.str "hall")) (mCons (mC (.str "quiet")) (mCons (mC (.str "aaaaaaaaaaa")) mNil))))) (mBin gMod (mV 1) (mC (.int 4)))))
 (sSeq (sSet 3 (mBin gMod (mBin gDiv (mV 1) (mC (.int 4))) (mBin gAdd (mArgs gLen (mCons (mV 2) mNil)) (mC (.int 1)))))
 (sRet (mBin gAdd (mBin gAdd (mCut (mV 2) mNoO (mO (mV 3))) (mBin gIx (mC (.str "abcdefghijklmnopqrstuvwxyz")) (mBin gMod (mV 0) (mC (.int 26))))) (mCut (mV 2) (mO (mV 3)) mNoO)))))
def m__law_name : List D → Sto → Vx.R D := mDef 4 2 b__law_name
def b__law_deed : FS := (sSeq (sSet 3 (mBin gIx (mLst (mCons (mC (.int 0)) (mCons (mC (.int 1)) (mCons (mC (.int 1)) (mCons (mC (.int 2)) (mCons (mC (.int 3)) mNil)))))) (mBin gMod (mV 0) (mC (.int 5)))))
 (sSeq (sSet 4 (mBin gDiv (mV 0) (mC (.int 5))))
 (sSeq (sIf (mAnd (mT (mBin gEq (mV 3) (mC (.int 1)))) (mT (mBin gGt (mV 2) (mC (.int 0)))))
 (sRet (mTup (mCons (mC (.str "send")) (mCons (mBin gMod (mV 4) (mV 2)) mNil))))
 sNil)
 (sSeq (sIf (mAnd (mT (mBin gEq (mV 3) (mC (.int 2)))) (mT (mBin gGt (mArgs gLen (mCons (mV 1) mNil)) (mC (.int 0)))))
 (sSeq (sSet 5 (mBin gMod (mV 4) (mArgs gLen (mCons (mV 1) mNil))))
 (sRet (mTup (mCons (mC (.str "set")) (mCons (mV 5) (mCons (mBin gMod (mBin gDiv (mV 4) (mC (.int 6))) (mBin gIx (mV 1) (mV 5))) mNil))))))
 sNil)
 (sSeq (sIf (mAnd (mT (mBin gEq (mV 3) (mC (.int 3)))) (mAnd (mT (mBin gGt (mArgs gLen (mCons (mV 1) mNil)) (mC (.int 0)))) (mT (mBin gEq (mBin gMod (mBin gDiv (mV 4) (mC (.int 54))) (mC (.int 5))) (mC (.int 0))))))
 (sRet (mTup (mCons (mC (.str "add")) (mCons (mBin gMod (mV 4) (mArgs gLen (mCons (mV 1) mNil))) (mCons (mBin gMul (mBin gAdd (mBin gMul (mV 4) (mBin gPow (mC (.int 10)) (mC (.int 20)))) (mV 4)) (mBin gSub (mC (.int 1)) (mBin gMul (mC (.int 2)) (mBin gMod (mBin gDiv (mV 4) (mC (.int 6))) (mC (.int 2)))))) mNil)))))
 sNil)
 (sSeq (sIf (mAnd (mT (mBin gEq (mV 3) (mC (.int 3)))) (mT (mBin gGt (mArgs gLen (mCons (mV 1) mNil)) (mC (.int 0)))))
 (sRet (mTup (mCons (mC (.str "add")) (mCons (mBin gMod (mV 4) (mArgs gLen (mCons (mV 1) mNil))) (mCons (mBin gSub (mBin gMod (mBin gDiv (mV 4) (mC (.int 6))) (mC (.int 9))) (mC (.int 4))) mNil)))))
 sNil)
 (sSeq (sIf (mT (mBin gEq (mBin gMod (mV 4) (mC (.int 2))) (mC (.int 0))))
 (sRet (mTup (mCons (mC (.str "say")) (mCons (mC (.str "hum")) mNil))))
 sNil)
 (sRet (mTup (mCons (mC (.str "say")) (mCons (mCall m__law_name (mCons (mBin gMod (mBin gDiv (mV 4) (mC (.int 2))) (mC (.int 3))) (mCons (mBin gDiv (mV 4) (mC (.int 6))) mNil))) mNil)))))))))))
def m__law_deed : List D → Sto → Vx.R D := mDef 6 3 b__law_deed
def b__law_deeds : FS := (sSeq (sSet 5 (mCall m__law_mixed (mCons (mV 0) (mCons (mV 1) (mCons (mV 2) mNil)))))
 (sSeq (sSet 6 (mBin gIx (mLst (mCons (mC (.int 0)) (mCons (mC (.int 0)) (mCons (mC (.int 1)) (mCons (mC (.int 1)) (mCons (mC (.int 1)) (mCons (mC (.int 2)) (mCons (mC (.int 2)) (mCons (mC (.int 3)) mNil))))))))) (mBin gMod (mV 5) (mC (.int 8)))))
 (sSeq (sSetF 7 (mLst mNil))
 (sSeq (sFor (itRg1 (mCons (mV 6) mNil)) (tg1 8)
 (sApp 7 (mCall m__law_deed (mCons (mCall m__law_mixed (mCons (mV 0) (mCons (mV 1) (mCons (mBin gAdd (mBin gAdd (mV 2) (mC (.int 1))) (mV 8)) mNil)))) (mCons (mV 3) (mCons (mV 4) mNil))))))
 (sRet (mArgs gTuple (mCons (mV 7) mNil)))))))
def m__law_deeds : List D → Sto → Vx.R D := mDef 9 5 b__law_deeds
def b__law_guard (mrec : List D → Sto → Vx.R D) : FS := (sSeq (sSet 4 (mBin gMod (mV 0) (mC (.int 9))))
 (sSeq (sSet 5 (mBin gDiv (mV 0) (mC (.int 9))))
 (sSeq (sIf (mAnd (mT (mBin gGt (mV 3) (mC (.int 1)))) (mT (mBin gEq (mV 4) (mC (.int 1)))))
 (sRet (mTup (mCons (mC (.str "not")) (mCons (mCall mrec (mCons (mV 5) (mCons (mV 1) (mCons (mV 2) (mCons (mBin gSub (mV 3) (mC (.int 1))) mNil))))) mNil))))
 sNil)
 (sSeq (sIf (mAnd (mT (mBin gGt (mV 3) (mC (.int 1)))) (mT (mBin gEq (mV 4) (mC (.int 2)))))
 (sRet (mTup (mCons (mC (.str "both")) (mCons (mCall mrec (mCons (mV 5) (mCons (mV 1) (mCons (mV 2) (mCons (mBin gSub (mV 3) (mC (.int 1))) mNil))))) (mCons (mCall mrec (mCons (mBin gDiv (mV 5) (mC (.int 50))) (mCons (mV 1) (mCons (mV 2) (mCons (mBin gSub (mV 3) (mC (.int 1))) mNil))))) mNil)))))
 sNil)
 (sSeq (sIf (mAnd (mT (mBin gGt (mV 3) (mC (.int 1)))) (mT (mBin gEq (mV 4) (mC (.int 3)))))
 (sRet (mTup (mCons (mC (.str "either")) (mCons (mCall mrec (mCons (mV 5) (mCons (mV 1) (mCons (mV 2) (mCons (mBin gSub (mV 3) (mC (.int 1))) mNil))))) (mCons (mCall mrec (mCons (mBin gDiv (mV 5) (mC (.int 50))) (mCons (mV 1) (mCons (mV 2) (mCons (mBin gSub (mV 3) (mC (.int 1))) mNil))))) mNil)))))
 sNil)
 (sSeq (sIf (mOr (mT (mBin gEq (mV 4) (mC (.int 4)))) (mT (mBin gEq (mV 4) (mC (.int 5)))))
 (sRet (mTup (mCons (mC (.str "in")) (mCons (mBin gMod (mV 5) (mV 1)) mNil))))
 sNil)
 (sSeq (sIf (mAnd (mT (mBin gEq (mV 4) (mC (.int 6)))) (mT (mBin gGt (mV 2) (mC (.int 0)))))
 (sRet (mTup (mCons (mC (.str "is")) (mCons (mBin gMod (mV 5) (mV 2)) (mCons (mBin gMod (mBin gDiv (mV 5) (mC (.int 6))) (mC (.int 4))) mNil)))))
 sNil)
 (sSeq (sIf (mAnd (mT (mBin gEq (mV 4) (mC (.int 7)))) (mT (mBin gGt (mV 2) (mC (.int 0)))))
 (sRet (mTup (mCons (mC (.str "under")) (mCons (mBin gMod (mV 5) (mV 2)) (mCons (mBin gMod (mBin gDiv (mV 5) (mC (.int 6))) (mC (.int 5))) mNil)))))
 sNil)
 (sRet (mTup (mCons (mC (.str "yes")) mNil)))))))))))
def r__law_guard : Nat → List D → Sto → Vx.R D
  | 0 => fun _ _ => .no
  | n + 1 => mDef 6 4 (b__law_guard (r__law_guard n))
def m__law_guard : List D → Sto → Vx.R D := r__law_guard 50
def b__law_doors : FS := (sSeq (sSetF 5 (mLst mNil))
 (sSeq (sFor (itRg1 (mCons (mBin gMul (mV 1) (mArgs gInt1 (mCons (mBin gGt (mV 4) (mC (.int 0))) mNil))) mNil)) (tg1 6)
 (sSeq (sSet 7 (mCall m__law_mixed (mCons (mV 0) (mCons (mBin gAdd (mC (.int 23)) (mV 6)) (mCons (mC (.int 3)) mNil)))))
 (sSeq (sSet 8 (mBin gMod (mBin gDiv (mV 7) (mC (.int 15))) (mArgs gLen (mCons (mV 2) mNil))))
 (sSeq (sSet 9 (mBin gIx (mLst (mCons (mC (.str "to")) (mCons (mC (.str "to")) (mCons (mC (.str "back")) (mCons (mC (.str "back")) (mCons (mC (.str "stay")) mNil)))))) (mBin gMod (mV 7) (mC (.int 5)))))
 (sSeq (sSetF 10 (mComp (itRg1 (mCons (mArgs gLen (mCons (mV 2) mNil)) mNil)) (tg1 11) (mT (mBin gNe (mBin gIx (mBin gIx (mV 2) (mV 11)) (mC (.int 3))) (mC (.str "")))) (mV 11) [11]))
 (sSeq (sIf (mAnd (mT (mBin gEq (mV 9) (mC (.str "back")))) (mT (mBin gEq (mArgs gLen (mCons (mV 10) mNil)) (mC (.int 0)))))
 (sSet 9 (mC (.str "to")))
 sNil)
 (sSeq (sIf (mT (mBin gEq (mV 9) (mC (.str "back"))))
 (sSet 8 (mBin gIx (mV 10) (mBin gMod (mV 8) (mArgs gLen (mCons (mV 10) mNil)))))
 sNil)
 (sSeq (sIf (mT (mBin gEq (mV 9) (mC (.str "stay"))))
 (sSet 8 (mC .non))
 sNil)
 (sSeq (sSet 12 (mTup (mCons (mC (.str "yes")) mNil)))
 (sSeq (sIf (mT (mBin gEq (mBin gMod (mBin gDiv (mV 7) (mC (.int 1000))) (mC (.int 2))) (mC (.int 0))))
 (sSet 12 (mCall m__law_guard (mCons (mCall m__law_mixed (mCons (mV 0) (mCons (mBin gAdd (mC (.int 23)) (mV 6)) (mCons (mC (.int 4)) mNil)))) (mCons (mArgs gLen (mCons (mV 2) mNil)) (mCons (mArgs gLen (mCons (mV 3) mNil)) (mCons (mC (.int 3)) mNil))))))
 sNil)
 (sSeq (sSet 13 (mCall m__law_deeds (mCons (mV 0) (mCons (mBin gAdd (mC (.int 23)) (mV 6)) (mCons (mC (.int 30)) (mCons (mV 3) (mCons (mV 4) mNil)))))))
 (sApp 5 (mTup (mCons (mBin gMod (mCall m__law_mixed (mCons (mV 0) (mCons (mBin gAdd (mC (.int 23)) (mV 6)) (mCons (mC (.int 5)) mNil)))) (mArgs gLen (mCons (mV 2) mNil))) (mCons (mBin gMod (mBin gMod (mBin gDiv (mV 7) (mC (.int 5))) (mC (.int 3))) (mV 4)) (mCons (mV 12) (mCons (mV 13) (mCons (mV 9) (mCons (mV 8) mNil)))))))))))))))))))
 (sRet (mArgs gTuple (mCons (mV 5) mNil)))))
def m__law_doors : List D → Sto → Vx.R D := mDef 14 5 b__law_doors
def b__law_rooms : FS := (sSeq (sSetF 4 (mLst mNil))
 (sSeq (sFor (itRg1 (mCons (mArgs gLen (mCons (mV 1) mNil)) mNil)) (tg1 5)
 (sSeq (sSet 6 (mCall m__law_mixed (mCons (mV 0) (mCons (mBin gAdd (mC (.int 8)) (mV 5)) (mCons (mC (.int 2)) mNil)))))
 (sSeq (sSet 7 (mC (.str "plain")))
 (sSeq (sSet 8 (mC (.str "")))
 (sSeq (sIf (mAnd (mT (mBin gLt (mBin gAdd (mV 5) (mC (.int 1))) (mArgs gLen (mCons (mV 1) mNil)))) (mT (mBin gGt (mBin gIx (mV 1) (mBin gAdd (mV 5) (mC (.int 1)))) (mBin gIx (mV 1) (mV 5)))))
 (sSeq (sSet 7 (mBin gIx (mLst (mCons (mC (.str "one")) (mCons (mC (.str "one")) (mCons (mC (.str "all")) mNil)))) (mBin gMod (mV 6) (mC (.int 3)))))
 (sSet 8 (mBin gIx (mLst (mCons (mC (.str "")) (mCons (mC (.str "near")) (mCons (mC (.str "deep")) mNil)))) (mBin gMod (mBin gDiv (mV 6) (mC (.int 3))) (mC (.int 3))))))
 sNil)
 (sSeq (sIf (mAnd (mT (mBin gEq (mV 7) (mC (.str "all")))) (mT (mBin gEq (mV 8) (mC (.str "near")))))
 (sSet 8 (mC (.str "deep")))
 sNil)
 (sSeq (sSet 9 (mC (.str "")))
 (sSeq (sIf (mT (mBin gEq (mBin gMod (mBin gDiv (mV 6) (mC (.int 9))) (mC (.int 3))) (mC (.int 0))))
 (sSet 9 (mCall m__law_name (mCons (mBin gMod (mBin gDiv (mV 6) (mC (.int 27))) (mC (.int 3))) (mCons (mBin gDiv (mV 6) (mC (.int 81))) mNil))))
 sNil)
 (sSeq (sSet 10 (mCall m__law_deeds (mCons (mV 0) (mCons (mBin gAdd (mC (.int 8)) (mV 5)) (mCons (mC (.int 10)) (mCons (mV 2) (mCons (mV 3) mNil)))))))
 (sSeq (sSet 11 (mCall m__law_deeds (mCons (mV 0) (mCons (mBin gAdd (mC (.int 8)) (mV 5)) (mCons (mC (.int 20)) (mCons (mV 2) (mCons (mV 3) mNil)))))))
 (sApp 4 (mTup (mCons (mCall m__law_name (mCons (mV 5) (mCons (mBin gMod (mCall m__law_cell_at (mCons (mV 0) (mCons (mC (.int 0)) mNil))) (mC (.int 997))) mNil))) (mCons (mV 7) (mCons (mBin gIx (mV 1) (mV 5)) (mCons (mV 8) (mCons (mV 9) (mCons (mV 10) (mCons (mV 11) mNil)))))))))))))))))))
 (sRet (mArgs gTuple (mCons (mV 4) mNil)))))
def m__law_rooms : List D → Sto → Vx.R D := mDef 12 4 b__law_rooms
def b__law_chart : FS := (sSeq (sSet 1 (mBin gAdd (mC (.int 1)) (mBin gDiv (mBin gAdd (mBin gMul (mBin gMod (mCall m__law_mixed (mCons (mV 0) (mCons (mC (.int 0)) (mCons (mC (.int 6)) mNil)))) (mC (.int 16))) (mC (.int 9))) (mC (.int 14))) (mC (.int 16)))))
 (sSeq (sIf (mT (mBin gEq (mBin gMod (mCall m__law_mixed (mCons (mV 0) (mCons (mC (.int 0)) (mCons (mC (.int 50)) mNil)))) (mC (.int 16))) (mC (.int 0))))
 (sSet 1 (mBin gAdd (mC (.int 11)) (mBin gMod (mCall m__law_mixed (mCons (mV 0) (mCons (mC (.int 0)) (mCons (mC (.int 51)) mNil)))) (mC (.int 10)))))
 sNil)
 (sSeq (sSet 2 (mBin gIx (mLst (mCons (mC (.int 0)) (mCons (mC (.int 1)) (mCons (mC (.int 1)) (mCons (mC (.int 2)) (mCons (mC (.int 2)) (mCons (mC (.int 2)) (mCons (mC (.int 3)) (mCons (mC (.int 3)) mNil))))))))) (mBin gMod (mCall m__law_mixed (mCons (mV 0) (mCons (mC (.int 3)) (mCons (mC (.int 6)) mNil)))) (mC (.int 8)))))
 (sSeq (sSetF 3 (mLst mNil))
 (sSeq (sFor (itRg1 (mCons (mBin gMod (mCall m__law_mixed (mCons (mV 0) (mCons (mC (.int 2)) (mCons (mC (.int 6)) mNil)))) (mC (.int 3))) mNil)) (tg1 4)
 (sSeq (sSet 5 (mBin gAdd (mC (.int 1)) (mBin gMod (mCall m__law_mixed (mCons (mV 0) (mCons (mC (.int 2)) (mCons (mBin gAdd (mC (.int 7)) (mV 4)) mNil)))) (mC (.int 3)))))
 (sSeq (sIf (mT (mBin gEq (mBin gMod (mCall m__law_mixed (mCons (mV 0) (mCons (mC (.int 2)) (mCons (mBin gAdd (mC (.int 44)) (mV 4)) mNil)))) (mC (.int 6))) (mC (.int 0))))
 (sSet 5 (mBin gAdd (mC (.int 1)) (mBin gMod (mCall m__law_cell_at (mCons (mV 0) (mCons (mC (.int 2)) mNil))) (mBin gPow (mC (.int 10)) (mC (.int 30))))))
 sNil)
 (sApp 3 (mTup (mCons (mCall m__law_name (mCons (mV 4) (mCons (mBin gMod (mCall m__law_cell_at (mCons (mV 0) (mCons (mC (.int 2)) mNil))) (mC (.int 991))) mNil))) (mCons (mV 5) (mCons (mBin gMod (mCall m__law_mixed (mCons (mV 0) (mCons (mC (.int 2)) (mCons (mBin gAdd (mC (.int 40)) (mV 4)) mNil)))) (mV 5)) mNil))))))))
 (sSeq (sSetF 6 (mComp (itSeq (mV 3)) (tg1 7) mYes (mBin gIx (mV 7) (mC (.int 1))) [7]))
 (sSeq (sSet 8 (mArgs gTuple (mCons (mComp (itRg1 (mCons (mV 2) mNil)) (tg1 4) mYes (mCall m__law_name (mCons (mV 4) (mCons (mBin gMod (mCall m__law_cell_at (mCons (mV 0) (mCons (mC (.int 3)) mNil))) (mC (.int 983))) mNil))) [4]) mNil)))
 (sSeq (sSet 9 (mCall m__law_rooms (mCons (mV 0) (mCons (mCall m__law_depths (mCons (mV 0) (mCons (mV 1) mNil))) (mCons (mV 6) (mCons (mV 2) mNil))))))
 (sSeq (sSet 10 (mBin gIx (mLst (mCons (mC (.int 4)) (mCons (mC (.int 5)) (mCons (mC (.int 6)) (mCons (mC (.int 7)) (mCons (mC (.int 8)) (mCons (mC (.int 9)) (mCons (mC (.int 10)) (mCons (mC (.int 6)) (mCons (mC (.int 7)) (mCons (mC (.int 8)) (mCons (mC (.int 2)) (mCons (mC (.int 0)) mNil))))))))))))) (mBin gMod (mCall m__law_mixed (mCons (mV 0) (mCons (mC (.int 1)) (mCons (mC (.int 6)) mNil)))) (mC (.int 12)))))
 (sSeq (sSet 11 (mCall m__law_doors (mCons (mV 0) (mCons (mV 10) (mCons (mV 9) (mCons (mV 6) (mCons (mV 2) mNil)))))))
 (sSeq (sSet 12 (mBin gIx (mLst (mCons (mC (.str "inner")) (mCons (mC (.str "outer")) mNil))) (mBin gMod (mCall m__law_mixed (mCons (mV 0) (mCons (mC (.int 4)) (mCons (mC (.int 6)) mNil)))) (mC (.int 2)))))
 (sSeq (sSet 13 (mBin gIx (mLst (mCons (mC (.int 0)) (mCons (mC (.int 1)) (mCons (mC (.int 2)) (mCons (mC (.int 3)) (mCons (mC (.int 2)) (mCons (mC (.int 4)) (mCons (mC (.int 3)) (mCons (mC (.int 5)) mNil))))))))) (mBin gMod (mCall m__law_mixed (mCons (mV 0) (mCons (mC (.int 3)) (mCons (mC (.int 7)) mNil)))) (mC (.int 8)))))
 (sSeq (sSet 14 (mBin gIx (mLst (mCons (mC (.int 1)) (mCons (mC (.int 2)) (mCons (mC (.int 3)) (mCons (mC (.int 4)) (mCons (mC (.int 3)) (mCons (mC (.int 4)) (mCons (mC (.int 2)) (mCons (mC (.int 4)) mNil))))))))) (mBin gMod (mCall m__law_mixed (mCons (mV 0) (mCons (mC (.int 4)) (mCons (mC (.int 7)) mNil)))) (mC (.int 8)))))
 (sRet (mTup (mCons (mV 12) (mCons (mV 13) (mCons (mV 14) (mCons (mArgs gTuple (mCons (mV 3) mNil)) (mCons (mV 8) (mCons (mV 9) (mCons (mV 11) mNil))))))))))))))))))))))
def m__law_chart : List D → Sto → Vx.R D := mDef 15 1 b__law_chart
def b__law_is_full : FS := (sSeq (sFor (itSeq (mV 2)) (tg1 3)
 (sSeq (sSetF 4 (mComp (itRg1 (mCons (mArgs gLen (mCons (mV 0) mNil)) mNil)) (tg1 5) (mT (mBin gEq (mBin gIx (mV 1) (mV 5)) (mV 3))) (mV 5) [5]))
 (sSeq (sSet 6 (mArgs gLen (mCons (mComp (itSeq (mV 4)) (tg1 5) (mT (mBin gIn (mV 5) (mV 2))) (mV 5) [5]) mNil)))
 (sSeq (sIf (mAnd (mT (mBin gEq (mBin gIx (mBin gIx (mV 0) (mV 3)) (mC (.int 1))) (mC (.str "one")))) (mT (mBin gNe (mV 6) (mC (.int 1)))))
 (sRet (mC (.bl false)))
 sNil)
 (sSeq (sIf (mAnd (mT (mBin gEq (mBin gIx (mBin gIx (mV 0) (mV 3)) (mC (.int 1))) (mC (.str "all")))) (mT (mBin gNe (mV 6) (mArgs gLen (mCons (mV 4) mNil)))))
 (sRet (mC (.bl false)))
 sNil)
 (sIf (mAnd (mT (mBin gGt (mV 3) (mC (.int 0)))) (mT (mBin gNotIn (mBin gIx (mV 1) (mV 3)) (mV 2))))
 (sRet (mC (.bl false)))
 sNil))))))
 (sRet (mBin gIn (mC (.int 0)) (mV 2))))
def m__law_is_full : List D → Sto → Vx.R D := mDef 7 3 b__law_is_full
def b__law_parents : FS := (sSeq (sSetF 1 (mLst (mCons (mC .non) mNil)))
 (sSeq (sFor (itRg2 (mCons (mC (.int 1)) (mCons (mArgs gLen (mCons (mV 0) mNil)) mNil))) (tg1 2)
 (sApp 1 (mArgs gMax1 (mCons (mComp (itRg1 (mCons (mV 2) mNil)) (tg1 3) (mT (mBin gLt (mBin gIx (mBin gIx (mV 0) (mV 3)) (mC (.int 2))) (mBin gIx (mBin gIx (mV 0) (mV 2)) (mC (.int 2))))) (mV 3) [3]) mNil))))
 (sRet (mV 1))))
def m__law_parents : List D → Sto → Vx.R D := mDef 4 1 b__law_parents
def b__law_opened (mrec : List D → Sto → Vx.R D) : FS := (sSeq (sSet 4 (mLst (mCons (mV 1) mNil)))
 (sSeq (sIf (mT (mBin gEq (mBin gIx (mBin gIx (mV 0) (mV 1)) (mC (.int 1))) (mC (.str "plain"))))
 (sRet (mV 4))
 sNil)
 (sSeq (sSetF 5 (mLst mNil))
 (sSeq (sSet 6 (mBin gAdd (mV 1) (mC (.int 1))))
 (sSeq (sWhile bigN (mAnd (mT (mBin gLt (mV 6) (mArgs gLen (mCons (mV 0) mNil)))) (mT (mBin gGt (mBin gIx (mBin gIx (mV 0) (mV 6)) (mC (.int 2))) (mBin gIx (mBin gIx (mV 0) (mV 1)) (mC (.int 2))))))
 (sSeq (sIf (mT (mBin gEq (mBin gIx (mBin gIx (mV 0) (mV 6)) (mC (.int 2))) (mBin gAdd (mBin gIx (mBin gIx (mV 0) (mV 1)) (mC (.int 2))) (mC (.int 1)))))
 (sApp 5 (mV 6))
 sNil)
 (sSet 6 (mBin gAdd (mV 6) (mC (.int 1))))))
 (sSeq (sIf (mT (mBin gEq (mBin gIx (mBin gIx (mV 0) (mV 1)) (mC (.int 1))) (mC (.str "one"))))
 (sSetF 5 (mLst (mCons (mBin gIx (mV 5) (mBin gMod (mCall m__law_mixed (mCons (mV 2) (mCons (mBin gAdd (mV 3) (mV 1)) (mCons (mC (.int 8)) mNil)))) (mArgs gLen (mCons (mV 5) mNil)))) mNil)))
 sNil)
 (sSeq (sFor (itSeq (mV 5)) (tg1 7)
 (sSet 4 (mBin gAdd (mV 4) (mCall mrec (mCons (mV 0) (mCons (mV 7) (mCons (mV 2) (mCons (mV 3) mNil))))))))
 (sRet (mV 4)))))))))
def r__law_opened : Nat → List D → Sto → Vx.R D
  | 0 => fun _ _ => .no
  | n + 1 => mDef 8 4 (b__law_opened (r__law_opened n))
def m__law_opened : List D → Sto → Vx.R D := r__law_opened 50
def b__law_stand : FS := (sSeq (sSet 3 (mBin gIx (mV 0) (mC (.int 5))))
 (sSeq (sSetF 4 (mLst mNil))
 (sSeq (sFor (itRg1 (mCons (mArgs gLen (mCons (mV 3) mNil)) mNil)) (tg1 5)
 (sSeq (sSet 6 (mCut (mCall m__law_opened (mCons (mV 3) (mCons (mV 5) (mCons (mV 1) (mCons (mBin gAdd (mV 2) (mBin gMul (mC (.int 7)) (mV 5))) mNil))))) (mO (mC (.int 1))) mNoO))
 (sSeq (sIf (mOr (mT (mBin gEq (mBin gIx (mBin gIx (mV 3) (mV 5)) (mC (.int 3))) (mC (.str "")))) (mT (mBin gEq (mBin gMod (mCall m__law_mixed (mCons (mV 1) (mCons (mBin gAdd (mV 2) (mV 5)) (mCons (mC (.int 9)) mNil)))) (mC (.int 3))) (mC (.int 0)))))
 (sSet 6 (mLst mNil))
 sNil)
 (sSeq (sIf (mT (mBin gEq (mBin gIx (mBin gIx (mV 3) (mV 5)) (mC (.int 3))) (mC (.str "near"))))
 (sSet 6 (mCut (mV 6) mNoO (mO (mC (.int 1)))))
 sNil)
 (sSeq (sIf (mT (mBin gEq (mBin gIx (mBin gIx (mV 3) (mV 5)) (mC (.int 3))) (mC (.str "deep"))))
 (sSetF 6 (mComp (itSeq (mV 6)) (tg1 7) (mT (mBin gEq (mBin gIx (mBin gIx (mV 3) (mV 7)) (mC (.int 1))) (mC (.str "plain")))) (mV 7) [7]))
 sNil)
 (sApp 4 (mArgs gTuple (mCons (mV 6) mNil))))))))
 (sSeq (sSetF 8 (mLst mNil))
 (sSeq (sFor (itRg1 (mCons (mArgs gLen (mCons (mBin gIx (mV 0) (mC (.int 3))) mNil)) mNil)) (tg1 5)
 (sApp 8 (mBin gMod (mCall m__law_mixed (mCons (mV 1) (mCons (mBin gAdd (mV 2) (mV 5)) (mCons (mC (.int 11)) mNil)))) (mBin gIx (mBin gIx (mBin gIx (mV 0) (mC (.int 3))) (mV 5)) (mC (.int 1))))))
 (sRet (mTup (mCons (mArgs gTuple (mCons (mCall m__law_opened (mCons (mV 3) (mCons (mC (.int 0)) (mCons (mV 1) (mCons (mBin gAdd (mV 2) (mC (.int 90))) mNil))))) mNil)) (mCons (mArgs gTuple (mCons (mV 8) mNil)) (mCons (mArgs gTuple (mCons (mV 4) mNil)) mNil))))))))))
def m__law_stand : List D → Sto → Vx.R D := mDef 9 3 b__law_stand
def b__law_whole : FS := (sRet (mAndV (mUn (gIsi "int") (mV 0)) (mUn gNot (mUn (gIsi "bool") (mV 0)))))
def m__law_whole : List D → Sto → Vx.R D := mDef 1 1 b__law_whole
def b__law_step : FS := (sSeq (sIf (mOr (mNot (mT (mCall m__law_whole (mCons (mV 4) mNil)))) (mNot (mT (mChain gLe gLt (mC (.int 0)) (mV 4) (mArgs gLen (mCons (mV 0) mNil))))))
 (sRet (mC (.bl false)))
 sNil)
 (sSeq (sIf (mT (mBin gEq (mV 3) (mC (.str "out"))))
 (sSeq (sSetF 5 (mComp (itRg1 (mCons (mArgs gLen (mCons (mV 0) mNil)) mNil)) (tg1 6) (mAnd (mT (mBin gEq (mBin gIx (mV 1) (mV 6)) (mV 4))) (mT (mBinO gIx (mV 2) (mV 6)))) (mV 6) [6]))
 (sSeq (sSet 7 (mAndV (mBinO gIx (mV 2) (mV 4)) (mBin gEq (mArgs gLen (mCons (mV 5) mNil)) (mC (.int 0)))))
 (sSeq (sPutO (mV 2) (mC (.bl false)) (mV 4))
 (sRet (mV 7)))))
 sNil)
 (sSeq (sSet 8 (mBin gIx (mV 1) (mV 4)))
 (sSeq (sIf (mT (mBin gIsNot (mV 8) (mC .non)))
 (sSeq (sSetF 9 (mComp (itRg1 (mCons (mArgs gLen (mCons (mV 0) mNil)) mNil)) (tg1 6) (mAnd (mT (mBin gEq (mBin gIx (mV 1) (mV 6)) (mV 8))) (mT (mBinO gIx (mV 2) (mV 6)))) (mV 6) [6]))
 (sIf (mOr (mNot (mT (mBinO gIx (mV 2) (mV 8)))) (mAnd (mT (mBin gEq (mBin gIx (mBin gIx (mV 0) (mV 8)) (mC (.int 1))) (mC (.str "one")))) (mT (mBin gGt (mArgs gLen (mCons (mV 9) mNil)) (mC (.int 0))))))
 (sRet (mC (.bl false)))
 sNil))
 sNil)
 (sSeq (sSet 7 (mUn gNot (mBinO gIx (mV 2) (mV 4))))
 (sSeq (sPutO (mV 2) (mC (.bl true)) (mV 4))
 (sRet (mV 7))))))))
def m__law_step : List D → Sto → Vx.R D := mDef 10 5 b__law_step
def b__law_walk : FS := (sSeq (sSetF 5 (mLst mNil))
 (sSeq (sSetF 6 (mLst mNil))
 (sSeq (sSet 7 (mC (.int 0)))
 (sSeq (sForO (mV 3) (tg1 8)
 (sSeq (sIf (mOr (mNot (mT (mUn (gIsi "tuple") (mV 8)))) (mOr (mT (mBin gLt (mArgs gLen (mCons (mV 8) mNil)) (mC (.int 2)))) (mNot (mT (mUn (gIsi "str") (mBin gIx (mV 8) (mC (.int 0))))))))
 (sRet (mC .non))
 sNil)
 (sSeq (sIf (mT (mBin gEq (mBin gIx (mV 8) (mC (.int 0))) (mC (.str "through"))))
 (sSeq (sSet 7 (mBin gAdd (mV 7) (mC (.int 1))))
 (sIf (mOr (mNot (mT (mCall m__law_whole (mCons (mBin gIx (mV 8) (mC (.int 1))) mNil)))) (mT (mBin gNe (mBin gIx (mV 8) (mC (.int 1))) (mV 4))))
 (sRet (mC .non))
 sNil))
 sNil)
 (sIf (mOr (mT (mBin gEq (mBin gIx (mV 8) (mC (.int 0))) (mC (.str "out")))) (mT (mBin gEq (mBin gIx (mV 8) (mC (.int 0))) (mC (.str "in")))))
 (sSeq (sIf (mNot (mT (mCall m__law_step (mCons (mV 0) (mCons (mV 1) (mCons (mV 2) (mCons (mBin gIx (mV 8) (mC (.int 0))) (mCons (mBin gIx (mV 8) (mC (.int 1))) mNil))))))))
 (sRet (mC .non))
 sNil)
 (sSeq (sIf (mT (mBin gNe (mV 7) (mArgs gInt1 (mCons (mBin gEq (mBin gIx (mV 8) (mC (.int 0))) (mC (.str "in"))) mNil))))
 (sRet (mC .non))
 sNil)
 (sIf (mT (mBin gEq (mBin gIx (mV 8) (mC (.int 0))) (mC (.str "out"))))
 (sApp 5 (mBin gIx (mV 8) (mC (.int 1))))
 (sApp 6 (mBin gIx (mV 8) (mC (.int 1)))))))
 sNil))))
 (sSeq (sIf (mT (mBin gNe (mV 7) (mC (.int 1))))
 (sRet (mC .non))
 sNil)
 (sRet (mTup (mCons (mV 5) (mCons (mV 6) mNil)))))))))
def m__law_walk : List D → Sto → Vx.R D := mDef 9 5 b__law_walk
def b__law_lies : FS := (sSeq (sIf (mT (mBin gGe (mV 2) (mV 1)))
 (sRet (mC (.bl false)))
 sNil)
 (sSeq (sFor (itRg2 (mCons (mBin gAdd (mV 2) (mC (.int 1))) (mCons (mBin gAdd (mV 1) (mC (.int 1))) mNil))) (tg1 3)
 (sIf (mT (mBin gLe (mBin gIx (mBin gIx (mV 0) (mV 3)) (mC (.int 2))) (mBin gIx (mBin gIx (mV 0) (mV 2)) (mC (.int 2)))))
 (sRet (mC (.bl false)))
 sNil))
 (sRet (mC (.bl true)))))
def m__law_lies : List D → Sto → Vx.R D := mDef 4 3 b__law_lies
def b__law_hall : FS := (sSeq (sSet 3 (mC .non))
 (sSeq (sFor (itRg1 (mCons (mArgs gLen (mCons (mV 0) mNil)) mNil)) (tg1 4)
 (sIf (mAnd (mT (mBin gEq (mBin gIx (mBin gIx (mV 0) (mV 4)) (mC (.int 1))) (mC (.str "one")))) (mAnd (mT (mCall m__law_lies (mCons (mV 0) (mCons (mV 1) (mCons (mV 4) mNil))))) (mT (mCall m__law_lies (mCons (mV 0) (mCons (mV 2) (mCons (mV 4) mNil)))))))
 (sSet 3 (mV 4))
 sNil))
 (sRet (mV 3))))
def m__law_hall : List D → Sto → Vx.R D := mDef 5 3 b__law_hall
def b__law_ways : FS := (sSeq (sSet 6 (mBin gIx (mBin gIx (mV 0) (mC (.int 6))) (mV 2)))
 (sSeq (sIf (mT (mBin gEq (mBin gIx (mV 6) (mC (.int 4))) (mC (.str "stay"))))
 (sRet (mAndV (mBin gEq (mV 3) (mLst mNil)) (mBin gEq (mV 4) (mLst mNil))))
 sNil)
 (sSeq (sSet 7 (mCall m__law_hall (mCons (mBin gIx (mV 0) (mC (.int 5))) (mCons (mBin gIx (mV 6) (mC (.int 0))) (mCons (mBin gIx (mV 6) (mC (.int 5))) mNil)))))
 (sSeq (sSetF 8 (mComp (itRev (mBin gIx (mV 1) (mC (.int 0)))) (tg1 9) (mOr (mT (mBin gIs (mV 7) (mC .non))) (mT (mCall m__law_lies (mCons (mBin gIx (mV 0) (mC (.int 5))) (mCons (mV 9) (mCons (mV 7) mNil)))))) (mV 9) [9]))
 (sSeq (sIf (mOr (mT (mBin gNe (mV 3) (mV 8))) (mT (mBin gNe (mV 4) (mArgs gSorted (mCons (mV 4) mNil)))))
 (sRet (mC (.bl false)))
 sNil)
 (sSeq (sSet 10 (mLst (mCons (mBin gIx (mV 6) (mC (.int 5))) mNil)))
 (sSeq (sIf (mT (mBin gEq (mBin gIx (mV 6) (mC (.int 4))) (mC (.str "back"))))
 (sSet 10 (mBin gAdd (mV 10) (mArgs gList (mCons (mBin gIx (mBin gIx (mV 5) (mC (.int 2))) (mBin gIx (mV 6) (mC (.int 5)))) mNil))))
 sNil)
 (sSeq (sFor (itSeq (mV 10)) (tg1 9)
 (sIf (mT (mBin gNotIn (mV 9) (mBin gIx (mV 5) (mC (.int 0)))))
 (sRet (mC (.bl false)))
 sNil))
 (sRet (mC (.bl true)))))))))))
def m__law_ways : List D → Sto → Vx.R D := mDef 11 6 b__law_ways
def b_Road___init__ (ca : Nat → Nat) : FS := (sSeq (sFldD (ca 1) "sizes" (mV 0) (mArgs gTuple (mCons (mComp (itSeq (mBin gIx (mV 1) (mC (.int 3)))) (tg1 4) mYes (mBin gIx (mV 4) (mC (.int 1))) [4]) mNil)))
 (sSeq (sFldD (ca 1) "boxes" (mV 0) (mV 2))
 (sSeq (sFldD (ca 1) "letters" (mV 0) (mV 3))
 (sFldD (ca 1) "record" (mV 0) (mBox (mLst mNil))))))
def m_Road___init__ (ca : Nat → Nat) : List D → Sto → Vx.R D := mDef 5 4 (b_Road___init__ ca)
def b_Letters_add (ca : Nat → Nat) : FS := (sSeq (sIf (mT (mBin gGe (mArgsO gLen (mCons (mFld (ca 0) "line" (mV 0)) mNil)) (mFld (ca 0) "most" (mV 0))))
 (sRet (mC (.bl false)))
 sNil)
 (sSeq (sExp (mMethO gAppend (mFld (ca 0) "line" (mV 0)) (mCons (mV 1) mNil)))
 (sRet (mC (.bl true)))))
def m_Letters_add (ca : Nat → Nat) : List D → Sto → Vx.R D := mDef 2 2 (b_Letters_add ca)
def b_changed : FS := (sSeq (sIf (mOr (mT (mBin gEq (mBin gIx (mV 0) (mC (.int 0))) (mC (.str "say")))) (mT (mBin gEq (mBin gIx (mV 0) (mC (.int 0))) (mC (.str "send")))))
 (sRet (mV 1))
 sNil)
 (sSeq (sSet 3 (mBin gIx (mV 0) (mC (.int 1))))
 (sSeq (sSet 4 (mBin gIx (mV 0) (mC (.int 2))))
 (sSeq (sIf (mT (mBin gEq (mBin gIx (mV 0) (mC (.int 0))) (mC (.str "add"))))
 (sSet 4 (mBin gMod (mBin gAdd (mBin gIx (mV 1) (mV 3)) (mV 4)) (mBin gIx (mV 2) (mV 3))))
 sNil)
 (sRet (mBin gAdd (mBin gAdd (mCut (mV 1) mNoO (mO (mV 3))) (mTup (mCons (mV 4) mNil))) (mCut (mV 1) (mO (mBin gAdd (mV 3) (mC (.int 1)))) mNoO)))))))
def m_changed : List D → Sto → Vx.R D := mDef 5 3 b_changed
def b_done (ca : Nat → Nat) : FS := (sSeq (sSetF 4 (mLst mNil))
 (sSeq (sFor (itSeq (mV 0)) (tg1 5)
 (sSeq (sSet 1 (mCall m_changed (mCons (mV 5) (mCons (mV 1) (mCons (mV 2) mNil)))))
 (sIf (mT (mBin gEq (mBin gIx (mV 5) (mC (.int 0))) (mC (.str "say"))))
 (sApp 4 (mTup (mCons (mC (.str "say")) (mCons (mBin gIx (mV 5) (mC (.int 1))) mNil))))
 (sIf (mT (mBin gEq (mBin gIx (mV 5) (mC (.int 0))) (mC (.str "send"))))
 (sIf (mT (mMeth (ca 0) "add" (m_Letters_add ca) (mV 3) (mCons (mBin gIx (mV 5) (mC (.int 1))) mNil)))
 (sApp 4 (mTup (mCons (mC (.str "send")) (mCons (mBin gIx (mV 5) (mC (.int 1))) mNil))))
 (sApp 4 (mTup (mCons (mC (.str "lost")) (mCons (mBin gIx (mV 5) (mC (.int 1))) mNil)))))
 (sApp 4 (mTup (mCons (mC (.str "put")) (mCons (mBin gIx (mV 5) (mC (.int 1))) (mCons (mBin gIx (mV 1) (mBin gIx (mV 5) (mC (.int 1)))) mNil)))))))))
 (sRet (mTup (mCons (mV 1) (mCons (mV 4) mNil))))))
def m_done (ca : Nat → Nat) : List D → Sto → Vx.R D := mDef 6 4 (b_done ca)
def b_Road_step (ca : Nat → Nat) : FS := (sSeq (sSet 4 (mCall (m_done ca) (mCons (mV 3) (mCons (mFld (ca 1) "boxes" (mV 0)) (mCons (mFld (ca 1) "sizes" (mV 0)) (mCons (mFld (ca 1) "letters" (mV 0)) mNil))))))
 (sSeq (sFldD (ca 1) "boxes" (mV 0) (mBin gIx (mV 4) (mC (.int 0))))
 (sSeq (sExp (mMethO gAppend (mFld (ca 1) "record" (mV 0)) (mCons (mTup (mCons (mV 1) (mCons (mV 2) mNil))) mNil)))
 (sExp (mMethO gExtend (mFld (ca 1) "record" (mV 0)) (mCons (mBin gIx (mV 4) (mC (.int 1))) mNil))))))
def m_Road_step (ca : Nat → Nat) : List D → Sto → Vx.R D := mDef 5 4 (b_Road_step ca)
def b_goals_of : FS := (sSeq (sSet 3 (mBin gIx (mBin gIx (mBin gIx (mV 0) (mC (.int 6))) (mV 2)) (mC (.int 4))))
 (sSeq (sSet 4 (mBin gIx (mBin gIx (mBin gIx (mV 0) (mC (.int 6))) (mV 2)) (mC (.int 5))))
 (sSeq (sIf (mT (mBin gEq (mV 3) (mC (.str "stay"))))
 (sRet (mLst mNil))
 sNil)
 (sSeq (sIf (mAnd (mT (mBin gEq (mV 3) (mC (.str "back")))) (mT (mBin gGt (mArgs gLen (mCons (mBin gIx (mV 1) (mV 4)) mNil)) (mC (.int 0)))))
 (sRet (mArgs gList (mCons (mBin gIx (mV 1) (mV 4)) mNil)))
 sNil)
 (sRet (mLst (mCons (mV 4) mNil)))))))
def m_goals_of : List D → Sto → Vx.R D := mDef 5 3 b_goals_of
def b_end_of : FS := (sSeq (sSet 2 (mBin gAdd (mV 1) (mC (.int 1))))
 (sSeq (sWhile bigN (mAnd (mT (mBin gLt (mV 2) (mArgs gLen (mCons (mV 0) mNil)))) (mT (mBin gGt (mBin gIx (mBin gIx (mV 0) (mV 2)) (mC (.int 2))) (mBin gIx (mBin gIx (mV 0) (mV 1)) (mC (.int 2))))))
 (sSet 2 (mBin gAdd (mV 2) (mC (.int 1)))))
 (sRet (mV 2))))
def m_end_of : List D → Sto → Vx.R D := mDef 3 2 b_end_of
def b_lies_in : FS := (sRet (mChain gLt gLt (mV 2) (mV 1) (mCall m_end_of (mCons (mV 0) (mCons (mV 2) mNil)))))
def m_lies_in : List D → Sto → Vx.R D := mDef 3 3 b_lies_in
def b_bears : FS := (sSeq (sFor (itSeq (mV 2)) (tg1 3)
 (sIf (mOr (mT (mBin gEq (mV 3) (mV 1))) (mT (mCall m_lies_in (mCons (mV 0) (mCons (mV 3) (mCons (mV 1) mNil))))))
 (sRet (mC (.bl true)))
 sNil))
 (sRet (mC (.bl false))))
def m_bears : List D → Sto → Vx.R D := mDef 4 3 b_bears
def b_kids : FS := (sSeq (sSetF 2 (mLst mNil))
 (sSeq (sFor (itRg2 (mCons (mBin gAdd (mV 1) (mC (.int 1))) (mCons (mCall m_end_of (mCons (mV 0) (mCons (mV 1) mNil))) mNil))) (tg1 3)
 (sIf (mT (mBin gEq (mBin gIx (mBin gIx (mV 0) (mV 3)) (mC (.int 2))) (mBin gAdd (mBin gIx (mBin gIx (mV 0) (mV 1)) (mC (.int 2))) (mC (.int 1)))))
 (sApp 2 (mV 3))
 sNil))
 (sRet (mV 2))))
def m_kids : List D → Sto → Vx.R D := mDef 4 2 b_kids
def b_entered : FS := (sSeq (sSet 3 (mCall m_kids (mCons (mV 0) (mCons (mV 1) mNil))))
 (sSeq (sIf (mT (mBin gNe (mBin gIx (mBin gIx (mV 0) (mV 1)) (mC (.int 1))) (mC (.str "one"))))
 (sRet (mV 3))
 sNil)
 (sSeq (sFor (itSeq (mV 3)) (tg1 4)
 (sIf (mT (mCall m_bears (mCons (mV 0) (mCons (mV 4) (mCons (mV 2) mNil)))))
 (sRet (mLst (mCons (mV 4) mNil)))
 sNil))
 (sRet (mCut (mV 3) mNoO (mO (mC (.int 1))))))))
def m_entered : List D → Sto → Vx.R D := mDef 5 3 b_entered
def b_goings_in (mrec : List D → Sto → Vx.R D) : FS := (sSeq (sIf (mT (mBin gIs (mV 1) (mC .non)))
 (sRet (mBin gAddL (mLst (mCons (mC (.int 0)) mNil)) (mCall mrec (mCons (mV 0) (mCons (mC (.int 0)) (mCons (mV 2) mNil))))))
 sNil)
 (sSeq (sSetF 3 (mLst mNil))
 (sSeq (sFor (itSeq (mCall m_entered (mCons (mV 0) (mCons (mV 1) (mCons (mV 2) mNil))))) (tg1 4)
 (sSeq (sApp 3 (mV 4))
 (sExt 3 (mCallF mrec (mCons (mV 0) (mCons (mV 4) (mCons (mV 2) mNil)))))))
 (sRet (mV 3)))))
def r_goings_in : Nat → List D → Sto → Vx.R D
  | 0 => fun _ _ => .no
  | n + 1 => mDef 5 3 (b_goings_in (r_goings_in n))
def m_goings_in : List D → Sto → Vx.R D := r_goings_in 50
def b_goings_out : FS := (sSeq (sSetF 3 (mLst mNil))
 (sSeq (sFor (itRev (mV 2)) (tg1 4)
 (sIf (mOr (mT (mBin gIs (mV 1) (mC .non))) (mT (mCall m_lies_in (mCons (mV 0) (mCons (mV 4) (mCons (mV 1) mNil))))))
 (sApp 3 (mV 4))
 sNil))
 (sRet (mV 3))))
def m_goings_out : List D → Sto → Vx.R D := mDef 5 3 b_goings_out
def b_parent : FS := (sSeq (sSet 2 (mBin gSub (mV 1) (mC (.int 1))))
 (sSeq (sWhile bigN (mT (mBin gGe (mV 2) (mC (.int 0))))
 (sSeq (sIf (mT (mBin gLt (mBin gIx (mBin gIx (mV 0) (mV 2)) (mC (.int 2))) (mBin gIx (mBin gIx (mV 0) (mV 1)) (mC (.int 2)))))
 (sRet (mV 2))
 sNil)
 (sSet 2 (mBin gSub (mV 2) (mC (.int 1))))))
 (sRet (mC .non))))
def m_parent : List D → Sto → Vx.R D := mDef 3 2 b_parent
def b_hall_over : FS := (sSeq (sSet 3 (mCall m_parent (mCons (mV 0) (mCons (mV 1) mNil))))
 (sSeq (sWhile bigN (mT (mBin gIsNot (mV 3) (mC .non)))
 (sSeq (sIf (mAnd (mT (mBin gEq (mBin gIx (mBin gIx (mV 0) (mV 3)) (mC (.int 1))) (mC (.str "one")))) (mT (mCall m_lies_in (mCons (mV 0) (mCons (mV 2) (mCons (mV 3) mNil))))))
 (sRet (mV 3))
 sNil)
 (sSet 3 (mCall m_parent (mCons (mV 0) (mCons (mV 3) mNil))))))
 (sRet (mC .non))))
def m_hall_over : List D → Sto → Vx.R D := mDef 4 3 b_hall_over
def b_open_kids : FS := (sRet (mComp (itSeq (mCall m_kids (mCons (mV 0) (mCons (mV 1) mNil)))) (tg1 3) (mT (mBin gIn (mV 3) (mV 2))) (mV 3) [3]))
def m_open_kids : List D → Sto → Vx.R D := mDef 4 3 b_open_kids
def b_plain_rooms : FS := (sRet (mComp (itSeq (mV 1)) (tg1 2) (mT (mBin gEq (mBin gIx (mBin gIx (mV 0) (mV 2)) (mC (.int 1))) (mC (.str "plain")))) (mV 2) [2]))
def m_plain_rooms : List D → Sto → Vx.R D := mDef 3 2 b_plain_rooms
def b_kept_of : FS := (sSeq (sIf (mT (mBin gEq (mBin gIx (mBin gIx (mV 0) (mV 2)) (mC (.int 3))) (mC (.str "near"))))
 (sRet (mArgs gTuple (mCons (mCall m_open_kids (mCons (mV 0) (mCons (mV 2) (mCons (mV 1) mNil)))) mNil)))
 sNil)
 (sSeq (sIf (mT (mBin gEq (mBin gIx (mBin gIx (mV 0) (mV 2)) (mC (.int 3))) (mC (.str "deep"))))
 (sRet (mArgs gTuple (mCons (mComp (itSeq (mCall m_plain_rooms (mCons (mV 0) (mCons (mV 1) mNil)))) (tg1 4) (mT (mCall m_lies_in (mCons (mV 0) (mCons (mV 4) (mCons (mV 2) mNil))))) (mV 4) [4]) mNil)))
 sNil)
 (sRet (mV 3))))
def m_kept_of : List D → Sto → Vx.R D := mDef 5 4 b_kept_of
def b_keeping : FS := (sSeq (sSetF 4 (mLst mNil))
 (sSeq (sFor (itRg1 (mCons (mArgs gLen (mCons (mV 0) mNil)) mNil)) (tg1 5)
 (sIf (mT (mBin gIn (mV 5) (mV 2)))
 (sApp 4 (mCall m_kept_of (mCons (mV 0) (mCons (mV 1) (mCons (mV 5) (mCons (mBin gIx (mV 3) (mV 5)) mNil))))))
 (sApp 4 (mBin gIx (mV 3) (mV 5)))))
 (sRet (mArgs gTuple (mCons (mV 4) mNil)))))
def m_keeping : List D → Sto → Vx.R D := mDef 6 4 b_keeping
def b_passed (ca : Nat → Nat) : FS := (sSeq (sSet 4 (mBin gIx (mBin gIx (mV 0) (mC (.int 6))) (mV 2)))
 (sSeq (sSet 5 (mBin gIx (mV 0) (mC (.int 5))))
 (sSeq (sSet 6 (mMake (ca 1) (m_Road___init__ ca) (mCons (mV 0) (mCons (mBin gIx (mV 1) (mC (.int 1))) (mCons (mV 3) mNil)))))
 (sSeq (sExp (mMeth (ca 1) "step" (m_Road_step ca) (mV 6) (mCons (mC (.str "door")) (mCons (mV 2) (mCons (mTup mNil) mNil)))))
 (sSeq (sIf (mT (mBin gEq (mBin gIx (mV 4) (mC (.int 4))) (mC (.str "stay"))))
 (sSeq (sExp (mMeth (ca 1) "step" (m_Road_step ca) (mV 6) (mCons (mC (.str "through")) (mCons (mV 2) (mCons (mBin gIx (mV 4) (mC (.int 3))) mNil)))))
 (sRet (mTup (mCons (mTup (mCons (mBin gIx (mV 1) (mC (.int 0))) (mCons (mFld (ca 1) "boxes" (mV 6)) (mCons (mBin gIx (mV 1) (mC (.int 2))) mNil)))) (mCons (mFld (ca 1) "record" (mV 6)) mNil)))))
 sNil)
 (sSeq (sSet 7 (mCall m_hall_over (mCons (mV 5) (mCons (mBin gIx (mV 4) (mC (.int 0))) (mCons (mBin gIx (mV 4) (mC (.int 5))) mNil)))))
 (sSeq (sSet 8 (mCall m_goings_out (mCons (mV 5) (mCons (mV 7) (mCons (mBin gIx (mV 1) (mC (.int 0))) mNil)))))
 (sSeq (sSet 9 (mCall m_keeping (mCons (mV 5) (mCons (mBin gIx (mV 1) (mC (.int 0))) (mCons (mV 8) (mCons (mBin gIx (mV 1) (mC (.int 2))) mNil))))))
 (sSeq (sFor (itSeq (mV 8)) (tg1 10)
 (sExp (mMeth (ca 1) "step" (m_Road_step ca) (mV 6) (mCons (mC (.str "out")) (mCons (mV 10) (mCons (mBin gIx (mBin gIx (mV 5) (mV 10)) (mC (.int 6))) mNil))))))
 (sSeq (sExp (mMeth (ca 1) "step" (m_Road_step ca) (mV 6) (mCons (mC (.str "through")) (mCons (mV 2) (mCons (mBin gIx (mV 4) (mC (.int 3))) mNil)))))
 (sSeq (sSet 11 (mCall m_goings_in (mCons (mV 5) (mCons (mV 7) (mCons (mCall m_goals_of (mCons (mV 0) (mCons (mV 9) (mCons (mV 2) mNil)))) mNil)))))
 (sSeq (sFor (itSeq (mV 11)) (tg1 10)
 (sExp (mMeth (ca 1) "step" (m_Road_step ca) (mV 6) (mCons (mC (.str "in")) (mCons (mV 10) (mCons (mBin gIx (mBin gIx (mV 5) (mV 10)) (mC (.int 5))) mNil))))))
 (sSeq (sSetF 12 (mComp (itSeq (mBin gIx (mV 1) (mC (.int 0)))) (tg1 10) (mT (mBin gNotIn (mV 10) (mV 8))) (mV 10) [10]))
 (sRet (mTup (mCons (mTup (mCons (mArgs gTuple (mCons (mArgs gSorted (mCons (mBin gAdd (mV 12) (mV 11)) mNil)) mNil)) (mCons (mFld (ca 1) "boxes" (mV 6)) (mCons (mV 9) mNil)))) (mCons (mFld (ca 1) "record" (mV 6)) mNil)))))))))))))))))
def m_passed (ca : Nat → Nat) : List D → Sto → Vx.R D := mDef 13 4 (b_passed ca)
def b_law (ca : Nat → Nat) : FS := (sSeq (sSet 1 (mCall m__law_chart (mCons (mV 0) mNil)))
 (sSeq (sSet 2 (mBin gIx (mV 1) (mC (.int 5))))
 (sSeq (sSet 3 (mCall m__law_parents (mCons (mV 2) mNil)))
 (sSeq (sFor (itRg1 (mCons (mC (.int 2)) mNil)) (tg1 4)
 (sSeq (sSet 5 (mCall m__law_stand (mCons (mV 1) (mCons (mV 0) (mCons (mBin gAdd (mC (.int 50)) (mBin gMul (mC (.int 100)) (mV 4))) mNil)))))
 (sFor (itRg1 (mCons (mArgs gLen (mCons (mBin gIx (mV 1) (mC (.int 6))) mNil)) mNil)) (tg1 6)
 (sSeq (sIf (mT (mBin gNotIn (mBin gIx (mBin gIx (mBin gIx (mV 1) (mC (.int 6))) (mV 6)) (mC (.int 0))) (mBin gIx (mV 5) (mC (.int 0)))))
 sCnt
 sNil)
 (sSeq (sSet 7 (mCall (m_passed ca) (mCons (mV 1) (mCons (mV 5) (mCons (mV 6) (mCons (mMake (ca 0) (m_Letters___init__ ca) (mCons (mBin gIx (mV 1) (mC (.int 1))) mNil)) mNil))))))
 (sSeq (sIf (mOr (mNot (mT (mUn (gIsi "tuple") (mV 7)))) (mOr (mT (mBin gNe (mArgs gLen (mCons (mV 7) mNil)) (mC (.int 2)))) (mNot (mT (mUnO (gIsi "list") (mBin gIx (mV 7) (mC (.int 1))))))))
 (sRet (mC (.bl false)))
 sNil)
 (sSeq (sSet 8 (mBox (mComp (itRg1 (mCons (mArgs gLen (mCons (mV 2) mNil)) mNil)) (tg1 9) mYes (mBin gIn (mV 9) (mBin gIx (mV 5) (mC (.int 0)))) [9])))
 (sSeq (sSet 10 (mCall m__law_walk (mCons (mV 2) (mCons (mV 3) (mCons (mV 8) (mCons (mBin gIx (mV 7) (mC (.int 1))) (mCons (mV 6) mNil)))))))
 (sSeq (sSet 11 (mBin gIx (mV 7) (mC (.int 0))))
 (sSeq (sIf (mOr (mT (mBin gIs (mV 10) (mC .non))) (mT (mBin gNe (mBinO gIx (mBin gIx (mV 7) (mC (.int 1))) (mC (.int 0))) (mTup (mCons (mC (.str "door")) (mCons (mV 6) mNil))))))
 (sRet (mC (.bl false)))
 sNil)
 (sSeq (sIf (mOr (mNot (mT (mUn (gIsi "tuple") (mV 11)))) (mOr (mT (mBin gNe (mArgs gLen (mCons (mV 11) mNil)) (mC (.int 3)))) (mNot (mT (mUn (gIsi "tuple") (mBin gIx (mV 11) (mC (.int 0))))))))
 (sRet (mC (.bl false)))
 sNil)
 (sSeq (sIf (mT (mBin gNe (mBin gIx (mV 11) (mC (.int 0))) (mArgs gTuple (mCons (mComp (itRg1 (mCons (mArgs gLen (mCons (mV 2) mNil)) mNil)) (tg1 12) (mT (mBinO gIx (mV 8) (mV 12))) (mV 12) [12]) mNil))))
 (sRet (mC (.bl false)))
 sNil)
 (sSeq (sIf (mNot (mT (mCall m__law_is_full (mCons (mV 2) (mCons (mV 3) (mCons (mBin gIx (mV 11) (mC (.int 0))) mNil))))))
 (sRet (mC (.bl false)))
 sNil)
 (sIf (mNot (mT (mCall m__law_ways (mCons (mV 1) (mCons (mV 5) (mCons (mV 6) (mCons (mBin gIx (mV 10) (mC (.int 0))) (mCons (mBin gIx (mV 10) (mC (.int 1))) (mCons (mV 11) mNil)))))))))
 (sRet (mC (.bl false)))
 sNil))))))))))))))
 (sRet (mC (.bl true)))))))
def m_law (ca : Nat → Nat) : List D → Sto → Vx.R D := mDef 13 1 (b_law ca)
end Law

/-! Base: what must hold ahead of an expression or statement on values, so that something holds behind it. Plain Lean. -/
namespace Vx
open PySem

/-- as R.Sat, kept shut -/
@[irreducible] def R.S {α : Type} (r : R α) (P : α → Sto → Prop) (E : Ex → Sto → Prop) : Prop := r.Sat P E
theorem s_bind {α β : Type} {r : R α} {k : α → Sto → R β} {P : β → Sto → Prop} {E : Ex → Sto → Prop} : (r.bind k).S P E ↔ r.S (fun a s => (k a s).S P E) E := by cases r <;> with_unfolding_all exact Iff.rfl
theorem R.S.imp {α : Type} {r : R α} {P P' : α → Sto → Prop} {E E' : Ex → Sto → Prop} (h : r.S P E) (hP : ∀ a s, P a s → P' a s) (hE : ∀ e s, E e s → E' e s) : r.S P' E' := by
  cases r with
  | ok a s => with_unfolding_all exact hP a s h
  | ex e s => with_unfolding_all exact hE e s h
  | no => with_unfolding_all exact h

@[irreducible] def Fl.W (f : Fl) (N : Sl → Sto → Prop) (R : D → Sto → Prop) (B C : Sl → Sto → Prop) (X : Ex → Sl → Sto → Prop) : Prop := match f with
  | .nx l s => N l s
  | .rt d s => R d s
  | .bk l s => B l s
  | .ct l s => C l s
  | .ex e l s => X e l s
  | .no => False
theorem Fl.W.imp {f : Fl} {N N' : Sl → Sto → Prop} {R R' : D → Sto → Prop} {B C B' C' : Sl → Sto → Prop} {X X' : Ex → Sl → Sto → Prop} (h : f.W N R B C X) (hN : ∀ l s, N l s → N' l s) (hR : ∀ d s, R d s → R' d s) (hB : ∀ l s, B l s → B' l s) (hC : ∀ l s, C l s → C' l s) (hX : ∀ e l s, X e l s → X' e l s) : f.W N' R' B' C' X' := by
  cases f with
  | nx l s => with_unfolding_all exact hN l s h
  | rt d s => with_unfolding_all exact hR d s h
  | bk l s => with_unfolding_all exact hB l s h
  | ct l s => with_unfolding_all exact hC l s h
  | ex e l s => with_unfolding_all exact hX e l s h
  | no => with_unfolding_all exact h
theorem sat_congr {α : Type} {r : R α} {P P' : α → Sto → Prop} {E : Ex → Sto → Prop} (h : ∀ a s, P a s ↔ P' a s) : r.S P E ↔ r.S P' E := by
  cases r with
  | ok a s => with_unfolding_all exact h a s
  | ex e s => with_unfolding_all exact Iff.rfl
  | no => with_unfolding_all exact Iff.rfl
/-- of a partial step -/
@[irreducible] def OW {α : Type} (o : Option α) (P : α → Prop) : Prop := match o with
  | some a => P a
  | none => False
@[simp] theorem OW_some {α : Type} (a : α) (P : α → Prop) : OW (some a) P ↔ P a := by with_unfolding_all exact Iff.rfl
@[simp] theorem OW_none {α : Type} (P : α → Prop) : OW (none : Option α) P ↔ False := by with_unfolding_all exact Iff.rfl
theorem OW_iff {α : Type} (o : Option α) (P : α → Prop) : OW o P ↔ ∃ a, o = some a ∧ P a := by
  cases o with
  | none => simp [OW]
  | some a => simp [OW]
theorem OW_of {α : Type} {o : Option α} {a : α} {P : α → Prop} (h : o = some a) (hp : P a) : OW o P := by subst h; with_unfolding_all exact hp

abbrev NoE : Ex → Sto → Prop := fun _ _ => False
abbrev NoX : Ex → Sl → Sto → Prop := fun _ _ _ => False

section
variable {P : D → Sto → Prop} {PB : Bool → Sto → Prop} {PA : List D → Sto → Prop} {PO : Option Int → Sto → Prop} {E : Ex → Sto → Prop} {l : Sl} {s : Sto}
@[simp] theorem w_ok {α : Type} {Q : α → Sto → Prop} (a : α) : (R.ok a s).S Q E ↔ Q a s := by with_unfolding_all exact Iff.rfl
@[simp] theorem w_ex {α : Type} {Q : α → Sto → Prop} (e : Ex) : (R.ex e s : R α).S Q E ↔ E e s := by with_unfolding_all exact Iff.rfl
@[simp] theorem w_no {α : Type} {Q : α → Sto → Prop} : (R.no : R α).S Q E ↔ False := by with_unfolding_all exact Iff.rfl
@[simp] theorem w_bind {α β : Type} {r : R α} {k : α → Sto → R β} {Q : β → Sto → Prop} : (r.bind k).S Q E ↔ r.S (fun a s => (k a s).S Q E) E := s_bind
@[simp] theorem w_nox {α : Type} {r : R α} {Q : α → Sto → Prop} : r.nox.S Q E ↔ r.S Q NoE := by cases r <;> with_unfolding_all exact Iff.rfl
@[simp] theorem w_lift {α : Type} (o : Option α) {Q : α → Sto → Prop} : (liftO o s).S Q E ↔ OW o (fun a => Q a s) := by cases o <;> with_unfolding_all exact Iff.rfl
@[simp] theorem w_mC (d : D) : (mC d l s).S P E ↔ P d s := by with_unfolding_all exact Iff.rfl
/-- the name at slot i is bound -/
def atW (l : Sl) (i : Nat) (P : D → Prop) : Prop := match l[i]? with
  | some (some d) => P d
  | _ => False
@[simp] theorem w_mV (i : Nat) : (mV i l s).S P E ↔ atW l i (fun d => P d s) := by
  unfold mV atW
  cases l[i]? with
  | none => with_unfolding_all exact Iff.rfl
  | some o => cases o <;> with_unfolding_all exact Iff.rfl
@[simp] theorem atW_zero (d : D) (l : Sl) (P : D → Prop) : atW (some d :: l) 0 P ↔ P d := by with_unfolding_all exact Iff.rfl
@[simp] theorem atW_succ (o : Option D) (l : Sl) (n : Nat) (P : D → Prop) : atW (o :: l) (n + 1) P ↔ atW l n P := by with_unfolding_all exact Iff.rfl
@[simp] theorem w_mUn (g : D → Option D) (a : FE) : (mUn g a l s).S P E ↔ (a l s).S (fun x s => OW (g x) (fun z => P z s)) E := by
  unfold mUn; rw [w_bind]; simp only [w_lift]
@[simp] theorem w_mBin (g : D → D → Option D) (a b : FE) : (mBin g a b l s).S P E ↔ (a l s).S (fun x s => (b l s).S (fun y s => OW (g x y) (fun z => P z s)) E) E := by
  unfold mBin; simp only [w_bind, w_lift]
@[simp] theorem w_mNil : (mNil l s).S PA E ↔ PA [] s := by with_unfolding_all exact Iff.rfl
@[simp] theorem w_mCons (a : FE) (r : FA) : (mCons a r l s).S PA E ↔ (a l s).S (fun x s => (r l s).S (fun xs s => PA (x :: xs) s) E) E := by
  unfold mCons; simp only [w_bind, w_ok]
@[simp] theorem w_mArgs (g : List D → Option D) (a : FA) : (mArgs g a l s).S P E ↔ (a l s).S (fun xs s => OW (g xs) (fun z => P z s)) E := by
  unfold mArgs; simp only [w_bind, w_lift]
@[simp] theorem w_mCall (m : List D → Sto → R D) (a : FA) : (mCall m a l s).S P E ↔ (a l s).S (fun xs s => (m xs s).S P NoE) E := by
  unfold mCall; simp only [w_bind, w_nox]
@[simp] theorem w_mCallF (m : List D → Sto → R D) (a : FA) : (mCallF m a l s).S P E ↔ (a l s).S (fun xs s => (m xs s).S (fun d s => d.isMut = true ∧ P d s) NoE) E := by
  unfold mCallF; rw [w_bind]
  refine sat_congr fun xs s => ?_
  cases m xs s with
  | ok d s =>
    with_unfolding_all show (if d.isMut = true then R.ok d s else R.no).S P E ↔ d.isMut = true ∧ P d s
    by_cases h : d.isMut = true <;> simp [h, w_ok, w_no]
  | ex e s => with_unfolding_all exact Iff.rfl
  | no => with_unfolding_all exact Iff.rfl
@[simp] theorem w_mT (a : FE) : (mT a l s).S PB E ↔ (a l s).S (fun x s => OW (gBl x) (fun b => PB b s)) E := by
  unfold mT; simp only [w_bind, w_lift]
@[simp] theorem w_mNot (a : FT) : (mNot a l s).S PB E ↔ (a l s).S (fun b s => PB (!b) s) E := by
  unfold mNot; simp only [w_bind, w_ok]
theorem sat_ite {α : Type} {c : Prop} [Decidable c] {r1 r2 : R α} {Q : α → Sto → Prop} : (if c then r1 else r2).S Q E ↔ (if c then r1.S Q E else r2.S Q E) := by
  by_cases h : c <;> simp [h]
@[simp] theorem w_mAnd (a b : FT) : (mAnd a b l s).S PB E ↔ (a l s).S (fun x s => if x = true then (b l s).S PB E else PB false s) E := by
  unfold mAnd; simp only [w_bind, sat_ite, w_ok]
@[simp] theorem w_mOr (a b : FT) : (mOr a b l s).S PB E ↔ (a l s).S (fun x s => if x = true then PB true s else (b l s).S PB E) E := by
  unfold mOr; simp only [w_bind, sat_ite, w_ok]
@[simp] theorem w_mAndV (a b : FE) : (mAndV a b l s).S P E ↔ (a l s).S (fun x s => OW (gBl x) fun c => if c = true then (b l s).S P E else P (.bl false) s) E := by
  unfold mAndV; simp only [w_bind, w_lift, sat_ite, w_ok]
@[simp] theorem w_mOrV (a b : FE) : (mOrV a b l s).S P E ↔ (a l s).S (fun x s => OW (gBl x) fun c => if c = true then P (.bl true) s else (b l s).S P E) E := by
  unfold mOrV; simp only [w_bind, w_lift, sat_ite, w_ok]
@[simp] theorem w_mChain (g g' : D → D → Option D) (a b c : FE) : (mChain g g' a b c l s).S P E ↔ (a l s).S (fun x s => (b l s).S (fun y s => OW ((g x y).bind gBl) fun k => if k = true then (c l s).S (fun z s => OW (g' y z) (fun d => P d s)) E else P (.bl false) s) E) E := by
  unfold mChain; simp only [w_bind, w_lift, sat_ite, w_ok]
@[simp] theorem w_mNoO : (mNoO l s).S PO E ↔ PO none s := by with_unfolding_all exact Iff.rfl
/-- an int -/
def intW (d : D) (P : Int → Prop) : Prop := match d with
  | .int i => P i
  | _ => False
@[simp] theorem intW_int (i : Int) (P : Int → Prop) : intW (.int i) P ↔ P i := by with_unfolding_all exact Iff.rfl
@[simp] theorem w_mO (a : FE) : (mO a l s).S PO E ↔ (a l s).S (fun x s => intW x fun i => PO (some i) s) E := by
  unfold mO; rw [w_bind]
  have e : ∀ (x : D) (s : Sto), (match x with | .int i => R.ok (some i) s | _ => R.no).S PO E ↔ intW x fun i => PO (some i) s := by
    intro x s; cases x <;> with_unfolding_all exact Iff.rfl
  exact sat_congr e
@[simp] theorem w_mCut (a : FE) (lo hi : FO) : (mCut a lo hi l s).S P E ↔ (a l s).S (fun x s => (lo l s).S (fun i s => (hi l s).S (fun j s => OW (gCut x i j) (fun z => P z s)) E) E) E := by
  unfold mCut; simp only [w_bind, w_lift]
@[simp] theorem w_mCutL (a : FE) (lo hi : FO) : (mCutL a lo hi l s).S P E ↔ (a l s).S (fun x s => (lo l s).S (fun i s => (hi l s).S (fun j s => OW (gCutL x i j) (fun z => P z s)) E) E) E := by
  unfold mCutL; simp only [w_bind, w_lift]
@[simp] theorem w_mTup (a : FA) : (mTup a l s).S P E ↔ (a l s).S (fun xs s => szOk xs.length = true ∧ P (.tup xs) s) E := by
  unfold mTup; rw [w_bind]
  have e : ∀ (xs : List D) (s : Sto), (if szOk xs.length = true then R.ok (D.tup xs) s else R.no).S P E ↔ szOk xs.length = true ∧ P (.tup xs) s := by
    intro d s
    by_cases h : szOk d.length = true <;> simp [h, w_ok, w_no]
  exact sat_congr e
@[simp] theorem w_mLst (a : FA) : (mLst a l s).S P E ↔ (a l s).S (fun xs s => szOk xs.length = true ∧ P (.lst xs) s) E := by
  unfold mLst; rw [w_bind]
  have e : ∀ (xs : List D) (s : Sto), (if szOk xs.length = true then R.ok (D.lst xs) s else R.no).S P E ↔ szOk xs.length = true ∧ P (.lst xs) s := by
    intro d s
    by_cases h : szOk d.length = true <;> simp [h, w_ok, w_no]
  exact sat_congr e
/-- what is walked -/
def seqW (d : D) (P : List D → Prop) : Prop := match d with
  | .lst xs => P xs
  | .tup xs => P xs
  | _ => False
@[simp] theorem seqW_lst (xs : List D) (P : List D → Prop) : seqW (.lst xs) P ↔ P xs := by with_unfolding_all exact Iff.rfl
@[simp] theorem seqW_tup (xs : List D) (P : List D → Prop) : seqW (.tup xs) P ↔ P xs := by with_unfolding_all exact Iff.rfl
@[simp] theorem w_itSeq (a : FE) : (itSeq a l s).S PA E ↔ (a l s).S (fun x s => seqW x fun xs => PA xs s) E := by
  unfold itSeq; rw [w_bind]
  have e : ∀ (x : D) (s : Sto), (match x with | .lst xs => R.ok xs s | .tup xs => .ok xs s | _ => .no).S PA E ↔ seqW x fun xs => PA xs s := by
    intro x s; cases x <;> with_unfolding_all exact Iff.rfl
  exact sat_congr e
@[simp] theorem w_itRev (a : FE) : (itRev a l s).S PA E ↔ (a l s).S (fun x s => seqW x fun xs => PA xs.reverse s) E := by
  unfold itRev; rw [w_bind]
  have e : ∀ (x : D) (s : Sto), (match x with | .lst xs => R.ok xs.reverse s | .tup xs => .ok xs.reverse s | _ => .no).S PA E ↔ seqW x fun xs => PA xs.reverse s := by
    intro x s; cases x <;> with_unfolding_all exact Iff.rfl
  exact sat_congr e
@[simp] theorem w_itEnum (a : FE) : (itEnum a l s).S PA E ↔ (a l s).S (fun x s => seqW x fun xs => PA (enumD xs) s) E := by
  unfold itEnum; rw [w_bind]
  have e : ∀ (x : D) (s : Sto), (match x with | .lst xs => R.ok (enumD xs) s | .tup xs => .ok (enumD xs) s | _ => .no).S PA E ↔ seqW x fun xs => PA (enumD xs) s := by
    intro x s; cases x <;> with_unfolding_all exact Iff.rfl
  exact sat_congr e
def strW (d : D) (P : Str → Prop) : Prop := match d with
  | .str x => P x
  | _ => False
@[simp] theorem strW_str (x : Str) (P : Str → Prop) : strW (.str x) P ↔ P x := by with_unfolding_all exact Iff.rfl
/-- a text's signs -/
def signsD (x : Str) : List D := x.cps.toList.map fun c => .str ⟨#[c]⟩
@[simp] theorem w_itStr (a : FE) : (itStr a l s).S PA E ↔ (a l s).S (fun x s => strW x fun x => PA (signsD x) s) E := by
  unfold itStr; rw [w_bind]
  have e : ∀ (x : D) (s : Sto), (match x with | .str x => R.ok (x.cps.toList.map fun c => D.str ⟨#[c]⟩) s | _ => .no).S PA E ↔ strW x fun x => PA (signsD x) s := by
    intro x s; cases x <;> with_unfolding_all exact Iff.rfl
  exact sat_congr e
def rg1W (d : List D) (P : List D → Prop) : Prop := match d with
  | [.int j] => rgOk j = true ∧ P (rgD 0 j.toNat)
  | _ => False
@[simp] theorem rg1W_int (j : Int) (P : List D → Prop) : rg1W [.int j] P ↔ rgOk j = true ∧ P (rgD 0 j.toNat) := by with_unfolding_all exact Iff.rfl
@[simp] theorem w_itRg1 (a : FA) : (itRg1 a l s).S PA E ↔ (a l s).S (fun x s => rg1W x fun xs => PA xs s) E := by
  unfold itRg1; rw [w_bind]
  have e : ∀ (x : List D) (s : Sto), (match x with | [.int j] => (if rgOk j = true then R.ok (rgD 0 j.toNat) s else .no) | _ => .no).S PA E ↔ rg1W x fun xs => PA xs s := by
    intro x s
    unfold rg1W
    split
    · rename_i j
      by_cases h : rgOk j = true <;> simp [h, w_ok, w_no]
    · with_unfolding_all exact Iff.rfl
  exact sat_congr e
def rg2W (d : List D) (P : List D → Prop) : Prop := match d with
  | [.int i, .int j] => (rgOk i && rgOk j) = true ∧ P (rgD i (j - i).toNat)
  | _ => False
@[simp] theorem rg2W_int (i j : Int) (P : List D → Prop) : rg2W [.int i, .int j] P ↔ (rgOk i && rgOk j) = true ∧ P (rgD i (j - i).toNat) := by with_unfolding_all exact Iff.rfl
@[simp] theorem w_itRg2 (a : FA) : (itRg2 a l s).S PA E ↔ (a l s).S (fun x s => rg2W x fun xs => PA xs s) E := by
  unfold itRg2; rw [w_bind]
  have e : ∀ (x : List D) (s : Sto), (match x with | [.int i, .int j] => (if (rgOk i && rgOk j) = true then R.ok (rgD i (j - i).toNat) s else .no) | _ => .no).S PA E ↔ rg2W x fun xs => PA xs s := by
    intro x s
    unfold rg2W
    split
    · rename_i i j
      by_cases h : (rgOk i && rgOk j) = true
      · rw [if_pos h]; simp [h, w_ok]
      · rw [if_neg h]; simp [h, w_no]
    · with_unfolding_all exact Iff.rfl
  exact sat_congr e
@[simp] theorem w_mYes : (mYes l s).S PB E ↔ PB true s := by with_unfolding_all exact Iff.rfl
@[simp] theorem w_mComp (it : FA) (g : D → Sl → Option Sl) (t : FT) (e : FE) (vs : List Nat) : (mComp it g t e vs l s).S P E ↔ (it l s).S (fun xs s => (compD g t e (wipeD l vs) xs [] s).S P E) E := by
  unfold mComp; simp only [w_bind]
/-- a def -/
@[simp] theorem w_mDef (n p : Nat) (b : FS) (ds : List D) : (mDef n p b ds s).S P E ↔ ds.length = p ∧ (b (startD n ds) s).W (fun _ s => P .non s) P (fun _ _ => False) (fun _ _ => False) (fun e _ s => E e s) := by
  unfold mDef
  by_cases h : ds.length = p
  · simp only [h, if_true, true_and]
    cases b (startD n ds) s <;> with_unfolding_all exact Iff.rfl
  · simp only [h, if_false, false_and]
    with_unfolding_all exact Iff.rfl
end

section
variable {N : Sl → Sto → Prop} {R : D → Sto → Prop} {B C : Sl → Sto → Prop} {X : Ex → Sl → Sto → Prop} {l : Sl} {s : Sto}
@[simp] theorem W_nx : (Fl.nx l s).W N R B C X ↔ N l s := by with_unfolding_all exact Iff.rfl
@[simp] theorem W_rt (d : D) : (Fl.rt d s).W N R B C X ↔ R d s := by with_unfolding_all exact Iff.rfl
@[simp] theorem W_no : Fl.no.W N R B C X ↔ False := by with_unfolding_all exact Iff.rfl
@[simp] theorem W_fl {α : Type} (r : Vx.R α) (k : α → Sto → Fl) : (r.fl l k).W N R B C X ↔ r.S (fun a s => (k a s).W N R B C X) (fun e s => X e l s) := by cases r <;> with_unfolding_all exact Iff.rfl
@[simp] theorem W_sNil : (sNil l s).W N R B C X ↔ N l s := by with_unfolding_all exact Iff.rfl
@[simp] theorem W_sPass : (sPass l s).W N R B C X ↔ N l s := by with_unfolding_all exact Iff.rfl
@[simp] theorem W_sBrk : (sBrk l s).W N R B C X ↔ B l s := by with_unfolding_all exact Iff.rfl
@[simp] theorem W_sCnt : (sCnt l s).W N R B C X ↔ C l s := by with_unfolding_all exact Iff.rfl
@[simp] theorem W_sSeq (a b : FS) : (sSeq a b l s).W N R B C X ↔ (a l s).W (fun l s => (b l s).W N R B C X) R B C X := by
  unfold sSeq
  cases a l s <;> with_unfolding_all exact Iff.rfl
@[simp] theorem W_sSet (i : Nat) (a : FE) : (sSet i a l s).W N R B C X ↔ (a l s).S (fun x s => N (l.set i (some x)) s) (fun e s => X e l s) := by
  unfold sSet; rw [W_fl]; with_unfolding_all exact Iff.rfl
@[simp] theorem W_sSetF (i : Nat) (a : FE) : (sSetF i a l s).W N R B C X ↔ (a l s).S (fun x s => i < l.length ∧ N (l.set i (some x)) s) (fun e s => X e l s) := by
  unfold sSetF; rw [W_fl]
  have e : ∀ (x : D) (s : Sto), (if i < l.length then Fl.nx (l.set i (some x)) s else .no).W N R B C X ↔ i < l.length ∧ N (l.set i (some x)) s := by
    intro x s
    by_cases h : i < l.length <;> simp [h, W_nx, W_no]
  exact sat_congr e
@[simp] theorem W_sTg (g : D → Sl → Option Sl) (a : FE) : (sTg g a l s).W N R B C X ↔ (a l s).S (fun x s => OW (g x l) fun l1 => N l1 s) (fun e s => X e l s) := by
  unfold sTg; rw [W_fl]
  have e : ∀ (x : D) (s : Sto), (match g x l with | some l1 => Fl.nx l1 s | none => .no).W N R B C X ↔ OW (g x l) fun l1 => N l1 s := by
    intro x s
    cases g x l <;> with_unfolding_all exact Iff.rfl
  exact sat_congr e
@[simp] theorem W_sAug (g : D → D → Option D) (i : Nat) (a : FE) : (sAug g i a l s).W N R B C X ↔ atW l i fun x => (a l s).S (fun y s => OW (g x y) fun z => N (l.set i (some z)) s) (fun e s => X e l s) := by
  unfold sAug atW
  have e : ∀ (x y : D) (s : Sto), (match g x y with | some z => Fl.nx (l.set i (some z)) s | none => .no).W N R B C X ↔ OW (g x y) fun z => N (l.set i (some z)) s := by
    intro x y s
    cases g x y <;> with_unfolding_all exact Iff.rfl
  cases l[i]? with
  | none => with_unfolding_all exact Iff.rfl
  | some o => cases o with
    | none => with_unfolding_all exact Iff.rfl
    | some x =>
      simp only [W_fl]
      exact sat_congr (e x)
@[simp] theorem W_sExp (a : FE) : (sExp a l s).W N R B C X ↔ (a l s).S (fun _ s => N l s) (fun e s => X e l s) := by
  unfold sExp; rw [W_fl]; with_unfolding_all exact Iff.rfl
@[simp] theorem W_sRet (a : FE) : (sRet a l s).W N R B C X ↔ (a l s).S (fun x s => R x s) (fun e s => X e l s) := by
  unfold sRet; rw [W_fl]; with_unfolding_all exact Iff.rfl
@[simp] theorem W_sRetN' (a : FE) : (sRetN' a l s).W N R B C X ↔ (a l s).S (fun x s => x.isMut = false ∧ R x s) (fun e s => X e l s) := by
  unfold sRetN'; rw [W_fl]
  have e : ∀ (x : D) (s : Sto), (if x.isMut = true then Fl.no else .rt x s).W N R B C X ↔ x.isMut = false ∧ R x s := by
    intro x s
    by_cases h : x.isMut = true <;> simp [h, W_rt, W_no]
  exact sat_congr e
@[simp] theorem W_sRetN : (sRetN l s).W N R B C X ↔ R .non s := by with_unfolding_all exact Iff.rfl
@[simp] theorem W_ite {c : Prop} [Decidable c] {f g : Fl} : (if c then f else g).W N R B C X ↔ (if c then f.W N R B C X else g.W N R B C X) := by
  by_cases h : c <;> simp [h]
@[simp] theorem W_sIf (c : FT) (a b : FS) : (sIf c a b l s).W N R B C X ↔ (c l s).S (fun k s => if k = true then (a l s).W N R B C X else (b l s).W N R B C X) (fun e s => X e l s) := by
  unfold sIf; rw [W_fl]; simp only [W_ite]
@[simp] theorem W_sFor (it : FA) (g : D → Sl → Option Sl) (b : FS) : (sFor it g b l s).W N R B C X ↔ (it l s).S (fun xs s => (forD g b xs l s).W N R B C X) (fun e s => X e l s) := by
  unfold sFor; rw [W_fl]
@[simp] theorem W_sWhile (n : Nat) (c : FT) (b : FS) : (sWhile n c b l s).W N R B C X ↔ (whileD c b n l s).W N R B C X := by with_unfolding_all exact Iff.rfl
/-- an own list at slot i -/
def lstW (d : D) (P : List D → Prop) : Prop := match d with
  | .lst xs => P xs
  | _ => False
@[simp] theorem lstW_lst (xs : List D) (P : List D → Prop) : lstW (.lst xs) P ↔ P xs := by with_unfolding_all exact Iff.rfl
@[simp] theorem W_sApp (i : Nat) (a : FE) : (sApp i a l s).W N R B C X ↔ atW l i fun x => lstW x fun xs => (a l s).S (fun y s => xs.length < 16777216 ∧ N (l.set i (some (.lst (xs ++ [y])))) s) (fun e s => X e l s) := by
  unfold sApp atW
  cases l[i]? with
  | none => with_unfolding_all exact Iff.rfl
  | some o => cases o with
    | none => with_unfolding_all exact Iff.rfl
    | some x => cases x with
      | lst xs =>
        simp only [W_fl, lstW]
        have e : ∀ (y : D) (s : Sto), (if xs.length < 16777216 then Fl.nx (l.set i (some (.lst (xs ++ [y])))) s else .no).W N R B C X ↔ xs.length < 16777216 ∧ N (l.set i (some (.lst (xs ++ [y])))) s := by
          intro y s
          by_cases h : xs.length < 16777216 <;> simp [h, W_nx, W_no]
        exact sat_congr e
      | _ => with_unfolding_all exact Iff.rfl
@[simp] theorem W_sExt (i : Nat) (a : FE) : (sExt i a l s).W N R B C X ↔ atW l i fun x => lstW x fun xs => (a l s).S (fun y s => lstW y fun ys => szOk (xs.length + ys.length) = true ∧ N (l.set i (some (.lst (xs ++ ys)))) s) (fun e s => X e l s) := by
  unfold sExt atW
  cases l[i]? with
  | none => with_unfolding_all exact Iff.rfl
  | some o => cases o with
    | none => with_unfolding_all exact Iff.rfl
    | some x => cases x with
      | lst xs =>
        simp only [W_fl, lstW]
        have e : ∀ (y : D) (s : Sto), (match y with | .lst ys => (if szOk (xs.length + ys.length) = true then Fl.nx (l.set i (some (.lst (xs ++ ys)))) s else .no) | _ => .no).W N R B C X ↔ lstW y fun ys => szOk (xs.length + ys.length) = true ∧ N (l.set i (some (.lst (xs ++ ys)))) s := by
          intro y s
          cases y with
          | lst ys => by_cases h : szOk (xs.length + ys.length) = true <;> simp [h, W_nx, W_no, lstW]
          | _ => with_unfolding_all exact Iff.rfl
        exact sat_congr e
      | _ => with_unfolding_all exact Iff.rfl
@[simp] theorem W_sPut (i : Nat) (a k : FE) : (sPut i a k l s).W N R B C X ↔ atW l i fun x => lstW x fun xs => (a l s).S (fun y s => (k l s).S (fun z s => intW z fun n => OW (ixI xs.length n) fun j => N (l.set i (some (.lst (xs.set j y)))) s) (fun e s => X e l s)) (fun e s => X e l s) := by
  unfold sPut atW
  cases l[i]? with
  | none => with_unfolding_all exact Iff.rfl
  | some o => cases o with
    | none => with_unfolding_all exact Iff.rfl
    | some x => cases x with
      | lst xs =>
        simp only [W_fl, lstW]
        have e : ∀ (y z : D) (s : Sto), (match z with | .int n => (match ixI xs.length n with | some j => Fl.nx (l.set i (some (.lst (xs.set j y)))) s | none => .no) | _ => .no).W N R B C X ↔ intW z fun n => OW (ixI xs.length n) fun j => N (l.set i (some (.lst (xs.set j y)))) s := by
          intro y z s
          cases z with
          | int n => unfold intW; simp only []; cases ixI xs.length n <;> with_unfolding_all exact Iff.rfl
          | _ => with_unfolding_all exact Iff.rfl
        exact sat_congr fun y s => sat_congr (e y)
      | _ => with_unfolding_all exact Iff.rfl
end

@[simp] theorem tg1W (v : Nat) (x : D) (l : Sl) (P : Sl → Prop) : OW (tg1 v x l) P ↔ P (l.set v (some x)) := by with_unfolding_all exact Iff.rfl

section
variable {P : D → Sto → Prop} {E : Ex → Sto → Prop} {l : Sl} {s : Sto}
@[simp] theorem w_mSt (g : Str → D → Option D) (a b : FE) : (mSt g a b l s).S P E ↔ (a l s).S (fun x s => strW x fun z => (b l s).S (fun y s => OW (g z y) fun d => P d s) E) E := by
  unfold mSt; rw [w_bind]
  have e : ∀ (x : D) (s : Sto), (match x with | .str z => ((b l s).bind fun y s => liftO (g z y) s) | _ => .no).S P E ↔ strW x fun z => (b l s).S (fun y s => OW (g z y) fun d => P d s) E := by
    intro x s
    cases x with
    | str z => simp only [strW, w_bind, w_lift]
    | _ => with_unfolding_all exact Iff.rfl
  exact sat_congr e
@[simp] theorem w_mSt0 (g : Str → Option D) (a : FE) : (mSt0 g a l s).S P E ↔ (a l s).S (fun x s => strW x fun z => OW (g z) fun d => P d s) E := by
  unfold mSt0; rw [w_bind]
  have e : ∀ (x : D) (s : Sto), (match x with | .str z => (liftO (g z) s) | _ => .no).S P E ↔ strW x fun z => OW (g z) fun d => P d s := by
    intro x s
    cases x with
    | str z => simp only [strW, w_lift]
    | _ => with_unfolding_all exact Iff.rfl
  exact sat_congr e
@[simp] theorem w_mCallL (m : List D → Sto → R D) (a : FA) : (mCallL m a l s).S P E ↔ (a l s).S (fun xs s => (m xs s).S (fun d s => (D.noMut d = true ∧ stoNo s = true) ∧ P d s) NoE) E := by
  unfold mCallL; rw [w_bind]
  refine sat_congr fun xs s => ?_
  cases m xs s with
  | ok d s =>
    with_unfolding_all show (if (D.noMut d && stoNo s) = true then R.ok d s else R.no).S P E ↔ (D.noMut d = true ∧ stoNo s = true) ∧ P d s
    by_cases h : (D.noMut d && stoNo s) = true
    · rw [if_pos h, w_ok]
      rw [Bool.and_eq_true] at h
      simp [h]
    · rw [if_neg h, w_no]
      rw [Bool.and_eq_true] at h
      simp [h]
  | ex e s => with_unfolding_all exact Iff.rfl
  | no => with_unfolding_all exact Iff.rfl
end
section
variable {N : Sl → Sto → Prop} {R : D → Sto → Prop} {B C : Sl → Sto → Prop} {X : Ex → Sl → Sto → Prop} {l : Sl} {s : Sto}
@[simp] theorem W_sMeth (g : List D → List D → Option (D × List D)) (i : Nat) (a : FA) : (sMeth g i a l s).W N R B C X ↔ atW l i fun x => lstW x fun xs => (a l s).S (fun ys s => OW (g xs ys) fun p => N (l.set i (some (.lst p.2))) s) (fun e s => X e l s) := by
  unfold sMeth atW
  cases l[i]? with
  | none => with_unfolding_all exact Iff.rfl
  | some o => cases o with
    | none => with_unfolding_all exact Iff.rfl
    | some x => cases x with
      | lst xs =>
        simp only [W_fl, lstW]
        refine sat_congr fun ys s => ?_
        cases g xs ys with
        | none => with_unfolding_all exact Iff.rfl
        | some w => with_unfolding_all exact Iff.rfl
      | _ => with_unfolding_all exact Iff.rfl
@[simp] theorem W_sMethTo (g : List D → List D → Option (D × List D)) (j i : Nat) (a : FA) : (sMethTo g j i a l s).W N R B C X ↔ atW l i fun x => lstW x fun xs => (a l s).S (fun ys s => OW (g xs ys) fun p => N ((l.set i (some (.lst p.2))).set j (some p.1)) s) (fun e s => X e l s) := by
  unfold sMethTo atW
  cases l[i]? with
  | none => with_unfolding_all exact Iff.rfl
  | some o => cases o with
    | none => with_unfolding_all exact Iff.rfl
    | some x => cases x with
      | lst xs =>
        simp only [W_fl, lstW]
        refine sat_congr fun ys s => ?_
        cases g xs ys with
        | none => with_unfolding_all exact Iff.rfl
        | some w => with_unfolding_all exact Iff.rfl
      | _ => with_unfolding_all exact Iff.rfl
end
@[simp] theorem intsD_map (ns : List Int) : intsD (ns.map .int) = some ns := by
  induction ns with
  | nil => rfl
  | cons n r ih => simp [intsD, ih]
@[simp] theorem noMut_int (i : Int) : D.noMut (.int i) = true := rfl
@[simp] theorem noMut_bl (i : Bool) : D.noMut (.bl i) = true := rfl
@[simp] theorem noMut_str (i : Str) : D.noMut (.str i) = true := rfl
@[simp] theorem noMut_non : D.noMut .non = true := rfl
@[simp] theorem stoNo_nil : stoNo [] = true := rfl
/-! ### loops -/
theorem W_for {g : D → Sl → Option Sl} {b : FS} {R : D → Sto → Prop} {N B C : Sl → Sto → Prop} {X : Ex → Sl → Sto → Prop} (I : List D → List D → Sl → Sto → Prop)
    (step : ∀ (dn : List D) (x : D) (rest : List D) (l : Sl) (s : Sto), I dn (x :: rest) l s → OW (g x l) fun l1 => (b l1 s).W (I (dn ++ [x]) rest) R N (I (dn ++ [x]) rest) X)
    (fin : ∀ (dn : List D) (l : Sl) (s : Sto), I dn [] l s → N l s) :
    ∀ (xs dn : List D) (l : Sl) (s : Sto), I dn xs l s → (forD g b xs l s).W N R B C X := by
  intro xs
  induction xs with
  | nil => intro dn l s h; with_unfolding_all exact fin dn l s h
  | cons x xs ih =>
    intro dn l s h
    have h1 := step dn x xs l s h
    unfold forD
    cases hg : g x l with
    | none => rw [hg] at h1; with_unfolding_all exact False.elim h1
    | some l1 =>
      rw [hg] at h1
      have h2 : (b l1 s).W (I (dn ++ [x]) xs) R N (I (dn ++ [x]) xs) X := by with_unfolding_all exact h1
      show Fl.W (match b l1 s with | .nx l2 s2 => forD g b xs l2 s2 | .ct l2 s2 => forD g b xs l2 s2 | .bk l2 s2 => .nx l2 s2 | f => f) N R B C X
      revert h2
      cases b l1 s with
      | nx l2 s2 => intro h2; with_unfolding_all exact ih _ _ _ h2
      | ct l2 s2 => intro h2; with_unfolding_all exact ih _ _ _ h2
      | bk l2 s2 => intro h2; with_unfolding_all exact h2
      | rt d s2 => intro h2; with_unfolding_all exact h2
      | ex e l2 s2 => intro h2; with_unfolding_all exact h2
      | no => intro h2; with_unfolding_all exact h2
theorem rgD_cons (i : Int) (n : Nat) : rgD i (n + 1) = .int i :: rgD (i + 1) n := by
  unfold rgD
  rw [List.range_succ_eq_map]
  simp only [List.map_cons, List.map_map, Int.natCast_zero, Int.add_zero]
  congr 1
  apply List.map_congr_left
  intro k _
  simp only [Function.comp]
  congr 1
  omega
/-- for k in range: the invariant tells of the turn ahead -/
theorem W_rg {v : Nat} {b : FS} {R : D → Sto → Prop} {N B C : Sl → Sto → Prop} {X : Ex → Sl → Sto → Prop} (i : Int) (n : Nat) (I : Nat → Sl → Sto → Prop) {l : Sl} {s : Sto}
    (h0 : I 0 l s)
    (step : ∀ (k : Nat) (l : Sl) (s : Sto), k < n → I k l s → (b (l.set v (some (.int (i + (k : Int))))) s).W (I (k + 1)) R N (I (k + 1)) X)
    (fin : ∀ (l : Sl) (s : Sto), I n l s → N l s) : (forD (tg1 v) b (rgD i n) l s).W N R B C X := by
  have key := W_for (g := tg1 v) (b := b) (R := R) (N := N) (B := B) (C := C) (X := X) (fun dn rest l s => rest = rgD (i + (dn.length : Int)) (n - dn.length) ∧ dn.length ≤ n ∧ I dn.length l s)
    (by
      intro dn x rest l s ⟨h1, h2, h3⟩
      rw [tg1W]
      by_cases hl : dn.length = n
      · rw [hl] at h1
        simp [rgD] at h1
      · have e : n - dn.length = (n - dn.length - 1) + 1 := by omega
        rw [e, rgD_cons] at h1
        have hx : x = .int (i + (dn.length : Int)) := (List.cons.inj h1).1
        have hr : rest = rgD (i + (dn.length : Int) + 1) (n - dn.length - 1) := (List.cons.inj h1).2
        subst hx
        have q : ∀ (l : Sl) (s : Sto), I (dn.length + 1) l s → (rest = rgD (i + ((dn ++ [D.int (i + (dn.length : Int))]).length : Int)) (n - (dn ++ [D.int (i + (dn.length : Int))]).length) ∧ (dn ++ [D.int (i + (dn.length : Int))]).length ≤ n ∧ I (dn ++ [D.int (i + (dn.length : Int))]).length l s) := by
          intro l s hI
          have e2 : (dn ++ [D.int (i + (dn.length : Int))]).length = dn.length + 1 := by simp
          rw [e2]
          refine ⟨?_, by omega, hI⟩
          rw [hr]
          have e3 : i + (dn.length : Int) + 1 = i + ((dn.length + 1 : Nat) : Int) := by omega
          have e4 : n - dn.length - 1 = n - (dn.length + 1) := by omega
          rw [e3, e4]
        exact (step dn.length l s (by omega) h3).imp q (fun _ _ h => h) (fun _ _ h => h) q (fun _ _ _ h => h))
    (by
      intro dn l s ⟨h1, h2, h3⟩
      by_cases hl : dn.length = n
      · rw [hl] at h3; exact fin l s h3
      · have e : n - dn.length = (n - dn.length - 1) + 1 := by omega
        rw [e, rgD_cons] at h1
        exact absurd h1 (by simp))
  exact key (rgD i n) [] l s ⟨by simp, by simp, h0⟩
/-- .. each item being the value of one of as -/
theorem W_forM {α : Type} {g : D → Sl → Option Sl} {b : FS} {R : D → Sto → Prop} {N B C : Sl → Sto → Prop} {X : Ex → Sl → Sto → Prop} (enc : α → D) (as : List α) (I : List α → Sl → Sto → Prop) {l : Sl} {s : Sto}
    (h0 : I [] l s)
    (step : ∀ (dn : List α) (x : α) (rest : List α) (l : Sl) (s : Sto), as = dn ++ x :: rest → I dn l s → OW (g (enc x) l) fun l1 => (b l1 s).W (I (dn ++ [x])) R N (I (dn ++ [x])) X)
    (fin : ∀ (l : Sl) (s : Sto), I as l s → N l s) : (forD g b (as.map enc) l s).W N R B C X := by
  have key := W_for (g := g) (b := b) (R := R) (N := N) (B := B) (C := C) (X := X) (fun _ rest l s => ∃ dn rs, as = dn ++ rs ∧ rest = rs.map enc ∧ I dn l s)
    (by
      rintro d0 x rest l s ⟨dn, rs, e1, e2, hI⟩
      cases rs with
      | nil => exact absurd e2 (by simp)
      | cons a rs =>
        rw [List.map_cons] at e2
        obtain ⟨rfl, rfl⟩ := List.cons.inj e2
        have h := step dn a rs l s e1 hI
        rw [OW_iff] at h ⊢
        obtain ⟨l1, h1, h2⟩ := h
        refine ⟨l1, h1, ?_⟩
        have q : ∀ (l : Sl) (s : Sto), I (dn ++ [a]) l s → ∃ dn' rs', as = dn' ++ rs' ∧ rs.map enc = rs'.map enc ∧ I dn' l s := fun l s hi => ⟨dn ++ [a], rs, by rw [e1]; simp, rfl, hi⟩
        exact h2.imp q (fun _ _ h => h) (fun _ _ h => h) q (fun _ _ _ h => h))
    (by
      rintro d0 l s ⟨dn, rs, e1, e2, hI⟩
      cases rs with
      | nil => rw [List.append_nil] at e1; exact fin l s (e1 ▸ hI)
      | cons a rs => exact absurd e2 (by simp))
  exact key (as.map enc) [] l s ⟨[], as, rfl, rfl, h0⟩
/-- while: I with a measure -/
theorem W_while {c : FT} {b : FS} {R : D → Sto → Prop} {N B C : Sl → Sto → Prop} {X : Ex → Sl → Sto → Prop} (I : Nat → Sl → Sto → Prop)
    (step : ∀ (m : Nat) (l : Sl) (s : Sto), I m l s → (c l s).S (fun k s => if k = true then (b l s).W (fun l s => ∃ m', m' < m ∧ I m' l s) R N (fun l s => ∃ m', m' < m ∧ I m' l s) X else N l s) (fun e s => X e l s)) :
    ∀ (n m : Nat) (l : Sl) (s : Sto), m < n → I m l s → (whileD c b n l s).W N R B C X := by
  intro n
  induction n with
  | zero => intro m l s h; omega
  | succ n ih =>
    intro m l s hm h
    unfold whileD
    rw [W_fl]
    refine (step m l s h).imp (fun k s h => ?_) (fun _ _ h => h)
    cases k with
    | false => with_unfolding_all exact h
    | true =>
      simp only [if_true] at h ⊢
      revert h
      cases b l s with
      | nx l2 s2 => intro h2; unfold Fl.W at h2; obtain ⟨m', h3, h4⟩ := h2; exact ih m' _ _ (by omega) h4
      | ct l2 s2 => intro h2; unfold Fl.W at h2; obtain ⟨m', h3, h4⟩ := h2; exact ih m' _ _ (by omega) h4
      | bk l2 s2 => intro h2; with_unfolding_all exact h2
      | rt d s2 => intro h2; with_unfolding_all exact h2
      | ex e l2 s2 => intro h2; with_unfolding_all exact h2
      | no => intro h2; with_unfolding_all exact h2
/-- [e for x in xs if t] where each is known -/
theorem compD_eq {g : D → Sl → Option Sl} {t : FT} {e : FE} {l : Sl} {s : Sto} (p : D → Bool) (f : D → D) : ∀ (xs acc : List D), acc.length + xs.length ≤ 16777216 →
    (∀ x ∈ xs, OW (g x l) fun l1 => (t l1 s).S (fun b s' => s' = s ∧ b = p x ∧ (b = true → (e l1 s).S (fun y s' => s' = s ∧ y = f x) NoE)) NoE) →
    compD g t e l xs acc s = .ok (.lst (acc ++ (xs.filter p).map f)) s := by
  intro xs
  induction xs with
  | nil => intro acc _ _; simp [compD]
  | cons x xs ih =>
    intro acc hl h
    have h1 := h x List.mem_cons_self
    unfold compD
    cases hg : g x l with
    | none => rw [hg] at h1; with_unfolding_all exact False.elim h1
    | some l1 =>
      rw [hg] at h1
      have h2 : (t l1 s).S (fun b s' => s' = s ∧ b = p x ∧ (b = true → (e l1 s).S (fun y s' => s' = s ∧ y = f x) NoE)) NoE := by with_unfolding_all exact h1
      simp only [List.length_cons] at hl
      have ih' := fun acc hl => ih acc hl (fun x hx => h x (List.mem_cons_of_mem _ hx))
      simp only []
      revert h2
      cases t l1 s with
      | no => intro h2; with_unfolding_all exact False.elim h2
      | ex _ _ => intro h2; with_unfolding_all exact False.elim h2
      | ok b s1 =>
        intro h2
        unfold R.S at h2
        obtain ⟨rfl, rfl, h3⟩ := h2
        simp only [R.nox_ok, R.bind_ok]
        cases hp : p x with
        | false => 
          simp only [Bool.false_eq_true, if_false, List.filter_cons, hp]
          exact ih' acc (by omega)
        | true =>
          have h4 := h3 hp
          simp only [if_true, List.filter_cons, hp, List.map_cons]
          revert h4
          cases e l1 s1 with
          | no => intro h2; with_unfolding_all exact False.elim h2
          | ex _ _ => intro h2; with_unfolding_all exact False.elim h2
          | ok y s2 =>
            intro h4
            have h4 := h4
            obtain ⟨rfl, rfl⟩ := h4
            simp only [R.nox_ok, R.bind_ok]
            rw [if_pos (by omega), ih' (acc ++ [f x]) (by simp; omega)]
            simp
theorem W_comp {g : D → Sl → Option Sl} {t : FT} {e : FE} {l : Sl} {s : Sto} {P : D → Sto → Prop} {E : Ex → Sto → Prop} {xs : List D} (p : D → Bool) (f : D → D) (hl : xs.length ≤ 16777216)
    (h : ∀ x ∈ xs, OW (g x l) fun l1 => (t l1 s).S (fun b s' => s' = s ∧ b = p x ∧ (b = true → (e l1 s).S (fun y s' => s' = s ∧ y = f x) NoE)) NoE)
    (hP : P (.lst ((xs.filter p).map f)) s) : (compD g t e l xs [] s).S P E := by
  rw [compD_eq p f xs [] (by simpa using hl) h]
  with_unfolding_all exact hP
/-- .. each item being the value of one of as -/
theorem W_compG {α : Type} {g : D → Sl → Option Sl} {t : FT} {e : FE} {l : Sl} {s : Sto} {P : D → Sto → Prop} {E : Ex → Sto → Prop} (as : List α) (enc f : α → D) (p : α → Bool) (hl : as.length ≤ 16777216)
    (h : ∀ a ∈ as, OW (g (enc a) l) fun l1 => (t l1 s).S (fun b s' => s = s' ∧ b = p a ∧ (p a = true → (e l1 s).S (fun y s' => s = s' ∧ y = f a) NoE)) NoE)
    (hP : P (.lst ((as.filter p).map f)) s) : (compD g t e l (as.map enc) [] s).S P E := by
  have key : ∀ (as : List α) (acc : List D), acc.length + as.length ≤ 16777216 → (∀ a ∈ as, OW (g (enc a) l) fun l1 => (t l1 s).S (fun b s' => s = s' ∧ b = p a ∧ (p a = true → (e l1 s).S (fun y s' => s = s' ∧ y = f a) NoE)) NoE) →
      compD g t e l (as.map enc) acc s = .ok (.lst (acc ++ (as.filter p).map f)) s := by
    intro as
    induction as with
    | nil => intro acc _ _; simp [compD]
    | cons a as ih =>
      intro acc hl h
      have h1 := h a List.mem_cons_self
      simp only [List.length_cons] at hl
      have ih' := fun acc hl => ih acc hl (fun x hx => h x (List.mem_cons_of_mem _ hx))
      rw [OW_iff] at h1
      obtain ⟨l1, e1, h2⟩ := h1
      show compD g t e l (enc a :: as.map enc) acc s = _
      unfold compD
      rw [e1]
      simp only []
      revert h2
      cases t l1 s with
      | no => intro h2; with_unfolding_all exact False.elim h2
      | ex _ _ => intro h2; with_unfolding_all exact False.elim h2
      | ok b s1 =>
        intro h2
        unfold R.S at h2
        obtain ⟨e2, e3, h3⟩ := h2
        subst e2
        subst e3
        simp only [R.nox_ok, R.bind_ok]
        cases hp : p a with
        | false =>
          simp only [Bool.false_eq_true, if_false, List.filter_cons, hp]
          exact ih' acc (by omega)
        | true =>
          have h4 := h3 hp
          simp only [if_true, List.filter_cons, hp, List.map_cons]
          revert h4
          cases e l1 s with
          | no => intro h2; with_unfolding_all exact False.elim h2
          | ex _ _ => intro h2; with_unfolding_all exact False.elim h2
          | ok y s2 =>
            intro h4
            have h4 := h4
            obtain ⟨e4, e5⟩ := h4
            subst e4
            subst e5
            simp only [R.nox_ok, R.bind_ok]
            rw [if_pos (by omega), ih' (acc ++ [f a]) (by simp; omega)]
            simp
  rw [key as [] (by simpa using hl) h]
  with_unfolding_all exact hP
theorem W_compM {α : Type} {g : D → Sl → Option Sl} {e : FE} {l : Sl} {s : Sto} {P : D → Sto → Prop} {E : Ex → Sto → Prop} (as : List α) (enc f : α → D) (hl : as.length ≤ 16777216)
    (h : ∀ a ∈ as, OW (g (enc a) l) fun l1 => (e l1 s).S (fun y s' => s = s' ∧ y = f a) NoE)
    (hP : P (.lst (as.map f)) s) : (compD g mYes e l (as.map enc) [] s).S P E := by
  refine W_compG as enc f (fun _ => true) hl (fun a ha => ?_) (by rw [List.filter_eq_self.mpr (by simp)]; exact hP)
  rw [OW_iff]
  obtain ⟨l1, e1, h1⟩ := (OW_iff _ _).mp (h a ha)
  exact ⟨l1, e1, (w_mYes).mpr ⟨rfl, rfl, fun _ => h1⟩⟩
theorem W_compR {g : D → Sl → Option Sl} {t : FT} {e : FE} {l : Sl} {s : Sto} {P : D → Sto → Prop} {E : Ex → Sto → Prop} (n : Nat) (f : Nat → D) (p : Nat → Bool) (hl : n ≤ 16777216)
    (h : ∀ k, k < n → OW (g (.int (k : Int)) l) fun l1 => (t l1 s).S (fun b s' => s = s' ∧ b = p k ∧ (p k = true → (e l1 s).S (fun y s' => s = s' ∧ y = f k) NoE)) NoE)
    (hP : P (.lst (((List.range n).filter p).map f)) s) : (compD g t e l (rgD 0 n) [] s).S P E := by
  have e : rgD 0 n = (List.range n).map (fun k : Nat => D.int (k : Int)) := by simp [rgD]
  rw [e]
  exact W_compG _ _ f p (by simpa using hl) (fun a ha => h a (by simpa using ha)) hP
/-- item by item -/
inductive All2 {α β : Type} (Q : α → β → Prop) : List α → List β → Prop where
  | nil : All2 Q [] []
  | cons {x : α} {y : β} {xs : List α} {ys : List β} (h : Q x y) (t : All2 Q xs ys) : All2 Q (x :: xs) (y :: ys)
theorem All2.len {α β : Type} {Q : α → β → Prop} {xs : List α} {ys : List β} (h : All2 Q xs ys) : ys.length = xs.length := by
  induction h with
  | nil => rfl
  | cons _ _ ih => simp [ih]
/-- the same, one fact of each item -/
theorem W_compQ {g : D → Sl → Option Sl} {e : FE} {l : Sl} {s : Sto} {P : D → Sto → Prop} {E : Ex → Sto → Prop} {xs : List D} (Q : D → D → Prop) (hl : xs.length ≤ 16777216)
    (h : ∀ x ∈ xs, OW (g x l) fun l1 => (e l1 s).S (fun y s' => s' = s ∧ Q x y) NoE)
    (hP : ∀ ys : List D, All2 Q xs ys → P (.lst ys) s) : (compD g mYes e l xs [] s).S P E := by
  have key : ∀ (xs acc : List D), acc.length + xs.length ≤ 16777216 → (∀ x ∈ xs, OW (g x l) fun l1 => (e l1 s).S (fun y s' => s' = s ∧ Q x y) NoE) → ∃ ys, All2 Q xs ys ∧ compD g mYes e l xs acc s = .ok (.lst (acc ++ ys)) s := by
    intro xs
    induction xs with
    | nil => intro acc _ _; exact ⟨[], .nil, by simp [compD]⟩
    | cons x xs ih =>
      intro acc hl h
      have h1 := h x List.mem_cons_self
      simp only [List.length_cons] at hl
      cases hg : g x l with
      | none => rw [hg] at h1; with_unfolding_all exact False.elim h1
      | some l1 =>
        rw [hg] at h1
        have h2 : (e l1 s).S (fun y s' => s' = s ∧ Q x y) NoE := by with_unfolding_all exact h1
        cases he : e l1 s with
        | no => rw [he] at h2; with_unfolding_all exact False.elim h2
        | ex _ _ => rw [he] at h2; with_unfolding_all exact False.elim h2
        | ok y s2 =>
          rw [he] at h2
          unfold R.S at h2
          obtain ⟨e1, e2⟩ := h2
          rw [e1] at he
          obtain ⟨ys, hy, e3⟩ := ih (acc ++ [y]) (by simp; omega) (fun x hx => h x (List.mem_cons_of_mem _ hx))
          refine ⟨y :: ys, .cons e2 hy, ?_⟩
          unfold compD
          simp only [hg, mYes, R.nox_ok, R.bind_ok, if_true, he]
          rw [if_pos (by omega), e3]
          simp
  obtain ⟨ys, h1, h2⟩ := key xs [] (by simpa using hl) h
  rw [h2]
  with_unfolding_all exact hP ys h1

theorem mem_rgD {x : D} {i : Int} {n : Nat} : x ∈ rgD i n ↔ ∃ k : Nat, k < n ∧ x = .int (i + (k : Int)) := by
  unfold rgD
  simp only [List.mem_map, List.mem_range]
  constructor
  · rintro ⟨k, h, rfl⟩; exact ⟨k, h, rfl⟩
  · rintro ⟨k, h, rfl⟩; exact ⟨k, h, rfl⟩
@[simp] theorem rgD_len (i : Int) (n : Nat) : (rgD i n).length = n := by simp [rgD]
theorem All2.ints {xs ys : List D} (h : All2 (fun _ y => ∃ i : Int, y = .int i) xs ys) : ∃ vs : List Int, ys = vs.map .int ∧ vs.length = xs.length := by
  induction h with
  | nil => exact ⟨[], rfl, rfl⟩
  | cons h _ ih =>
    obtain ⟨i, rfl⟩ := h
    obtain ⟨vs, rfl, hl⟩ := ih
    exact ⟨i :: vs, rfl, by simp [hl]⟩
theorem W_compI {g : D → Sl → Option Sl} {e : FE} {l : Sl} {s : Sto} {P : D → Sto → Prop} {E : Ex → Sto → Prop} {xs : List D} (hl : xs.length ≤ 16777216)
    (h : ∀ x ∈ xs, OW (g x l) fun l1 => (e l1 s).S (fun y s' => s' = s ∧ ∃ i : Int, y = .int i) NoE)
    (hP : ∀ vs : List Int, vs.length = xs.length → P (.lst (vs.map .int)) s) : (compD g mYes e l xs [] s).S P E :=
  W_compQ (fun _ y => ∃ i : Int, y = .int i) hl h fun ys hy => by
    obtain ⟨vs, rfl, hv⟩ := hy.ints
    exact hP vs hv
/-- statement by statement -/
theorem W_seq {N : Sl → Sto → Prop} {R : D → Sto → Prop} {B C : Sl → Sto → Prop} {X : Ex → Sl → Sto → Prop} {l : Sl} {s : Sto} {a b : FS} (Q : Sl → Sto → Prop) (h1 : (a l s).W Q R B C X) (h2 : ∀ l s, Q l s → (b l s).W N R B C X) : (sSeq a b l s).W N R B C X :=
  W_sSeq a b |>.mpr (h1.imp h2 (fun _ _ h => h) (fun _ _ h => h) (fun _ _ h => h) (fun _ _ _ h => h))
/-- an if whose test is known -/
theorem W_ifD {N : Sl → Sto → Prop} {R : D → Sto → Prop} {B C : Sl → Sto → Prop} {X : Ex → Sl → Sto → Prop} {l : Sl} {s : Sto} {c : FT} {f g : FS} (b : Bool) (hc : (c l s).S (fun k s' => s = s' ∧ k = b) NoE)
    (h : if b = true then (f l s).W N R B C X else (g l s).W N R B C X) : (sIf c f g l s).W N R B C X := by
  rw [W_sIf]
  refine Vx.R.S.imp hc (fun k s' hk => ?_) (fun _ _ h => h.elim)
  obtain ⟨rfl, rfl⟩ := hk
  exact h
theorem W_cut {N : Sl → Sto → Prop} {R : D → Sto → Prop} {B C : Sl → Sto → Prop} {X : Ex → Sl → Sto → Prop} {f : Fl} (Q : Sl → Sto → Prop) (h1 : f.W Q R B C X) (h2 : ∀ l s, Q l s → N l s) : f.W N R B C X :=
  h1.imp h2 (fun _ _ h => h) (fun _ _ h => h) (fun _ _ h => h) (fun _ _ _ h => h)
section
variable {N R' : Sl → Sto → Prop} {R : D → Sto → Prop} {B C : Sl → Sto → Prop} {X : Ex → Sl → Sto → Prop} {l : Sl} {s : Sto} {a b c d e : FS} (Q : Sl → Sto → Prop)
theorem W_seq2 (h1 : (sSeq a b l s).W Q R B C X) (h2 : ∀ l s, Q l s → (c l s).W N R B C X) : (sSeq a (sSeq b c) l s).W N R B C X :=
  (W_sSeq a _).mpr (((W_sSeq a b).mp h1).imp (fun _ _ h => W_seq Q h h2) (fun _ _ h => h) (fun _ _ h => h) (fun _ _ h => h) (fun _ _ _ h => h))
theorem W_seq3 (h1 : (sSeq a (sSeq b c) l s).W Q R B C X) (h2 : ∀ l s, Q l s → (d l s).W N R B C X) : (sSeq a (sSeq b (sSeq c d)) l s).W N R B C X :=
  (W_sSeq a _).mpr (((W_sSeq a _).mp h1).imp (fun _ _ h => W_seq2 Q h h2) (fun _ _ h => h) (fun _ _ h => h) (fun _ _ h => h) (fun _ _ _ h => h))
theorem W_seq4 (h1 : (sSeq a (sSeq b (sSeq c d)) l s).W Q R B C X) (h2 : ∀ l s, Q l s → (e l s).W N R B C X) : (sSeq a (sSeq b (sSeq c (sSeq d e))) l s).W N R B C X :=
  (W_sSeq a _).mpr (((W_sSeq a _).mp h1).imp (fun _ _ h => W_seq3 Q h h2) (fun _ _ h => h) (fun _ _ h => h) (fun _ _ h => h) (fun _ _ _ h => h))
end
theorem cut_to {α : Type} (xs : List α) (j : Int) (h : 0 ≤ j) : cutD xs none (some j) = xs.take j.toNat := by
  unfold cutD sIx
  simp
  rw [if_neg (by omega)]
  by_cases h : j.toNat ≤ xs.length
  · congr 1; omega
  · omega
theorem cut_from {α : Type} (xs : List α) (j : Int) (h : 0 ≤ j) : cutD xs (some j) none = xs.drop j.toNat := by
  unfold cutD sIx
  simp
  rw [if_neg (by omega)]
  by_cases h : j.toNat ≤ xs.length
  · have e : min j.toNat xs.length = j.toNat := by omega
    rw [e]
    exact List.take_of_length_le (by simp)
  · have e : min j.toNat xs.length = xs.length := by omega
    rw [e, List.drop_of_length_le (i := xs.length) (by omega), List.drop_of_length_le (by omega)]
    simp
@[simp] theorem cutD_map {α β : Type} (f : α → β) (xs : List α) (i j : Option Int) : cutD (xs.map f) i j = (cutD xs i j).map f := by
  unfold cutD
  simp [List.map_take, List.map_drop]
theorem ofS (s : String) : (Str.ofString s).cps.toList = s.toList.map Char.toNat := by rw [Str.ofString_eq_toList]
@[simp] theorem ofS_inj (a b : String) : Str.ofString a = Str.ofString b ↔ a = b := by
  constructor
  · intro h
    have h1 := ofS a
    rw [h, ofS b] at h1
    have inj : ∀ (x y : List Char), x.map Char.toNat = y.map Char.toNat → x = y := by
      intro x
      induction x with
      | nil => intro y h; cases y with
        | nil => rfl
        | cons _ _ => simp at h
      | cons c x ih => intro y h; cases y with
        | nil => simp at h
        | cons d y =>
          simp only [List.map_cons, List.cons.injEq] at h
          have : c = d := Char.toNat_inj.mp h.1
          rw [this, ih y h.2]
    exact (String.toList_inj.mp (inj _ _ h1)).symm
  · intro h; rw [h]

/-! ### operators -/
section
variable {P : D → Prop}
@[simp] theorem o_add (i j : Int) : OW (gAdd (.int i) (.int j)) P ↔ P (.int (i + j)) := by with_unfolding_all exact Iff.rfl
@[simp] theorem o_addI (i j : Int) : OW (gAddI (.int i) (.int j)) P ↔ P (.int (i + j)) := by with_unfolding_all exact Iff.rfl
@[simp] theorem o_sub (i j : Int) : OW (gSub (.int i) (.int j)) P ↔ P (.int (i - j)) := by with_unfolding_all exact Iff.rfl
theorem OW_ite {α : Type} {c : Prop} [Decidable c] {a : α} {Q : α → Prop} : OW (if c then some a else none) Q ↔ c ∧ Q a := by
  by_cases h : c <;> simp [h, OW]
@[simp] theorem o_addT (xs ys : List D) : OW (gAdd (.tup xs) (.tup ys)) P ↔ xs.length + ys.length ≤ 16777216 ∧ P (.tup (xs ++ ys)) := by
  unfold gAdd; simp only [OW_ite, szOk, decide_eq_true_eq]
@[simp] theorem o_addL (xs ys : List D) : OW (gAddL (.lst xs) (.lst ys)) P ↔ xs.length + ys.length ≤ 16777216 ∧ P (.lst (xs ++ ys)) := by
  unfold gAddL; simp only [OW_ite, szOk, decide_eq_true_eq]
@[simp] theorem o_addLL (xs ys : List D) : OW (gAdd (.lst xs) (.lst ys)) P ↔ xs.length + ys.length ≤ 16777216 ∧ P (.lst (xs ++ ys)) := by
  unfold gAdd; simp only [OW_ite, szOk, decide_eq_true_eq]
@[simp] theorem o_addS (x y : Str) : OW (gAdd (.str x) (.str y)) P ↔ x.length + y.length ≤ 16777216 ∧ P (.str (x ++ y)) := by
  unfold gAdd; simp only [OW_ite, szOk, decide_eq_true_eq]
@[simp] theorem o_mul (i j : Int) : OW (gMul (.int i) (.int j)) P ↔ (i.natAbs < 2 ^ 64 ∨ j.natAbs < 2 ^ 64) ∧ P (.int (i * j)) := by
  unfold gMul; simp only [OW_ite, Bool.or_eq_true, decide_eq_true_eq]
@[simp] theorem o_div (i j : Int) : OW (gDiv (.int i) (.int j)) P ↔ (0 < j ∧ j < 1073741824) ∧ P (.int (i / j)) := by
  unfold gDiv; simp only [OW_ite, Bool.and_eq_true, decide_eq_true_eq]
@[simp] theorem o_mod (i j : Int) : OW (gMod (.int i) (.int j)) P ↔ 0 < j ∧ P (.int (i % j)) := by
  unfold gMod; simp only [OW_ite]
@[simp] theorem o_pow (i j : Int) : OW (gPow (.int i) (.int j)) P ↔ ((0 ≤ j ∧ j ≤ 1000000) ∧ i.natAbs < 2 ^ 64) ∧ P (.int (i ^ j.toNat)) := by
  unfold gPow; simp only [OW_ite, Bool.and_eq_true, decide_eq_true_eq]
@[simp] theorem o_shr (i j : Int) : OW (gShr (.int i) (.int j)) P ↔ 0 ≤ j ∧ P (.int (i / 2 ^ j.toNat)) := by
  unfold gShr; simp only [OW_ite]
@[simp] theorem o_mask (i : Int) : OW (gMask (.int i) (.int 2147483647)) P ↔ P (.int (i % 2147483648)) := by with_unfolding_all exact Iff.rfl
@[simp] theorem o_neg (i : Int) : OW (gNeg (.int i)) P ↔ P (.int (-i)) := by with_unfolding_all exact Iff.rfl
@[simp] theorem o_lt (i j : Int) : OW (gLt (.int i) (.int j)) P ↔ P (.bl (decide (i < j))) := by with_unfolding_all exact Iff.rfl
@[simp] theorem o_le (i j : Int) : OW (gLe (.int i) (.int j)) P ↔ P (.bl (decide (i ≤ j))) := by with_unfolding_all exact Iff.rfl
@[simp] theorem o_gt (i j : Int) : OW (gGt (.int i) (.int j)) P ↔ P (.bl (decide (j < i))) := by with_unfolding_all exact Iff.rfl
@[simp] theorem o_ge (i j : Int) : OW (gGe (.int i) (.int j)) P ↔ P (.bl (decide (j ≤ i))) := by with_unfolding_all exact Iff.rfl
@[simp] theorem ch_lt (i j : Int) : (gLt (.int i) (.int j)).bind gBl = some (decide (i < j)) := rfl
@[simp] theorem ch_le (i j : Int) : (gLe (.int i) (.int j)).bind gBl = some (decide (i ≤ j)) := rfl
@[simp] theorem ch_gt (i j : Int) : (gGt (.int i) (.int j)).bind gBl = some (decide (j < i)) := rfl
@[simp] theorem ch_ge (i j : Int) : (gGe (.int i) (.int j)).bind gBl = some (decide (j ≤ i)) := rfl
@[simp] theorem o_not (b : Bool) : OW (gNot (.bl b)) P ↔ P (.bl !b) := by with_unfolding_all exact Iff.rfl
@[simp] theorem o_bl (b : Bool) {Q : Bool → Prop} : OW (gBl (.bl b)) Q ↔ Q b := by with_unfolding_all exact Iff.rfl
@[simp] theorem shp_int (i : Int) : D.shp (.int i) = true := by simp [D.shp, D.pl, D.dep]
@[simp] theorem shp_non : D.shp .non = true := by simp [D.shp, D.pl, D.dep]
@[simp] theorem shp_bl (b : Bool) : D.shp (.bl b) = true := by simp [D.shp, D.pl, D.dep]
theorem eqOk_shp {x y : D} (hx : x.shp = true) (hy : y.shp = true) : D.eqOk x y = true := by simp [D.eqOk, hx, hy]
@[simp] theorem eqOk_str (x y : Str) : D.eqOk (.str x) (.str y) = true := by simp [D.eqOk, D.isStr]
theorem o_eq {x y : D} (h : D.eqOk x y = true) : OW (gEq x y) P ↔ P (.bl (D.eqv x y)) := by
  unfold gEq; simp [h, OW_some]
theorem o_ne {x y : D} (h : D.eqOk x y = true) : OW (gNe x y) P ↔ P (.bl (!D.eqv x y)) := by
  unfold gNe; simp [h, OW_some]
@[simp] theorem o_eqI (i j : Int) : OW (gEq (.int i) (.int j)) P ↔ P (.bl (decide (i = j))) := by
  rw [o_eq (eqOk_shp (shp_int i) (shp_int j))]
  have e : D.eqv (.int i) (.int j) = decide (i = j) := by
    unfold D.eqv
    by_cases h : i = j <;> simp [h]
  rw [e]
@[simp] theorem o_neI (i j : Int) : OW (gNe (.int i) (.int j)) P ↔ P (.bl (decide (i ≠ j))) := by
  rw [o_ne (eqOk_shp (shp_int i) (shp_int j))]
  have e : (!D.eqv (.int i) (.int j)) = decide (i ≠ j) := by
    unfold D.eqv
    by_cases h : i = j <;> simp [h]
  rw [e]
@[simp] theorem o_eqB (i j : Bool) : OW (gEq (.bl i) (.bl j)) P ↔ P (.bl (i == j)) := by
  rw [o_eq (eqOk_shp (shp_bl i) (shp_bl j))]; simp [D.eqv]
@[simp] theorem o_neB (i j : Bool) : OW (gNe (.bl i) (.bl j)) P ↔ P (.bl (!(i == j))) := by
  rw [o_ne (eqOk_shp (shp_bl i) (shp_bl j))]; simp [D.eqv]
@[simp] theorem o_eqNI (j : Int) : OW (gEq .non (.int j)) P ↔ P (.bl false) := by
  rw [o_eq (eqOk_shp shp_non (shp_int j))]; simp [D.eqv]
@[simp] theorem o_eqIN (j : Int) : OW (gEq (.int j) .non) P ↔ P (.bl false) := by
  rw [o_eq (eqOk_shp (shp_int j) shp_non)]; simp [D.eqv]
@[simp] theorem o_eqS (x y : Str) : OW (gEq (.str x) (.str y)) P ↔ P (.bl (x == y)) := by
  rw [o_eq (eqOk_str x y)]; simp [D.eqv]
@[simp] theorem o_neS (x y : Str) : OW (gNe (.str x) (.str y)) P ↔ P (.bl (!(x == y))) := by
  rw [o_ne (eqOk_str x y)]; simp [D.eqv]
@[simp] theorem o_isN (x : D) : OW (gIs x .non) P ↔ P (.bl x.isNon) := by unfold gIs; cases x <;> with_unfolding_all exact Iff.rfl
@[simp] theorem o_isnN (x : D) : OW (gIsNot x .non) P ↔ P (.bl !x.isNon) := by unfold gIsNot; cases x <;> with_unfolding_all exact Iff.rfl
@[simp] theorem o_isB (b c : Bool) : OW (gIs (.bl b) (.bl c)) P ↔ P (.bl (b == c)) := by with_unfolding_all exact Iff.rfl
@[simp] theorem o_isnB (b c : Bool) : OW (gIsNot (.bl b) (.bl c)) P ↔ P (.bl !(b == c)) := by with_unfolding_all exact Iff.rfl
/-- the item at i, from the end if below nought -/
def getI {α : Type} (xs : List α) (i : Int) : Option α := (ixI xs.length i).bind fun j => xs[j]?
@[simp] theorem o_ixL (xs : List D) (i : Int) : OW (gIx (.lst xs) (.int i)) P ↔ OW (getI xs i) P := by with_unfolding_all exact Iff.rfl
@[simp] theorem o_ixT (xs : List D) (i : Int) : OW (gIx (.tup xs) (.int i)) P ↔ OW (getI xs i) P := by with_unfolding_all exact Iff.rfl
@[simp] theorem getI_map {α β : Type} (f : α → β) (xs : List α) (i : Int) : getI (xs.map f) i = (getI xs i).map f := by
  unfold getI
  rw [List.length_map]
  cases ixI xs.length i <;> simp
@[simp] theorem OW_map {α β : Type} (f : α → β) (o : Option α) (Q : β → Prop) : OW (o.map f) Q ↔ OW o (fun a => Q (f a)) := by cases o <;> with_unfolding_all exact Iff.rfl
@[simp] theorem getI_0 {α : Type} (a : α) (xs : List α) : getI (a :: xs) 0 = some a := by simp [getI, ixI]
theorem getI_suc {α : Type} (a : α) (xs : List α) (n : Nat) : getI (a :: xs) ((n : Int) + 1) = getI xs n := by
  have e1 : (0 : Int) ≤ (n : Int) + 1 := by omega
  have e2 : (0 : Int) ≤ (n : Int) := by omega
  unfold getI ixI
  rw [if_pos e1, if_pos e2]
  by_cases h : n < xs.length
  · have h1 : (n : Int) + 1 < ((a :: xs).length : Int) := by simp; omega
    have h2 : (n : Int) < (xs.length : Int) := by omega
    have e3 : ((n : Int) + 1).toNat = n + 1 := by omega
    have e4 : (n : Int).toNat = n := by omega
    rw [if_pos h1, if_pos h2, e3, e4]
    simp
  · have h1 : ¬ (n : Int) + 1 < ((a :: xs).length : Int) := by simp; omega
    have h2 : ¬ (n : Int) < (xs.length : Int) := by omega
    rw [if_neg h1, if_neg h2]
    rfl
@[simp] theorem getI_1 {α : Type} (a : α) (xs : List α) : getI (a :: xs) 1 = getI xs 0 := getI_suc a xs 0
@[simp] theorem getI_2 {α : Type} (a : α) (xs : List α) : getI (a :: xs) 2 = getI xs 1 := getI_suc a xs 1
@[simp] theorem getI_3 {α : Type} (a : α) (xs : List α) : getI (a :: xs) 3 = getI xs 2 := getI_suc a xs 2
@[simp] theorem getI_4 {α : Type} (a : α) (xs : List α) : getI (a :: xs) 4 = getI xs 3 := getI_suc a xs 3
@[simp] theorem getI_5 {α : Type} (a : α) (xs : List α) : getI (a :: xs) 5 = getI xs 4 := getI_suc a xs 4
@[simp] theorem getI_6 {α : Type} (a : α) (xs : List α) : getI (a :: xs) 6 = getI xs 5 := getI_suc a xs 5
@[simp] theorem getI_7 {α : Type} (a : α) (xs : List α) : getI (a :: xs) 7 = getI xs 6 := getI_suc a xs 6
theorem getI_nat {α : Type} (xs : List α) (i : Int) (h0 : 0 ≤ i) (h1 : i < xs.length) : getI xs i = xs[i.toNat]? := by
  unfold getI ixI; simp [h0, h1]
theorem getI_ok {α : Type} {xs : List α} {i : Int} {Q : α → Prop} (h0 : 0 ≤ i) (h1 : i < xs.length) (h : ∀ (h : i.toNat < xs.length), Q xs[i.toNat]) : OW (getI xs i) Q := by
  rw [getI_nat xs i h0 h1]
  have hl : i.toNat < xs.length := by omega
  rw [List.getElem?_eq_getElem hl]
  with_unfolding_all exact h hl
@[simp] theorem o_lenL (xs : List D) : OW (gLen [.lst xs]) P ↔ P (.int xs.length) := by with_unfolding_all exact Iff.rfl
@[simp] theorem o_lenT (xs : List D) : OW (gLen [.tup xs]) P ↔ P (.int xs.length) := by with_unfolding_all exact Iff.rfl
@[simp] theorem o_lenS (x : Str) : OW (gLen [.str x]) P ↔ x.length ≤ 16777216 ∧ P (.int x.length) := by
  unfold gLen; simp only [OW_ite, szOk, decide_eq_true_eq]
@[simp] theorem o_max (i j : Int) : OW (gMax2 [.int i, .int j]) P ↔ P (.int (if j > i then j else i)) := by with_unfolding_all exact Iff.rfl
@[simp] theorem o_min (i j : Int) : OW (gMin2 [.int i, .int j]) P ↔ P (.int (if j < i then j else i)) := by with_unfolding_all exact Iff.rfl
@[simp] theorem o_int (i : Int) : OW (gInt1 [.int i]) P ↔ P (.int i) := by with_unfolding_all exact Iff.rfl
@[simp] theorem o_intB (b : Bool) : OW (gInt1 [.bl b]) P ↔ P (.int (if b then 1 else 0)) := by with_unfolding_all exact Iff.rfl
@[simp] theorem o_tupL (xs : List D) : OW (gTuple [.lst xs]) P ↔ P (.tup xs) := by with_unfolding_all exact Iff.rfl
@[simp] theorem o_tupT (xs : List D) : OW (gTuple [.tup xs]) P ↔ P (.tup xs) := by with_unfolding_all exact Iff.rfl
@[simp] theorem o_lstL (xs : List D) : OW (gList [.lst xs]) P ↔ P (.lst xs) := by with_unfolding_all exact Iff.rfl
@[simp] theorem o_lstT (xs : List D) : OW (gList [.tup xs]) P ↔ P (.lst xs) := by with_unfolding_all exact Iff.rfl
@[simp] theorem o_isiN (T : String) : OW (gIsi T .non) P ↔ P (.bl false) := by with_unfolding_all exact Iff.rfl
@[simp] theorem o_isiB (T : String) (b : Bool) : OW (gIsi T (.bl b)) P ↔ P (.bl (T == "bool" || T == "int")) := by with_unfolding_all exact Iff.rfl
@[simp] theorem o_isiI (T : String) (i : Int) : OW (gIsi T (.int i)) P ↔ P (.bl (T == "int")) := by with_unfolding_all exact Iff.rfl
@[simp] theorem o_isiS (T : String) (x : Str) : OW (gIsi T (.str x)) P ↔ P (.bl (T == "str")) := by with_unfolding_all exact Iff.rfl
@[simp] theorem o_isiT (T : String) (xs : List D) : OW (gIsi T (.tup xs)) P ↔ P (.bl (T == "tuple")) := by with_unfolding_all exact Iff.rfl
@[simp] theorem o_isiL (T : String) (xs : List D) : OW (gIsi T (.lst xs)) P ↔ P (.bl (T == "list")) := by with_unfolding_all exact Iff.rfl
@[simp] theorem o_cutL (xs : List D) (i j : Option Int) : OW (gCut (.lst xs) i j) P ↔ P (.lst (cutD xs i j)) := by with_unfolding_all exact Iff.rfl
@[simp] theorem o_cutT (xs : List D) (i j : Option Int) : OW (gCut (.tup xs) i j) P ↔ P (.tup (cutD xs i j)) := by with_unfolding_all exact Iff.rfl
@[simp] theorem o_cutLL (xs : List D) (i j : Option Int) : OW (gCutL (.lst xs) i j) P ↔ P (.lst (cutD xs i j)) := by with_unfolding_all exact Iff.rfl
/-- a text's part -/
def cutS (x : Str) (i j : Option Int) : Str := ⟨(cutD x.cps.toList i j).toArray⟩
@[simp] theorem o_cutS (x : Str) (i j : Option Int) : OW (gCut (.str x) i j) P ↔ x.length ≤ 16777216 ∧ P (.str (cutS x i j)) := by
  unfold gCut; simp only [OW_ite, szOk, decide_eq_true_eq, cutS]
/-- a text's sign -/
def sgnS (c : Nat) : Str := ⟨#[c]⟩
@[simp] theorem o_ixS (x : Str) (i : Int) : OW (gIx (.str x) (.int i)) P ↔ x.length ≤ 16777216 ∧ OW (getI x.cps.toList i) (fun c => P (.str (sgnS c))) := by
  unfold gIx
  by_cases h : x.length ≤ 16777216
  · simp only [szOk, h, decide_true, if_true, true_and, getI]
    have e : ixI x.cps.toList.length i = ixI x.length i := rfl
    rw [e]
    cases ixI x.length i with
    | none => with_unfolding_all exact Iff.rfl
    | some j =>
      simp only [Option.bind_some, Array.getElem?_toList]
      cases x.cps[j]? <;> with_unfolding_all exact Iff.rfl
  · simp [szOk, h, OW]
@[simp] theorem isNon_non : D.isNon .non = true := rfl
@[simp] theorem isNon_int (i : Int) : D.isNon (.int i) = false := rfl
@[simp] theorem isNon_str (x : Str) : D.isNon (.str x) = false := rfl
@[simp] theorem isNon_tup (x : List D) : D.isNon (.tup x) = false := rfl
end
@[simp] theorem szOk_i (n : Nat) : szOk n = true ↔ n ≤ 16777216 := by simp [szOk]
@[simp] theorem rgOk_i (i : Int) : rgOk i = true ↔ -4611686018427387904 ≤ i ∧ i < 4611686018427387904 := by simp [rgOk]
theorem R.S.ok {r : R D} {P : D → Sto → Prop} (h : r.S P NoE) : ∃ d s, r = .ok d s ∧ P d s := by
  cases r with
  | ok a s => exact ⟨a, s, rfl, by with_unfolding_all exact h⟩
  | ex e s => with_unfolding_all exact False.elim h
  | no => with_unfolding_all exact False.elim h
theorem sat_of_eq {α : Type} {r : R α} {a : α} {s : Sto} {P : α → Sto → Prop} {E : Ex → Sto → Prop} (h : r = .ok a s) : r.S P E ↔ P a s := by rw [h]; with_unfolding_all exact Iff.rfl
end Vx

namespace Law
open PySem Vx
theorem mod_in {α : Type} (xs : List α) (k : Int) (h : xs ≠ []) : 0 ≤ k % (xs.length : Int) ∧ k % (xs.length : Int) < xs.length := by
  have h1 : 0 < xs.length := List.length_pos_iff.mpr h
  exact ⟨Int.emod_nonneg _ (by omega), Int.emod_lt_of_pos _ (by omega)⟩
/-- the script's cell -/
def cel (ns : List Int) (k : Int) : Int := if ns = [] then 0 else (ns[(k % (ns.length : Int)).toNat]?).getD 0
theorem cell_at (ns : List Int) (k : Int) (s : Sto) : m__law_cell_at [.lst (ns.map .int), .int k] s = .ok (.int (cel ns k)) s := by
  have h : (m__law_cell_at [.lst (ns.map .int), .int k] s).S (fun d s' => d = .int (cel ns k) ∧ s' = s) NoE := by
    unfold m__law_cell_at b__law_cell_at cel
    simp [startD]
    by_cases h : ns = []
    · simp [h]
    · have hl : 0 < ns.length := List.length_pos_iff.mpr h
      have := mod_in ns k h
      simp only [h, if_false]
      refine ⟨by omega, getI_ok this.1 this.2 fun h => ?_⟩
      rw [List.getElem?_eq_getElem h]
      rfl
  obtain ⟨d, s', h1, h2, h3⟩ := h.ok
  rw [h1, h2, h3]
/-- the drawn number -/
def mx (ns : List Int) (k t : Int) : Nat := ((cel ns k / 2 ^ (31 * (t + 128 * (k / (if (1 : Int) < ns.length then (ns.length : Int) else 1)))).toNat
  + (let n := ((cel ns k % 2147483648 + 1009 * k * k + 7919 * t * t + 12) * 48271 % 2147483647); n * n % 2147483629)) % 2147483648).toNat
theorem mixed (ns : List Int) (hn : ns.length ≤ 63) (k t : Int) (hk : 0 ≤ k) (hk' : k < 18446744073709551616) (ht : 0 ≤ t) (ht' : t < 18446744073709551616) (s : Sto) :
    m__law_mixed [.lst (ns.map .int), .int k, .int t] s = .ok (.int (mx ns k t : Nat)) s := by
  have h : (m__law_mixed [.lst (ns.map .int), .int k, .int t] s).S (fun d s' => d = .int (mx ns k t : Nat) ∧ s' = s) NoE := by
    unfold m__law_mixed b__law_mixed mx
    simp [startD, cell_at]
    have q1 : (0 : Int) < (if (1 : Int) < ns.length then (ns.length : Int) else 1) ∧ (if (1 : Int) < ns.length then (ns.length : Int) else 1) < 1073741824 := by
      split <;> omega
    generalize (if (1 : Int) < ns.length then (ns.length : Int) else 1) = q at q1 ⊢
    have q2 : 0 ≤ k / q := Int.ediv_nonneg hk (by omega)
    generalize (cel ns k % 2147483648 + 1009 * k * k + 7919 * t * t + 12) * 48271 = z
    generalize hz : z % 2147483647 = y
    have q3 : 0 ≤ y ∧ y < 2147483647 := by omega
    generalize (cel ns k / 2 ^ (31 * (t + 128 * (k / q))).toNat + y * y % 2147483629) = x
    refine ⟨q1, by omega, by omega, by omega, by omega, by omega⟩
  obtain ⟨d, s', h1, h2, h3⟩ := h.ok
  rw [h1, h2, h3]
end Law

namespace Law
open PySem Vx
/-- a whole number from nought on, as a value -/
abbrev nD (n : Nat) : D := .int (n : Int)
def att (xs : List Nat) (i : Nat) : Nat := xs[i]?.getD 0
theorem att_get (xs : List Nat) (i : Nat) (h : i < xs.length) : xs[i] = att xs i := by
  unfold att; rw [List.getElem?_eq_getElem h]; rfl
theorem getI_g {α : Type} {xs : List α} {k : Nat} {Q : α → Prop} (h : k < xs.length) : OW (getI xs (k : Int)) Q ↔ Q xs[k] := by
  rw [getI_nat xs k (by omega) (by omega), Int.toNat_natCast, List.getElem?_eq_getElem h, OW_some]
theorem getI_n {xs : List Nat} {k : Nat} {Q : Nat → Prop} (h : k < xs.length) : OW (getI xs (k : Int)) Q ↔ Q (att xs k) := by
  rw [getI_g h, att_get]
theorem getI_i {xs : List Nat} {i : Int} {k : Nat} {Q : Nat → Prop} (e : i = (k : Int)) (h : k < xs.length) : OW (getI xs i) Q ↔ Q (att xs k) := by
  rw [e, getI_n h]
theorem getI_gi {α : Type} {xs : List α} {i : Int} {k : Nat} {Q : α → Prop} (e : i = (k : Int)) (h : k < xs.length) : OW (getI xs i) Q ↔ Q xs[k] := by
  rw [e, getI_g h]
theorem att_app (xs : List Nat) (x k : Nat) : att (xs ++ [x]) k = if k < xs.length then att xs k else if k = xs.length then x else 0 := by
  unfold att
  by_cases h : k < xs.length
  · rw [if_pos h, List.getElem?_append_left h]
  · rw [if_neg h, List.getElem?_append_right (by omega)]
    by_cases h1 : k = xs.length
    · subst h1; simp
    · rw [if_neg h1]
      have : 1 ≤ k - xs.length := by omega
      simp [List.getElem?_eq_none, this]
theorem getI_neg {α : Type} {xs : List α} {j : Int} {Q : α → Prop} (h0 : j < 0) (h1 : -(xs.length : Int) ≤ j) (h : ∀ (h : (j + xs.length).toNat < xs.length), Q (xs[(j + xs.length).toNat])) : OW (getI xs j) Q := by
  have e : getI xs j = some (xs[(j + xs.length).toNat]'(by omega)) := by
    unfold getI ixI
    rw [if_neg (by omega), if_pos h1]
    simp only [Option.bind_some]
    exact List.getElem?_eq_getElem (by omega)
  rw [e, OW_some]
  exact h (by omega)
theorem flat_nD (xs : List Nat) : (xs.map nD).all D.flat = true := by simp [D.flat]
theorem o_inN (a : Nat) (xs : List Nat) {P : D → Prop} : OW (gIn (nD a) (.lst (xs.map nD))) P ↔ P (.bl (decide (a ∈ xs))) := by
  unfold gIn
  have e1 : D.flat (nD a) = true := rfl
  simp only [e1, flat_nD, Bool.and_self, Bool.true_or, if_true, OW_some]
  have e2 : ((xs.map nD).any fun y => D.eqv y (nD a)) = decide (a ∈ xs) := by
    rw [Bool.eq_iff_iff]
    simp [D.eqv]
    constructor
    · rintro ⟨x, hx, e⟩
      have : x = a := by omega
      exact this ▸ hx
    · intro h
      exact ⟨a, h, rfl⟩
  rw [e2]
theorem o_inT (a : Nat) (xs : List Nat) {P : D → Prop} : OW (gIn (nD a) (.tup (xs.map nD))) P ↔ P (.bl (decide (a ∈ xs))) := by
  unfold gIn
  have e1 : D.flat (nD a) = true := rfl
  simp only [e1, flat_nD, Bool.and_self, if_true, OW_some]
  have e2 : ((xs.map nD).any fun y => D.eqv y (nD a)) = decide (a ∈ xs) := by
    rw [Bool.eq_iff_iff]
    simp [D.eqv]
    constructor
    · rintro ⟨x, hx, e⟩
      have : x = a := by omega
      exact this ▸ hx
    · intro h
      exact ⟨a, h, rfl⟩
  rw [e2]
theorem shp_nD (us : List Nat) : D.shp (.lst (us.map nD)) = true := by
  have h1 : ∀ us : List Nat, D.plAll (us.map nD) = true := by
    intro us
    induction us with
    | nil => rfl
    | cons x r ih => simp [D.plAll, D.pl, ih]
  have h2 : ∀ us : List Nat, D.depAll (us.map nD) = 0 := by
    intro us
    induction us with
    | nil => rfl
    | cons x r ih => simp [D.depAll, D.dep, ih]
  simp [D.shp, D.pl, D.dep, h1, h2]
theorem eqv_nD (us : List Nat) : D.eqv (.lst (us.map nD)) (.lst (us.map nD)) = true := by
  have h1 : ∀ us : List Nat, D.eqvAll (us.map nD) (us.map nD) = true := by
    intro us
    induction us with
    | nil => rfl
    | cons x r ih => simp [D.eqvAll, D.eqv, ih]
  simp [D.eqv, h1]
theorem intsD_nD : ∀ xs : List Nat, intsD (xs.map nD) = some (xs.map fun x : Nat => (x : Int))
  | [] => rfl
  | x :: xs => by
    show (intsD (xs.map nD)).map (_ :: ·) = _
    rw [intsD_nD xs]
    rfl
theorem o_max1N (h : Nat) (r : List Nat) {P : D → Prop} : OW (gMax1 [.lst (nD h :: r.map nD)]) P ↔ P (.int (maxI h (r.map fun x : Nat => (x : Int)))) := by
  have e : intsD (nD h :: r.map nD) = some ((h : Int) :: r.map fun x : Nat => (x : Int)) := intsD_nD (h :: r)
  unfold gMax1
  simp only [e, Option.bind_some, OW_some]
@[simp] theorem o_inS (c : Nat) (y : Str) {P : D → Prop} : OW (gIn (.str (sgnS c)) (.str y)) P ↔ P (.bl (decide (c ∈ y.cps.toList))) := by
  unfold gIn sgnS
  simp only [OW_some]
@[simp] theorem o_notInS (c : Nat) (y : Str) {P : D → Prop} : OW (gNotIn (.str (sgnS c)) (.str y)) P ↔ P (.bl (!decide (c ∈ y.cps.toList))) := by
  unfold gNotIn gIn sgnS
  simp only [Option.bind_some, gNot, OW_some]
/-- a room or None -/
def uD : Option Nat → D
  | none => .non
  | some u => nD u
theorem isNon_uD (u : Option Nat) : D.isNon (uD u) = u.isNone := by cases u <;> rfl
/-- depths as they may stand -/
structure Tree (ds : List Nat) : Prop where
  pos : 0 < ds.length
  le : ds.length ≤ 40
  zero : att ds 0 = 0
  one : ∀ k, 0 < k → k < ds.length → 1 ≤ att ds k
  step : ∀ k, k + 1 < ds.length → att ds (k + 1) ≤ att ds k + 1
theorem Tree.app {ds : List Nat} (T : Tree ds) {x : Nat} (h1 : 1 ≤ x) (h2 : x ≤ att ds (ds.length - 1) + 1) (h3 : ds.length < 40) : Tree (ds ++ [x]) := by
  have hp := T.pos
  refine ⟨by simp, by simp; omega, ?_, ?_, ?_⟩
  · rw [att_app, if_pos hp, T.zero]
  · intro k hk hl
    simp at hl
    rw [att_app]
    by_cases h : k < ds.length
    · rw [if_pos h]; exact T.one k hk h
    · rw [if_neg h, if_pos (by omega)]; exact h1
  · intro k hl
    simp at hl
    rw [att_app, att_app]
    by_cases h : k + 1 < ds.length
    · rw [if_pos h, if_pos (by omega)]; exact T.step k h
    · rw [if_neg h, if_pos (by omega), if_pos (by omega)]
      have : k = ds.length - 1 := by omega
      rw [this]; exact h2
theorem Tree.single : Tree [0] := ⟨by simp, by simp, rfl, fun k h1 h2 => by simp at h2; omega, fun k h => by simp at h⟩
end Law

namespace Law
open PySem Vx
/-! charts: deeds, guards, rooms, boxes, doors -/
def lowC (c : Nat) : Prop := 97 ≤ c ∧ c ≤ 122
/-- a word -/
structure IsW (x : Str) : Prop where
  lo : 1 ≤ x.length
  hi : x.length ≤ 12
  low : ∀ c ∈ x.cps.toList, lowC c
inductive Dd where
  | say (w : Str) | send (e : Nat) | set (b : Nat) (n : Int) | add (b : Nat) (n : Int)
def Dd.D : Dd → D
  | .say w => .tup [.str "say", .str w]
  | .send e => .tup [.str "send", nD e]
  | .set b n => .tup [.str "set", nD b, .int n]
  | .add b n => .tup [.str "add", nD b, .int n]
inductive Gd where
  | yes | is (b : Nat) (n : Int) | under (b : Nat) (n : Int) | inn (r : Nat) | not (g : Gd) | both (g h : Gd) | either (g h : Gd)
def Gd.D : Gd → D
  | .yes => .tup [.str "yes"]
  | .is b n => .tup [.str "is", nD b, .int n]
  | .under b n => .tup [.str "under", nD b, .int n]
  | .inn r => .tup [.str "in", nD r]
  | .not g => .tup [.str "not", g.D]
  | .both g h => .tup [.str "both", g.D, h.D]
  | .either g h => .tup [.str "either", g.D, h.D]
def Gd.hgt : Gd → Nat
  | .not g => g.hgt + 1
  | .both g h => max g.hgt h.hgt + 1
  | .either g h => max g.hgt h.hgt + 1
  | _ => 1
/-- its rooms and boxes are those of nr rooms, nb boxes -/
def Gd.ok (nb nr : Nat) : Gd → Prop
  | .yes => True
  | .is b n => b < nb ∧ -(10 ^ 30) ≤ n ∧ n ≤ 10 ^ 30
  | .under b n => b < nb ∧ -(10 ^ 30) ≤ n ∧ n ≤ 10 ^ 30
  | .inn r => r < nr
  | .not g => g.ok nb nr
  | .both g h => g.ok nb nr ∧ h.ok nb nr
  | .either g h => g.ok nb nr ∧ h.ok nb nr
def Dd.ok (sz : List Int) (ne : Nat) : Dd → Prop
  | .say w => IsW w
  | .send e => e < ne
  | .set b n => b < sz.length ∧ 0 ≤ n ∧ n < (sz[b]?.getD 0)
  | .add b n => b < sz.length ∧ -(10 ^ 30) ≤ n ∧ n ≤ 10 ^ 30
structure Rm where
  nm : Str
  kd : Str
  d : Nat
  kp : Str
  lp : Str
  ins : List Dd
  outs : List Dd
def Rm.D (r : Rm) : D := .tup [.str r.nm, .str r.kd, nD r.d, .str r.kp, .str r.lp, .tup (r.ins.map Dd.D), .tup (r.outs.map Dd.D)]
theorem str_len (s : String) : (Str.ofString s).length = s.length := by
  have h : (Str.ofString s).length = (Str.ofString s).cps.toList.length := by simp [Str.length]
  rw [h, ofS, List.length_map, String.length_toList]
theorem str_cps (s : String) : (Str.ofString s).cps.toList.length = s.length := by rw [ofS, List.length_map, String.length_toList]
theorem app_len (x y : Str) : (x ++ y).length = x.length + y.length := by
  show (Str.append x y).cps.size = _
  simp [Str.append, Str.length]
theorem cut_len {α : Type} (xs : List α) (i j : Option Int) : (cutD xs i j).length ≤ xs.length := by
  unfold cutD; simp; omega
theorem cutS_len (x : Str) (i j : Option Int) : (cutS x i j).length ≤ x.length := by
  have h := cut_len x.cps.toList i j
  simpa [cutS, Str.length] using h
@[simp] theorem sgn_len (c : Nat) : (sgnS c).length = 1 := rfl
theorem getI_mem {α : Type} {xs : List α} {i : Int} {Q : α → Prop} (h0 : 0 ≤ i) (h1 : i < xs.length) (h : ∀ x ∈ xs, Q x) : OW (getI xs i) Q :=
  getI_ok h0 h1 fun _ => h _ (List.getElem_mem _)
/-- a room's kind -/
def rk (rs : List Rm) (i : Nat) : Str := (rs[i]?.map Rm.kd).getD ""
def Kd (ds : List Nat) (i : Nat) (x : Str) : Prop := if i + 1 < ds.length ∧ att ds i < att ds (i + 1) then x = "one" ∨ x = "all" else x = "plain"
theorem rk_app (rs : List Rm) (r : Rm) (i : Nat) (h : i < rs.length + 1) : rk (rs ++ [r]) i = if i < rs.length then rk rs i else r.kd := by
  unfold rk
  by_cases h1 : i < rs.length
  · rw [if_pos h1, List.getElem?_append_left h1]
  · have : i = rs.length := by omega
    subst this
    simp
theorem rk_get (rs : List Rm) (i : Nat) (h : i < rs.length) : rs[i].kd = rk rs i := by
  unfold rk; rw [List.getElem?_eq_getElem h]; rfl
theorem rd_get (rs : List Rm) (i : Nat) (h : i < rs.length) : rs[i].d = att (rs.map Rm.d) i := by
  unfold att; simp [List.getElem?_eq_getElem h]
section
variable {P : D → Prop} (r : Rm)
@[simp] theorem rm_0 : OW (gIx (Rm.D r) (.int 0)) P ↔ P (.str r.nm) := by simp [Rm.D]
@[simp] theorem rm_1 : OW (gIx (Rm.D r) (.int 1)) P ↔ P (.str r.kd) := by simp [Rm.D]
@[simp] theorem rm_2 : OW (gIx (Rm.D r) (.int 2)) P ↔ P (nD r.d) := by simp [Rm.D]
@[simp] theorem rm_3 : OW (gIx (Rm.D r) (.int 3)) P ↔ P (.str r.kp) := by simp [Rm.D]
@[simp] theorem rm_5 : OW (gIx (Rm.D r) (.int 5)) P ↔ P (.tup (r.ins.map Dd.D)) := by simp [Rm.D]
@[simp] theorem rm_6 : OW (gIx (Rm.D r) (.int 6)) P ↔ P (.tup (r.outs.map Dd.D)) := by simp [Rm.D]
@[simp] theorem rm_4 : OW (gIx (Rm.D r) (.int 4)) P ↔ P (.str r.lp) := by simp [Rm.D]
end
/-- the rooms have these depths -/
structure Rms (rs : List Rm) (ds : List Nat) : Prop where
  map : rs.map Rm.d = ds
theorem Rms.len {rs : List Rm} {ds : List Nat} (h : Rms rs ds) : rs.length = ds.length := by rw [← h.map, List.length_map]
theorem Rms.get {rs : List Rm} {ds : List Nat} (h : Rms rs ds) (i : Nat) (hi : i < rs.length) : rs[i].d = att ds i := by rw [rd_get, h.map]
theorem getI_r {rs : List Rm} {k : Nat} {Q : Rm → Prop} (h : k < rs.length) : OW (getI rs (k : Int)) Q ↔ Q rs[k] := getI_g h
end Law

namespace Law
open PySem Vx
structure Bx where
  nm : Str
  sz : Int
  st : Int
def Bx.D (b : Bx) : D := .tup [.str b.nm, .int b.sz, .int b.st]
structure Dr where
  rm : Nat
  ev : Nat
  gd : Gd
  dd : List Dd
  way : Str
  goal : Option Nat
def Dr.D (d : Dr) : D := .tup [nD d.rm, nD d.ev, d.gd.D, .tup (d.dd.map Dd.D), .str d.way, uD d.goal]
structure Ch where
  order : Str
  lett : Nat
  turns : Nat
  boxes : List Bx
  evs : List Str
  rooms : List Rm
  doors : List Dr
def Ch.D (c : Ch) : D := .tup [.str c.order, nD c.lett, nD c.turns, .tup (c.boxes.map Bx.D), .tup (c.evs.map .str), .tup (c.rooms.map Rm.D), .tup (c.doors.map Dr.D)]
section
variable {P : D → Prop} {b : Bx} {d : Dr} {c : Ch}
@[simp] theorem bx_0 : OW (gIx (Bx.D b) (.int 0)) P ↔ P (.str b.nm) := by simp [Bx.D]
@[simp] theorem bx_1 : OW (gIx (Bx.D b) (.int 1)) P ↔ P (.int b.sz) := by simp [Bx.D]
@[simp] theorem bx_2 : OW (gIx (Bx.D b) (.int 2)) P ↔ P (.int b.st) := by simp [Bx.D]
@[simp] theorem dr_0 : OW (gIx (Dr.D d) (.int 0)) P ↔ P (nD d.rm) := by simp [Dr.D]
@[simp] theorem dr_1 : OW (gIx (Dr.D d) (.int 1)) P ↔ P (nD d.ev) := by simp [Dr.D]
@[simp] theorem dr_2 : OW (gIx (Dr.D d) (.int 2)) P ↔ P d.gd.D := by simp [Dr.D]
@[simp] theorem dr_3 : OW (gIx (Dr.D d) (.int 3)) P ↔ P (.tup (d.dd.map Dd.D)) := by simp [Dr.D]
@[simp] theorem dr_4 : OW (gIx (Dr.D d) (.int 4)) P ↔ P (.str d.way) := by simp [Dr.D]
@[simp] theorem dr_5 : OW (gIx (Dr.D d) (.int 5)) P ↔ P (uD d.goal) := by simp [Dr.D]
@[simp] theorem ch_0 : OW (gIx (Ch.D c) (.int 0)) P ↔ P (.str c.order) := by simp [Ch.D]
@[simp] theorem ch_1 : OW (gIx (Ch.D c) (.int 1)) P ↔ P (nD c.lett) := by simp [Ch.D]
@[simp] theorem ch_2 : OW (gIx (Ch.D c) (.int 2)) P ↔ P (nD c.turns) := by simp [Ch.D]
@[simp] theorem ch_3 : OW (gIx (Ch.D c) (.int 3)) P ↔ P (.tup (c.boxes.map Bx.D)) := by simp [Ch.D]
@[simp] theorem ch_4 : OW (gIx (Ch.D c) (.int 4)) P ↔ P (.tup (c.evs.map .str)) := by simp [Ch.D]
@[simp] theorem ch_5 : OW (gIx (Ch.D c) (.int 5)) P ↔ P (.tup (c.rooms.map Rm.D)) := by simp [Ch.D]
@[simp] theorem ch_6 : OW (gIx (Ch.D c) (.int 6)) P ↔ P (.tup (c.doors.map Dr.D)) := by simp [Ch.D]
end
def Ch.ds (c : Ch) : List Nat := c.rooms.map Rm.d
def Ch.szs (c : Ch) : List Int := c.boxes.map Bx.sz
def DdsOk (sz : List Int) (ne : Nat) (l : List Dd) : Prop := l.length ≤ 8 ∧ ∀ d ∈ l, d.ok sz ne
/-- a room's keeps, lamp, deeds -/
structure RmOk (sz : List Int) (ne : Nat) (r : Rm) : Prop where
  kp : r.kp = "" ∨ r.kd = "one" ∧ r.kp = "near" ∨ r.kd ≠ "plain" ∧ r.kp = "deep"
  lp : r.lp = "" ∨ IsW r.lp
  ins : DdsOk sz ne r.ins
  outs : DdsOk sz ne r.outs
  nm : IsW r.nm
structure BxOk (b : Bx) : Prop where
  nm : IsW b.nm
  lo : 1 ≤ b.sz
  hi : b.sz ≤ 10 ^ 30
  s0 : 0 ≤ b.st
  s1 : b.st < b.sz
def wayOk (rs : List Rm) (way : Str) (goal : Option Nat) : Prop :=
  way = "stay" ∧ goal = none ∨ way = "to" ∧ (∃ g, goal = some g ∧ g < rs.length) ∨ way = "back" ∧ ∃ g, goal = some g ∧ ∃ h : g < rs.length, rs[g].kp ≠ ""
structure DrOk (nb ne : Nat) (sz : List Int) (rs : List Rm) (d : Dr) : Prop where
  rm : d.rm < rs.length
  ev : d.ev < ne
  gd : d.gd.ok nb rs.length
  hg : d.gd.hgt ≤ 6
  dd : DdsOk sz ne d.dd
  way : wayOk rs d.way d.goal
/-- a chart without faults, but for like names -/
structure ChOk (c : Ch) : Prop where
  order : c.order = "inner" ∨ c.order = "outer"
  lett : c.lett ≤ 12
  turns : 1 ≤ c.turns ∧ c.turns ≤ 20
  boxes : c.boxes.length ≤ 6 ∧ ∀ b ∈ c.boxes, BxOk b
  evs : c.evs.length ≤ 8 ∧ ∀ e ∈ c.evs, IsW e
  tree : Tree c.ds
  dep : ∀ r ∈ c.rooms, r.d ≤ 12
  kd : ∀ i, i < c.ds.length → Kd c.ds i (rk c.rooms i)
  rooms : ∀ r ∈ c.rooms, RmOk c.szs c.evs.length r
  doors : c.doors.length ≤ 60 ∧ ∀ d ∈ c.doors, DrOk c.boxes.length c.evs.length c.szs c.rooms d
end Law

namespace Law
open PySem Vx
theorem getI_par {n k : Nat} {Q : Nat → Prop} (h : k < n) : OW (getI (List.range n) (k : Int)) Q ↔ Q k := by
  rw [getI_g (by simpa using h)]; simp
def lb (d : Nat → Nat) (t : Nat) : Nat → Nat
  | 0 => 0
  | n + 1 => if d n < t then n else lb d t n
/-- a room's parent -/
def par (ds : List Nat) (k : Nat) : Nat := lb (att ds) (att ds k) k
theorem lb_spec (d : Nat → Nat) (t : Nat) (h0 : d 0 < t) : ∀ n, 0 < n → lb d t n < n ∧ d (lb d t n) < t ∧ ∀ j, lb d t n < j → j < n → t ≤ d j
  | 0, h => absurd h (by omega)
  | n + 1, _ => by
    unfold lb
    split
    · rename_i h
      exact ⟨by omega, h, fun j h1 h2 => by omega⟩
    · rename_i h
      have hn : 0 < n := by
        rcases Nat.eq_zero_or_pos n with e | e
        · subst e; exact absurd h0 h
        · exact e
      obtain ⟨h1, h2, h3⟩ := lb_spec d t h0 n hn
      refine ⟨by omega, h2, fun j h4 h5 => ?_⟩
      by_cases e : j = n
      · subst e; omega
      · exact h3 j h4 (by omega)
theorem par_spec {ds : List Nat} (T : Tree ds) {k : Nat} (h0 : 0 < k) (hk : k < ds.length) : par ds k < k ∧ att ds (par ds k) < att ds k ∧ ∀ j, par ds k < j → j < k → att ds k ≤ att ds j :=
  lb_spec (att ds) (att ds k) (by have := T.one k h0 hk; have := T.zero; omega) k h0
theorem par_unique {ds : List Nat} (T : Tree ds) {k i : Nat} (hk : k < ds.length) (h1 : i < k) (h2 : att ds i < att ds k) (h3 : ∀ j, i < j → j < k → att ds k ≤ att ds j) : par ds k = i := by
  obtain ⟨q1, q2, q3⟩ := par_spec T (by omega) hk
  have a1 : ¬ par ds k < i := fun h => by have := q3 i h h1; omega
  have a2 : ¬ i < par ds k := fun h => by have := h3 _ h q1; omega
  omega
theorem par_succ {ds : List Nat} (T : Tree ds) {k : Nat} (h0 : 0 < k) (hk : k < ds.length) : att ds (par ds k) + 1 = att ds k := by
  obtain ⟨q1, q2, q3⟩ := par_spec T h0 hk
  have s1 := T.step (par ds k) (by omega)
  by_cases e : par ds k + 1 = k
  · rw [e] at s1; omega
  · have := q3 (par ds k + 1) (by omega) (by omega); omega
def parD (ds : List Nat) (k : Nat) : D := if k = 0 then .non else nD (par ds k)
theorem parD_zero (ds : List Nat) : parD ds 0 = .non := rfl
theorem parD_pos (ds : List Nat) {k : Nat} (h : 0 < k) : parD ds k = nD (par ds k) := by unfold parD; rw [if_neg (by omega)]
/-- the rooms above, by their depths -/
structure Ab (ds ab : List Nat) (m : Nat) : Prop where
  len : ab.length = att ds m + 1
  lt : ∀ j, j < ab.length → att ab j ≤ m
  dep : ∀ j, j < ab.length → att ds (att ab j) = j
  aft : ∀ j, j < ab.length → ∀ i, att ab j < i → i ≤ m → j < att ds i
theorem att_take (xs : List Nat) (n j : Nat) (h : j < n) : att (xs.take n) j = att xs j := by
  unfold att; rw [List.getElem?_take_of_lt h]
theorem Ab.next {ds ab : List Nat} {m : Nat} (A : Ab ds ab m) (T : Tree ds) (h : m + 1 < ds.length) : Ab ds (ab.take (att ds (m + 1)) ++ [m + 1]) (m + 1) := by
  have s := T.step m h
  have hl : (ab.take (att ds (m + 1))).length = att ds (m + 1) := by rw [List.length_take, A.len]; omega
  have key : ∀ j, j < (ab.take (att ds (m + 1)) ++ [m + 1]).length → att (ab.take (att ds (m + 1)) ++ [m + 1]) j = if j < att ds (m + 1) then att ab j else m + 1 := by
    intro j hj
    simp only [List.length_append, hl, List.length_singleton] at hj
    rw [att_app, hl]
    by_cases e : j < att ds (m + 1)
    · rw [if_pos e, if_pos e, att_take _ _ _ e]
    · rw [if_neg e, if_neg e, if_pos (by omega)]
  have hal := A.len
  refine ⟨by simp only [List.length_append, hl, List.length_singleton], ?_, ?_, ?_⟩
  · intro j hj
    rw [key j hj]
    split
    · have := A.lt j (by omega); omega
    · omega
  · intro j hj
    rw [key j hj]
    simp only [List.length_append, hl, List.length_singleton] at hj
    split
    · exact A.dep j (by omega)
    · omega
  · intro j hj i
    rw [key j hj]
    simp only [List.length_append, hl, List.length_singleton] at hj
    split
    · intro h1 h2
      by_cases e : i = m + 1
      · subst e; omega
      · exact A.aft j (by omega) i h1 (by omega)
    · omega
theorem Tree.idx {ds : List Nat} (T : Tree ds) : ∀ k, k < ds.length → att ds k ≤ k
  | 0, _ => by rw [T.zero]; omega
  | k + 1, h => by
    have := T.idx k (by omega)
    have := T.step k h
    omega
theorem Ab.zero {ds : List Nat} (T : Tree ds) : Ab ds [0] 0 := by
  have z := T.zero
  refine ⟨by rw [z]; rfl, ?_, ?_, ?_⟩
  · intro j hj; simp at hj; subst hj; exact Nat.le_refl _
  · intro j hj; simp at hj; subst hj; exact z
  · intro j hj i h1 h2; simp at hj; subst hj; simp [att] at h1; omega
theorem Ab.par {ds ab : List Nat} {k : Nat} (A : Ab ds ab k) (T : Tree ds) (h0 : 0 < k) (hk : k < ds.length) : par ds k = att ab (ab.length - 2) := by
  have h1 := A.len
  have h2 := T.one k h0 hk
  have q1 := A.lt (ab.length - 2) (by omega)
  have q2 := A.dep (ab.length - 2) (by omega)
  have q3 := A.aft (ab.length - 2) (by omega)
  have ne : att ab (ab.length - 2) ≠ k := fun e => by rw [e] at q2; omega
  exact par_unique T hk (by omega) (by omega) fun j h3 h4 => by have := q3 j h3 (by omega); omega
end Law

namespace Law
open PySem Vx
def upW (p : Nat → Bool) : Nat → Nat → Nat
  | 0, k => k
  | f + 1, k => if p k then upW p f (k + 1) else k
/-- the first room behind r that lies not in it -/
def eo (ds : List Nat) (r : Nat) : Nat := upW (fun k => decide (att ds r < att ds k)) (ds.length - (r + 1)) (r + 1)
theorem upW_spec (p : Nat → Bool) : ∀ f k, k ≤ upW p f k ∧ upW p f k ≤ k + f ∧ (∀ j, k ≤ j → j < upW p f k → p j = true) ∧ (upW p f k < k + f → p (upW p f k) = false)
  | 0, k => ⟨Nat.le_refl _, Nat.le_refl _, fun j h1 h2 => by unfold upW at h2; omega, fun h => by unfold upW at h; omega⟩
  | f + 1, k => by
    unfold upW
    split
    · rename_i hp
      obtain ⟨h1, h2, h3, h4⟩ := upW_spec p f (k + 1)
      refine ⟨by omega, by omega, fun j h5 h6 => ?_, fun h => h4 (by omega)⟩
      by_cases e : j = k
      · subst e; exact hp
      · exact h3 j (by omega) h6
    · rename_i hp
      exact ⟨Nat.le_refl _, by omega, fun j h1 h2 => by omega, fun _ => by simpa using hp⟩
theorem eo_spec {ds : List Nat} {r : Nat} (hr : r < ds.length) : r < eo ds r ∧ eo ds r ≤ ds.length ∧ (∀ j, r < j → j < eo ds r → att ds r < att ds j) ∧ (eo ds r < ds.length → att ds (eo ds r) ≤ att ds r) := by
  obtain ⟨h1, h2, h3, h4⟩ := upW_spec (fun k => decide (att ds r < att ds k)) (ds.length - (r + 1)) (r + 1)
  refine ⟨h1, by unfold eo; omega, fun j h5 h6 => by simpa using h3 j h5 h6, fun h => ?_⟩
  have := h4 (by unfold eo at h; omega)
  simpa [eo] using this
theorem eo_unique {ds : List Nat} {r e : Nat} (hr : r < ds.length) (h1 : r < e) (h2 : e ≤ ds.length) (h3 : ∀ j, r < j → j < e → att ds r < att ds j) (h4 : e < ds.length → att ds e ≤ att ds r) : eo ds r = e := by
  obtain ⟨q1, q2, q3, q4⟩ := eo_spec hr
  have a1 : ¬ eo ds r < e := fun h => by have := h3 _ q1 h; have := q4 (by omega); omega
  have a2 : ¬ e < eo ds r := fun h => by have := q3 _ h1 h; have := h4 (by omega); omega
  omega
/-- a lies in b -/
def lies (ds : List Nat) (a b : Nat) : Bool := decide (b < a) && decide (a < eo ds b)
/-- b is met by steps to the parent from a -/
inductive Met (ds : List Nat) : Nat → Nat → Prop where
  | here {a : Nat} (h : 0 < a) : Met ds a (par ds a)
  | up {a b : Nat} (h : 0 < a) (m : Met ds (par ds a) b) : Met ds a b
theorem lies_iff {ds : List Nat} {a b : Nat} (hb : b < ds.length) (ha : a < ds.length) : lies ds a b = true ↔ b < a ∧ ∀ j, b < j → j ≤ a → att ds b < att ds j := by
  obtain ⟨q1, q2, q3, q4⟩ := eo_spec hb
  simp only [lies, Bool.and_eq_true, decide_eq_true_eq]
  constructor
  · rintro ⟨h1, h2⟩
    exact ⟨h1, fun j h3 h4 => q3 j h3 (by omega)⟩
  · rintro ⟨h1, h2⟩
    refine ⟨h1, ?_⟩
    by_cases e : eo ds b ≤ a
    · have := h2 _ q1 e
      have := q4 (by omega)
      omega
    · omega
theorem lies_met {ds : List Nat} (T : Tree ds) {b : Nat} (hb : b < ds.length) : ∀ a, a < ds.length → (lies ds a b = true ↔ Met ds a b) := by
  intro a
  induction a using Nat.strongRecOn with
  | ind a ih =>
    intro ha
    rw [lies_iff hb ha]
    by_cases h0 : a = 0
    · subst h0
      constructor
      · rintro ⟨h1, _⟩; omega
      · intro h
        cases h with
        | here h => omega
        | up h m => omega
    · have h0 : 0 < a := by omega
      obtain ⟨q1, q2, q3⟩ := par_spec T h0 ha
      have ih1 := (ih _ q1 (by omega))
      rw [lies_iff hb (by omega)] at ih1
      constructor
      · rintro ⟨h1, h2⟩
        have h3 : b ≤ par ds a := by
          by_cases e : b ≤ par ds a
          · exact e
          · have := q3 b (by omega) h1
            have := h2 a h1 (Nat.le_refl _)
            omega
        by_cases e : b = par ds a
        · rw [e]; exact .here h0
        · exact .up h0 (ih1.mp ⟨by omega, fun j h4 h5 => h2 j h4 (by omega)⟩)
      · intro h
        have key : ∀ j, par ds a < j → j ≤ a → att ds (par ds a) < att ds j := by
          intro j h1 h2
          by_cases e : j = a
          · subst e; exact q2
          · have := q3 j h1 (by omega); omega
        cases h with
        | here h => exact ⟨q1, key⟩
        | up h m =>
          obtain ⟨h1, h2⟩ := ih1.mpr m
          refine ⟨by omega, fun j h3 h4 => ?_⟩
          by_cases e : j ≤ par ds a
          · exact h2 j h3 e
          · have := key j (by omega) h4
            have := h2 (par ds a) h1 (Nat.le_refl _)
            omega
theorem met_cases {ds : List Nat} {a b : Nat} (h0 : 0 < a) : Met ds a b ↔ b = par ds a ∨ Met ds (par ds a) b := by
  constructor
  · intro h
    cases h with
    | here h => exact .inl rfl
    | up h m => exact .inr m
  · rintro (rfl | h)
    · exact .here h0
    · exact .up h0 h
theorem met_zero {ds : List Nat} {b : Nat} : ¬ Met ds 0 b := by
  intro h
  cases h with
  | here h => omega
  | up h m => omega
end Law

namespace Law
open PySem Vx
theorem end_of {rs : List Rm} {ds : List Nat} (h : Rms rs ds) (hl : ds.length ≤ 100) {r : Nat} (hr : r < ds.length) (s : Sto) : m_end_of [.tup (rs.map Rm.D), nD r] s = .ok (nD (eo ds r)) s := by
  have hlen := h.len
  have h : (m_end_of [.tup (rs.map Rm.D), nD r] s).S (fun d s' => s = s' ∧ d = nD (eo ds r)) NoE := by
    unfold m_end_of b_end_of
    simp only [w_mDef, startD]
    refine ⟨rfl, ?_⟩
    simp
    refine W_while (fun m l s' => s = s' ∧ ∃ k : Nat, m = ds.length - k ∧ l = [some (.tup (rs.map Rm.D)), some (nD r), some (nD k)] ∧ r < k ∧ k ≤ ds.length ∧ (∀ j, r < j → j < k → att ds r < att ds j)) ?_ _ (ds.length - (r + 1)) _ _ (by unfold bigN; omega) ?_
    · rintro m l s' ⟨rfl, k, rfl, rfl, h1, h2, h3⟩
      simp
      split
      · refine (getI_r (by omega)).mpr ?_
        refine (getI_r (by omega)).mpr ?_
        rw [h.get, h.get]
        split
        · rename_i hk hd
          refine ⟨_, ?_, k + 1, rfl, by omega, by omega, by omega, fun j h4 h5 => ?_⟩
          · omega
          · by_cases e : j = k
            · subst e; exact hd
            · exact h3 j h4 (by omega)
        · rename_i hk hd
          rw [eo_unique hr h1 h2 h3 (fun _ => by omega)]
      · rename_i hk
        rw [eo_unique hr h1 h2 h3 (fun _ => by omega)]
    · exact ⟨rfl, r + 1, rfl, by simp, by omega, by omega, fun j h1 h2 => by omega⟩
  obtain ⟨d, s', h1, rfl, rfl⟩ := h.ok
  exact h1
end Law

namespace Law
open PySem Vx
theorem parent {rs : List Rm} {ds : List Nat} (M : Rms rs ds) (T : Tree ds) {r : Nat} (hr : r < ds.length) (s : Sto) : m_parent [.tup (rs.map Rm.D), nD r] s = .ok (parD ds r) s := by
  have hlen := M.len
  have hle := T.le
  have h : (m_parent [.tup (rs.map Rm.D), nD r] s).S (fun d s' => s = s' ∧ d = parD ds r) NoE := by
    unfold m_parent b_parent
    simp only [w_mDef, startD]
    refine ⟨rfl, ?_⟩
    simp
    refine W_while (fun m l s' => s = s' ∧ m ≤ r ∧ l = [some (.tup (rs.map Rm.D)), some (nD r), some (.int ((m : Int) - 1))] ∧ ∀ j, m ≤ j → j < r → att ds r ≤ att ds j) ?_ _ r _ _ (by unfold bigN; omega) ?_
    · rintro m l s' ⟨rfl, h1, rfl, h2⟩
      simp
      by_cases h0 : m = 0
      · subst h0
        have e : r = 0 := by
          by_cases e : r = 0
          · exact e
          · have := h2 0 (by omega) (by omega)
            have := T.zero
            have := T.one r (by omega) hr
            omega
        simp [e, parD]
      · have e1 : (0 : Int) ≤ (m : Int) - 1 := by omega
        rw [getI_gi (k := m - 1) (by omega) (by omega)]
        rw [getI_gi (k := r) (by omega) (by omega)]
        rw [M.get, M.get]
        by_cases hd : att ds (m - 1) < att ds r
        · have e2 : par ds r = m - 1 := par_unique T hr (by omega) hd fun j h3 h4 => h2 j (by omega) h4
          have e3 : (1 : Int) ≤ (m : Int) := by omega
          simp [hd, parD, show ¬ r = 0 by omega, e3]
          omega
        · have e3 : (1 : Int) ≤ (m : Int) := by omega
          simp [hd, e3]
          refine ⟨m - 1, by omega, by omega, by omega, ?_⟩
          intro j h3 h4
          by_cases e : j = m - 1
          · subst e; omega
          · exact h2 j (by omega) h4
    · exact ⟨rfl, Nat.le_refl _, rfl, fun j h1 h2 => by omega⟩
  obtain ⟨d, s', h1, rfl, rfl⟩ := h.ok
  exact h1
/-- the rooms met by steps to the parent -/
def ancF (ds : List Nat) : Nat → Nat → List Nat
  | 0, _ => []
  | f + 1, k => if k = 0 then [] else par ds k :: ancF ds f (par ds k)
theorem ancF_succ (ds : List Nat) (f k : Nat) : ancF ds (f + 1) k = if k = 0 then [] else par ds k :: ancF ds f (par ds k) := rfl
def anc (ds : List Nat) (k : Nat) : List Nat := ancF ds k k
theorem ancF_enough {ds : List Nat} (T : Tree ds) : ∀ (f g k : Nat), k < ds.length → k ≤ f → k ≤ g → ancF ds f k = ancF ds g k
  | 0, 0, k, _, _, _ => rfl
  | 0, g + 1, k, _, h, _ => by
    have : k = 0 := by omega
    subst this
    simp [ancF]
  | f + 1, 0, k, _, _, h => by
    have : k = 0 := by omega
    subst this
    simp [ancF]
  | f + 1, g + 1, k, hk, h1, h2 => by
    unfold ancF
    split
    · rfl
    · rename_i h0
      have := (par_spec T (by omega) hk).1
      rw [ancF_enough T f g (par ds k) (by omega) (by omega) (by omega)]
theorem anc_zero (ds : List Nat) : anc ds 0 = [] := rfl
theorem anc_succ {ds : List Nat} (T : Tree ds) {k : Nat} (h0 : 0 < k) (hk : k < ds.length) : anc ds k = par ds k :: anc ds (par ds k) := by
  have := (par_spec T h0 hk).1
  unfold anc
  rw [show ancF ds k k = ancF ds ((k - 1) + 1) k by rw [show k - 1 + 1 = k by omega]]
  rw [ancF_succ, if_neg (by omega), ancF_enough T (k - 1) (par ds k) (par ds k) (by omega) (by omega) (by omega)]
theorem anc_met {ds : List Nat} (T : Tree ds) : ∀ (k b : Nat), k < ds.length → (b ∈ anc ds k ↔ Met ds k b) := by
  intro k
  induction k using Nat.strongRecOn with
  | ind k ih =>
    intro b hk
    by_cases h0 : k = 0
    · subst h0
      simp [anc_zero]
      exact met_zero
    · have := (par_spec T (by omega) hk).1
      rw [anc_succ T (by omega) hk, List.mem_cons, met_cases (by omega), ih _ this b (by omega)]
theorem anc_lt {ds : List Nat} (T : Tree ds) : ∀ (k b : Nat), k < ds.length → b ∈ anc ds k → b < k := by
  intro k b hk hb
  have hb' := (anc_met T k b hk).mp hb
  have : ∀ a b, a < ds.length → Met ds a b → b < a := by
    intro a b ha hm
    induction hm with
    | here h => exact (par_spec T h ha).1
    | up h m ih =>
      have := (par_spec T h ha).1
      have := ih (by omega)
      omega
  exact this k b hk hb'
theorem anc_sorted {ds : List Nat} (T : Tree ds) : ∀ k, k < ds.length → (anc ds k).Pairwise (· > ·) := by
  intro k
  induction k using Nat.strongRecOn with
  | ind k ih =>
    intro hk
    by_cases h0 : k = 0
    · subst h0; simp [anc_zero]
    · have hp := (par_spec T (by omega) hk).1
      rw [anc_succ T (by omega) hk]
      exact List.pairwise_cons.mpr ⟨fun b hb => anc_lt T _ b (by omega) hb, ih _ hp (by omega)⟩
theorem anc_len {ds : List Nat} (T : Tree ds) : ∀ k, k < ds.length → (anc ds k).length ≤ k := by
  intro k
  induction k using Nat.strongRecOn with
  | ind k ih =>
    intro hk
    by_cases h0 : k = 0
    · subst h0; simp [anc_zero]
    · have hp := (par_spec T (by omega) hk).1
      rw [anc_succ T (by omega) hk]
      have := ih _ hp (by omega)
      simp
      omega
end Law

namespace Law
open PySem Vx
theorem lies_in {rs : List Rm} {ds : List Nat} (h : Rms rs ds) (hl : ds.length ≤ 100) {a b : Nat} (hb : b < ds.length) (s : Sto) : m_lies_in [.tup (rs.map Rm.D), nD a, nD b] s = .ok (.bl (lies ds a b)) s := by
  have h : (m_lies_in [.tup (rs.map Rm.D), nD a, nD b] s).S (fun d s' => s = s' ∧ d = .bl (lies ds a b)) NoE := by
    unfold m_lies_in b_lies_in
    simp [startD, lies]
    split
    · rename_i h1
      simp [end_of h hl hb, h1]
    · rename_i h1
      simp [h1]
  obtain ⟨d, s', h1, rfl, rfl⟩ := h.ok
  exact h1
end Law

namespace Law
open PySem Vx
/-- a room's kids -/
def kidsL (ds : List Nat) (p : Nat) : List Nat := (List.range ds.length).filter fun j => decide (0 < j) && decide (par ds j = p)
theorem mem_kids {ds : List Nat} {p j : Nat} : j ∈ kidsL ds p ↔ j < ds.length ∧ 0 < j ∧ par ds j = p := by simp [kidsL]
theorem kids_len (ds : List Nat) (p : Nat) : (kidsL ds p).length ≤ ds.length := by
  have := List.length_filter_le (fun j => decide (0 < j) && decide (par ds j = p)) (List.range ds.length)
  unfold kidsL
  simp at this ⊢
  omega
end Law

namespace Law
open PySem Vx
theorem kid_dep {ds : List Nat} (T : Tree ds) {r k : Nat} (h : k ∈ kidsL ds r) : r < k ∧ k < ds.length ∧ att ds k = att ds r + 1 := by
  obtain ⟨h1, h2, h3⟩ := mem_kids.mp h
  have a := par_succ T h2 h1
  have b := (par_spec T h2 h1).1
  rw [h3] at a b
  exact ⟨b, h1, a.symm⟩
theorem kid_first {ds : List Nat} (T : Tree ds) {p : Nat} (hp : p < ds.length) : (kidsL ds p ≠ [] ↔ p + 1 < ds.length ∧ att ds p < att ds (p + 1)) ∧ (kidsL ds p ≠ [] → att (kidsL ds p) 0 = p + 1) := by
  have fwd : kidsL ds p ≠ [] → p + 1 < ds.length ∧ att ds p < att ds (p + 1) := by
    intro h
    obtain ⟨k, hk⟩ := List.exists_mem_of_ne_nil _ h
    obtain ⟨k1, k2, k3⟩ := kid_dep T hk
    obtain ⟨m1, m2, m3⟩ := mem_kids.mp hk
    have q := par_spec T m2 m1
    rw [m3] at q
    by_cases e : p + 1 = k
    · subst e; omega
    · have := q.2.2 (p + 1) (by omega) (by omega)
      omega
  have bwd : p + 1 < ds.length ∧ att ds p < att ds (p + 1) → p + 1 ∈ kidsL ds p := by
    rintro ⟨h1, h2⟩
    exact mem_kids.mpr ⟨h1, by omega, par_unique T h1 (by omega) h2 fun j h3 h4 => by omega⟩
  refine ⟨⟨fwd, fun h => List.ne_nil_of_mem (bwd h)⟩, fun h => ?_⟩
  have hm := bwd (fwd h)
  have hs : (kidsL ds p).Pairwise (· < ·) := (List.pairwise_lt_range).filter _
  cases e : kidsL ds p with
  | nil => exact absurd e h
  | cons a t =>
    rw [e] at hm hs
    have ha : a ∈ kidsL ds p := by rw [e]; simp
    have h1 := (kid_dep T ha).1
    show a = p + 1
    rcases List.mem_cons.mp hm with h2 | h2
    · exact h2.symm
    · have := (List.pairwise_cons.mp hs).1 _ h2
      omega
def KdAll (rs : List Rm) (ds : List Nat) : Prop := ∀ i, i < ds.length → Kd ds i (rk rs i)
theorem kd_kids {rs : List Rm} {ds : List Nat} (T : Tree ds) (K : KdAll rs ds) {p : Nat} (hp : p < ds.length) : (kidsL ds p ≠ [] → rk rs p = "one" ∨ rk rs p = "all") ∧ (kidsL ds p = [] → rk rs p = "plain") := by
  have h := K p hp
  unfold Kd at h
  have hf := (kid_first T hp).1
  constructor
  · intro hk
    rw [if_pos (hf.mp hk)] at h
    exact h
  · intro hk
    rw [if_neg (fun z => hf.mpr z hk)] at h
    exact h
end Law

namespace Law
open PySem Vx
theorem par_iff {ds : List Nat} (T : Tree ds) {r j : Nat} (hr : r < ds.length) (h1 : r < j) (h2 : j < eo ds r) : par ds j = r ↔ att ds j = att ds r + 1 := by
  obtain ⟨q1, q2, q3, q4⟩ := eo_spec hr
  constructor
  · intro h
    have := par_succ T (k := j) (by omega) (by omega)
    rw [h] at this
    omega
  · intro h
    exact par_unique T (by omega) h1 (by omega) fun m h3 h4 => by have := q3 m h3 (by omega); omega
theorem par_out {ds : List Nat} (T : Tree ds) {r j : Nat} (hr : r < ds.length) (h0 : 0 < j) (hj : j < ds.length) (h : par ds j = r) : r < j ∧ j < eo ds r := by
  obtain ⟨q1, q2, q3, q4⟩ := eo_spec hr
  obtain ⟨p1, p2, p3⟩ := par_spec T h0 hj
  rw [h] at p1 p2 p3
  refine ⟨p1, ?_⟩
  by_cases e : eo ds r ≤ j
  · have a1 := q4 (by omega)
    by_cases e2 : eo ds r = j
    · rw [e2] at a1; omega
    · have := p3 (eo ds r) q1 (by omega)
      omega
  · omega
end Law

namespace Law
open PySem Vx
theorem kids {rs : List Rm} {ds : List Nat} (M : Rms rs ds) (T : Tree ds) {r : Nat} (hr : r < ds.length) (s : Sto) : m_kids [.tup (rs.map Rm.D), nD r] s = .ok (.lst ((kidsL ds r).map nD)) s := by
  have hlen := M.len
  have hle := T.le
  obtain ⟨q1, q2, q3, q4⟩ := eo_spec hr
  have h : (m_kids [.tup (rs.map Rm.D), nD r] s).S (fun d s' => s = s' ∧ d = .lst ((kidsL ds r).map nD)) NoE := by
    unfold m_kids b_kids
    simp only [w_mDef, startD]
    refine ⟨rfl, ?_⟩
    simp [end_of M (by omega) hr]
    have en : ((eo ds r : Int) - ((r : Int) + 1)).toNat = eo ds r - (r + 1) := by omega
    rw [en]
    refine ⟨by omega, W_rg _ _ (fun k l s' => s = s' ∧ ∃ a : Option D, l = [some (.tup (rs.map Rm.D)), some (nD r), some (.lst (((List.range (r + 1 + k)).filter fun j => decide (0 < j) && decide (par ds j = r)).map nD)), a]) ?_ ?_ ?_⟩
    · refine ⟨rfl, none, ?_⟩
      have e : ((List.range (r + 1)).filter fun j => decide (0 < j) && decide (par ds j = r)) = [] := by
        rw [List.filter_eq_nil_iff]
        intro j hj
        simp at hj
        by_cases h0 : 0 < j
        · have := (par_spec T h0 (by omega)).1
          simp [h0]
          omega
        · simp [h0]
      rw [show r + 1 + 0 = r + 1 by omega, e]
      rfl
    · rintro k l s' hk ⟨rfl, a, rfl⟩
      have hll := List.length_filter_le (fun j => decide (0 < j) && decide (par ds j = r)) (List.range (r + 1 + k))
      rw [List.length_range] at hll
      have hp := par_iff T hr (j := r + 1 + k) (by omega) (by omega)
      have hadd : ((List.range (r + 1 + (k + 1))).filter fun j => decide (0 < j) && decide (par ds j = r)) = ((List.range (r + 1 + k)).filter fun j => decide (0 < j) && decide (par ds j = r)) ++ (if att ds (r + 1 + k) = att ds r + 1 then [r + 1 + k] else []) := by
        rw [show r + 1 + (k + 1) = (r + 1 + k) + 1 by omega, List.range_succ, List.filter_append]
        congr 1
        by_cases e : att ds (r + 1 + k) = att ds r + 1
        · have e2 := hp.mpr e
          rw [if_pos e, List.filter_cons, e2]
          simp
        · have e2 : ¬ par ds (r + 1 + k) = r := fun h => e (hp.mp h)
          rw [if_neg e, List.filter_cons]
          simp [e2]
      rw [hadd]
      generalize ((List.range (r + 1 + k)).filter fun j => decide (0 < j) && decide (par ds j = r)) = us at hll ⊢
      simp
      rw [getI_gi (k := r + 1 + k) (by omega) (by omega), getI_r (by omega), M.get, M.get]
      split
      · rename_i e
        have e' : att ds (r + 1 + k) = att ds r + 1 := by omega
        rw [if_pos e']
        simp
        omega
      · rename_i e
        have e' : ¬ att ds (r + 1 + k) = att ds r + 1 := by omega
        exact e'
    · rintro l s' ⟨rfl, a, rfl⟩
      simp
      congr 1
      rw [show r + 1 + (eo ds r - (r + 1)) = eo ds r by omega]
      unfold kidsL
      have e : List.range ds.length = List.range (eo ds r) ++ (List.range (ds.length - eo ds r)).map (eo ds r + ·) := by
        rw [← List.range_add]
        congr 1
        omega
      rw [e, List.filter_append]
      have e2 : ((List.range (ds.length - eo ds r)).map (eo ds r + ·)).filter (fun j => decide (0 < j) && decide (par ds j = r)) = [] := by
        rw [List.filter_eq_nil_iff]
        intro j hj
        simp at hj
        obtain ⟨x, hx, rfl⟩ := hj
        simp
        intro h0 hp
        have := par_out T hr (j := eo ds r + x) (by omega) (by omega) hp
        omega
      rw [e2, List.append_nil]
  obtain ⟨d, s', h1, rfl, rfl⟩ := h.ok
  exact h1
end Law

namespace Law
open PySem Vx
/-- one of the goals is the room or lies in it -/
def bearsB (ds : List Nat) (r : Nat) (gs : List Nat) : Bool := gs.any fun g => decide (g = r) || lies ds g r
/-- the rooms that are gone into beneath r -/
def entL (rs : List Rm) (ds gs : List Nat) (r : Nat) : List Nat := if rk rs r ≠ "one" then kidsL ds r else match (kidsL ds r).filter fun k => bearsB ds k gs with
  | k :: _ => [k]
  | [] => (kidsL ds r).take 1
section
variable {rs : List Rm} {ds : List Nat} (M : Rms rs ds) (T : Tree ds) {gs : List Nat} (hg : ∀ g ∈ gs, g < ds.length)
include M T
theorem bears {r : Nat} (hr : r < ds.length) (s : Sto) : m_bears [.tup (rs.map Rm.D), nD r, .lst (gs.map nD)] s = .ok (.bl (bearsB ds r gs)) s := by
  have hle := T.le
  have h : (m_bears [.tup (rs.map Rm.D), nD r, .lst (gs.map nD)] s).S (fun d s' => s = s' ∧ d = .bl (bearsB ds r gs)) NoE := by
    unfold m_bears b_bears
    simp only [w_mDef, startD]
    refine ⟨rfl, ?_⟩
    simp [-W_sIf]
    refine W_forM nD gs (fun dn l s' => s = s' ∧ ∃ a, l = [some (.tup (rs.map Rm.D)), some (nD r), some (.lst (gs.map nD)), a] ∧ bearsB ds r dn = false) ?_ ?_ ?_
    · exact ⟨rfl, none, rfl, rfl⟩
    · rintro dn x rest l s' he ⟨rfl, a, rfl, hd⟩
      have hsp : bearsB ds r gs = (bearsB ds r dn || ((decide (x = r) || lies ds x r) || bearsB ds r rest)) := by
        rw [he]; simp [bearsB]
      have hap : bearsB ds r (dn ++ [x]) = (bearsB ds r dn || (decide (x = r) || lies ds x r)) := by simp [bearsB]
      rw [hd] at hsp hap
      simp only [tg1W]
      refine W_ifD (decide (x = r) || lies ds x r) ?_ ?_
      · simp
        by_cases e : x = r
        · simp [e]
        · have e' : ¬ (x : Int) = (r : Int) := by omega
          simp [e, e', lies_in M (by omega) hr]
      · split
        · rename_i h1
          rw [h1] at hsp
          simp [hsp]
        · rename_i h1
          have h1 : (decide (x = r) || lies ds x r) = false := by simpa using h1
          rw [h1] at hap
          rw [W_sNil]
          exact ⟨rfl, _, rfl, by simpa using hap⟩
    · rintro l s' ⟨rfl, a, rfl, hd⟩
      simp [hd]
  obtain ⟨d, s', h1, rfl, rfl⟩ := h.ok
  exact h1
theorem entered {r : Nat} (hr : r < ds.length) (s : Sto) : m_entered [.tup (rs.map Rm.D), nD r, .lst (gs.map nD)] s = .ok (.lst ((entL rs ds gs r).map nD)) s := by
  have hle := T.le
  have hlen := M.len
  have h : (m_entered [.tup (rs.map Rm.D), nD r, .lst (gs.map nD)] s).S (fun d s' => s = s' ∧ d = .lst ((entL rs ds gs r).map nD)) NoE := by
    unfold m_entered b_entered
    simp only [w_mDef, startD]
    refine ⟨rfl, ?_⟩
    rw [W_sSeq]
    simp [-W_sSeq, -W_sIf, kids M T hr]
    rw [W_sSeq]; refine W_cut (fun l s' => s = s' ∧ rk rs r = Str.ofString "one" ∧ l = [some (.tup (rs.map Rm.D)), some (nD r), some (.lst (gs.map nD)), some (.lst ((kidsL ds r).map nD)), none]) ?_ ?_
    · simp
      rw [getI_r (by omega)]
      rw [rk_get]
      split
      · rename_i h1
        exact h1
      · rename_i h1
        have h1' : ¬ rk rs r = Str.ofString "one" := h1
        simp [entL, h1']
    rintro l s' ⟨rfl, h1, rfl⟩
    have hent : entL rs ds gs r = match (kidsL ds r).filter fun k => bearsB ds k gs with | k :: _ => [k] | [] => (kidsL ds r).take 1 := by
      unfold entL
      rw [if_neg (by simpa using h1)]
    rw [W_sSeq]; refine W_cut (fun l s' => s = s' ∧ (kidsL ds r).filter (fun k => bearsB ds k gs) = [] ∧ ∃ a, l = [some (.tup (rs.map Rm.D)), some (nD r), some (.lst (gs.map nD)), some (.lst ((kidsL ds r).map nD)), a]) ?_ ?_
    · simp [-W_sIf]
      refine W_forM nD (kidsL ds r) (fun dn l s' => s = s' ∧ dn.filter (fun k => bearsB ds k gs) = [] ∧ ∃ a, l = [some (.tup (rs.map Rm.D)), some (nD r), some (.lst (gs.map nD)), some (.lst ((kidsL ds r).map nD)), a]) ?_ ?_ ?_
      · exact ⟨rfl, rfl, none, rfl⟩
      · rintro dn x rest l s' he ⟨rfl, hd, a, rfl⟩
        have hx : x < ds.length := (mem_kids.mp (show x ∈ kidsL ds r by rw [he]; simp)).1
        simp only [tg1W]
        refine W_ifD (bearsB ds x gs) ?_ ?_
        · simp [bears M T hx]
        · split
          · rename_i h2
            have e : (kidsL ds r).filter (fun k => bearsB ds k gs) = x :: rest.filter (fun k => bearsB ds k gs) := by
              rw [he, List.filter_append, hd, List.filter_cons, h2]
              rfl
            rw [e] at hent
            simp [hent]
          · rename_i h2
            have h2 : bearsB ds x gs = false := by simpa using h2
            rw [W_sNil]
            refine ⟨rfl, ?_, _, rfl⟩
            rw [List.filter_append, hd, List.filter_cons, h2]
            rfl
      · rintro l s' ⟨rfl, hd, a, rfl⟩
        exact ⟨rfl, by simpa using hd, a, rfl⟩
    rintro l s' ⟨rfl, hd, a, rfl⟩
    rw [hd] at hent
    simp [hent]
    rw [cut_to _ _ (by omega)]
    simp
  obtain ⟨d, s', h1, rfl, rfl⟩ := h.ok
  exact h1
omit M in
theorem ent_kids {r k : Nat} (h : k ∈ entL rs ds gs r) : k ∈ kidsL ds r := by
  unfold entL at h
  split at h
  · exact h
  · split at h
    · rename_i k' t e
      simp at h
      subst h
      have : k ∈ (kidsL ds r).filter fun k => bearsB ds k gs := by rw [e]; simp
      exact (List.mem_filter.mp this).1
    · exact List.mem_of_mem_take h
omit M in
theorem ent_sorted (r : Nat) : (entL rs ds gs r).Pairwise (· < ·) := by
  have hk : (kidsL ds r).Pairwise (· < ·) := (List.pairwise_lt_range).filter _
  unfold entL
  split
  · exact hk
  · split
    · simp
    · exact hk.sublist (List.take_sublist _ _)
end
/-- the rooms gone into beneath r -/
def goL (rs : List Rm) (ds gs : List Nat) : Nat → Nat → List Nat
  | 0, _ => []
  | f + 1, r => (entL rs ds gs r).flatMap fun k => k :: goL rs ds gs f k
theorem goL_succ (rs : List Rm) (ds gs : List Nat) (f r : Nat) : goL rs ds gs (f + 1) r = (entL rs ds gs r).flatMap fun k => k :: goL rs ds gs f k := rfl
section
variable {rs : List Rm} {ds : List Nat} (M : Rms rs ds) (T : Tree ds) {gs : List Nat}
include T
theorem dep_le {k : Nat} (h : k < ds.length) : att ds k ≤ 39 := by
  have := T.idx k h
  have := T.le
  omega
/-- all rooms gone into lie beneath -/
theorem goL_in : ∀ (f r : Nat), r < ds.length → ∀ k ∈ goL rs ds gs f r, r < k ∧ k < eo ds r
  | 0, r, _, k, h => by simp [goL] at h
  | f + 1, r, hr, k, h => by
    rw [goL_succ] at h
    obtain ⟨c, hc, h⟩ := List.mem_flatMap.mp h
    have hck := ent_kids T hc
    obtain ⟨c1, c2, c3⟩ := kid_dep T hck
    have hin := par_out T hr (mem_kids.mp hck).2.1 c2 (mem_kids.mp hck).2.2
    rcases List.mem_cons.mp h with rfl | h
    · exact hin
    · have ih := goL_in f c c2 k h
      refine ⟨by omega, ?_⟩
      obtain ⟨q1, q2, q3, q4⟩ := eo_spec hr
      obtain ⟨p1, p2, p3, p4⟩ := eo_spec c2
      by_cases e : k < eo ds r
      · exact e
      · have a1 := q4 (by omega)
        have a2 := p3 (eo ds r) (by omega) (by omega)
        omega
theorem goL_sorted : ∀ (f r : Nat), r < ds.length → (goL rs ds gs f r).Pairwise (· < ·)
  | 0, r, _ => by simp [goL]
  | f + 1, r, hr => by
    rw [goL_succ]
    have he := ent_sorted (rs := rs) T (gs := gs) r
    have hk : ∀ c ∈ entL rs ds gs r, c ∈ kidsL ds r := fun c hc => ent_kids T hc
    generalize entL rs ds gs r = es at he hk
    induction es with
    | nil => simp
    | cons c es ih =>
      obtain ⟨h1, h2⟩ := List.pairwise_cons.mp he
      obtain ⟨c1, c2, c3⟩ := kid_dep T (hk c List.mem_cons_self)
      rw [List.flatMap_cons]
      refine List.pairwise_append.mpr ⟨List.pairwise_cons.mpr ⟨fun k hk' => (goL_in T f c c2 k hk').1, goL_sorted f c c2⟩, ih h2 fun d hd => hk d (List.mem_cons_of_mem _ hd), fun a ha b hb => ?_⟩
      obtain ⟨d, hd, hb⟩ := List.mem_flatMap.mp hb
      obtain ⟨d1, d2, d3⟩ := kid_dep T (hk d (List.mem_cons_of_mem _ hd))
      have hcd := h1 d hd
      have hac : a < d := by
        rcases List.mem_cons.mp ha with rfl | ha
        · exact hcd
        · have ha2 := (goL_in T f c c2 a ha).2
          obtain ⟨p1, p2, p3, p4⟩ := eo_spec c2
          by_cases e : eo ds c ≤ d
          · omega
          · have := p3 d hcd (by omega)
            omega
      rcases List.mem_cons.mp hb with rfl | hb
      · exact hac
      · have := (goL_in T f d d2 b hb).1
        omega
/-- what is met on the way down -/
theorem goL_mem : ∀ (f r : Nat), r < ds.length → 40 ≤ f + att ds r → ∀ k, k ∈ goL rs ds gs f r ↔ k < ds.length ∧ 0 < k ∧ k ∈ entL rs ds gs (par ds k) ∧ (par ds k = r ∨ par ds k ∈ goL rs ds gs f r)
  | 0, r, hr, hf, k => by
    have := dep_le T hr
    omega
  | f + 1, r, hr, hf, k => by
    rw [goL_succ]
    constructor
    · intro h
      obtain ⟨c, hc, h⟩ := List.mem_flatMap.mp h
      have hck := ent_kids T hc
      obtain ⟨c1, c2, c3⟩ := kid_dep T hck
      have hm := mem_kids.mp hck
      rcases List.mem_cons.mp h with rfl | h
      · exact ⟨c2, by omega, by rw [hm.2.2]; exact hc, .inl hm.2.2⟩
      · obtain ⟨h1, h2, h3, h4⟩ := (goL_mem f c c2 (by omega) k).mp h
        refine ⟨h1, h2, h3, .inr (List.mem_flatMap.mpr ⟨c, hc, ?_⟩)⟩
        rcases h4 with h4 | h4
        · rw [h4]; simp
        · exact List.mem_cons_of_mem _ h4
    · rintro ⟨h1, h2, h3, h4⟩
      rcases h4 with h4 | h4
      · rw [h4] at h3
        exact List.mem_flatMap.mpr ⟨k, h3, by simp⟩
      · obtain ⟨c, hc, h⟩ := List.mem_flatMap.mp h4
        have hck := ent_kids T hc
        obtain ⟨c1, c2, c3⟩ := kid_dep T hck
        refine List.mem_flatMap.mpr ⟨c, hc, List.mem_cons_of_mem _ ((goL_mem f c c2 (by omega) k).mpr ⟨h1, h2, h3, ?_⟩)⟩
        rcases List.mem_cons.mp h with h | h
        · exact .inl h
        · exact .inr h
theorem goL_len (f r : Nat) (hr : r < ds.length) : (goL rs ds gs f r).length ≤ 40 := by
  have h1 := goL_sorted (rs := rs) (gs := gs) T f r hr
  have h2 := goL_in (rs := rs) (gs := gs) T f r hr
  have hle := T.le
  have key : ∀ (xs : List Nat) (lo hi : Nat), xs.Pairwise (· < ·) → (∀ x ∈ xs, lo < x ∧ x < hi) → lo ≤ hi → xs.length ≤ hi - lo := by
    intro xs
    induction xs with
    | nil => intro lo hi _ _ _; simp
    | cons x xs ih =>
      intro lo hi hp hb hl
      obtain ⟨p1, p2⟩ := List.pairwise_cons.mp hp
      have hx := hb x List.mem_cons_self
      have := ih x hi p2 (fun y hy => ⟨p1 y hy, (hb y (List.mem_cons_of_mem _ hy)).2⟩) (by omega)
      simp
      omega
  obtain ⟨q1, q2, q3, q4⟩ := eo_spec hr
  have := key _ r (eo ds r) h1 h2 (by omega)
  omega
include M
theorem going_some : ∀ (n r : Nat), r < ds.length → 40 ≤ n + att ds r → ∀ s, r_goings_in (n + 1) [.tup (rs.map Rm.D), nD r, .lst (gs.map nD)] s = .ok (.lst ((goL rs ds gs (n + 1) r).map nD)) s := by
  intro n
  induction n with
  | zero => intro r hr hf s; have := dep_le T hr; omega
  | succ n ih =>
    intro r hr hf s
    have hle := T.le
    have h : (r_goings_in (n + 1 + 1) [.tup (rs.map Rm.D), nD r, .lst (gs.map nD)] s).S (fun d s' => s = s' ∧ d = .lst ((goL rs ds gs (n + 1 + 1) r).map nD)) NoE := by
      show (mDef 5 3 (b_goings_in (r_goings_in (n + 1))) _ s).S _ _
      unfold b_goings_in
      simp only [w_mDef, startD]
      refine ⟨rfl, ?_⟩
      rw [W_sSeq]; simp [-W_sSeq]
      rw [W_sSeq]; simp [-W_sSeq]
      rw [W_sSeq]; simp [-W_sSeq, entered M T hr]
      have hel : ∀ c ∈ entL rs ds gs r, c ∈ kidsL ds r := fun c hc => ent_kids T hc
      refine W_forM nD (entL rs ds gs r) (fun dn l s' => s = s' ∧ ∃ a, l = [some (.tup (rs.map Rm.D)), some (nD r), some (.lst (gs.map nD)), some (.lst ((dn.flatMap fun k => k :: goL rs ds gs (n + 1) k).map nD)), a]) ?_ ?_ ?_
      · exact ⟨rfl, none, rfl⟩
      · rintro dn x rest l s' he ⟨rfl, a, rfl⟩
        obtain ⟨c1, c2, c3⟩ := kid_dep T (hel x (by rw [he]; simp))
        have hgl := goL_len (rs := rs) (gs := gs) T (n + 1) x c2
        have hall := goL_len (rs := rs) (gs := gs) T (n + 1 + 1) r hr
        rw [goL_succ, he, List.flatMap_append, List.flatMap_cons, List.length_append, List.length_append] at hall
        have hih := ih x c2 (by omega) s
        simp only [tg1W]
        rw [List.flatMap_append]
        generalize dn.flatMap (fun k => k :: goL rs ds gs (n + 1) k) = us at hall ⊢
        simp [hih, D.isMut]
        omega
      · rintro l s' ⟨rfl, a, rfl⟩
        simp
        rw [goL_succ]
    obtain ⟨d, s', h1, rfl, rfl⟩ := h.ok
    exact h1
/-- the rooms gone into, from a room or from none -/
def goU (rs : List Rm) (ds gs : List Nat) (u : Option Nat) : List Nat := match u with
  | none => 0 :: goL rs ds gs 49 0
  | some r => goL rs ds gs 50 r
theorem goings_in {u : Option Nat} (hu : ∀ x, u = some x → x < ds.length) (s : Sto) : m_goings_in [.tup (rs.map Rm.D), uD u, .lst (gs.map nD)] s = .ok (.lst ((goU rs ds gs u).map nD)) s := by
  cases u with
  | some r => exact going_some M T 49 r (hu r rfl) (by omega) s
  | none =>
    have hpos := T.pos
    have h0 := going_some (gs := gs) M T 48 0 hpos (by omega) s
    have hgl := goL_len (rs := rs) (gs := gs) T 49 0 hpos
    have h : (m_goings_in [.tup (rs.map Rm.D), .non, .lst (gs.map nD)] s).S (fun d s' => s = s' ∧ d = .lst ((goU rs ds gs none).map nD)) NoE := by
      have hm : m_goings_in = mDef 5 3 (b_goings_in (r_goings_in 49)) := rfl
      rw [hm]
      unfold b_goings_in
      have h0' : r_goings_in 49 [.tup (rs.map Rm.D), .int 0, .lst (gs.map nD)] s = .ok (.lst ((goL rs ds gs 49 0).map nD)) s := h0
      simp [startD, h0', goU]
      omega
    obtain ⟨d, s', h1, rfl, rfl⟩ := h.ok
    exact h1
end
end Law

namespace Law
open PySem Vx
/-- the kid that is gone into in a room one -/
def pkN (ds gs : List Nat) (p : Nat) : Nat := match (kidsL ds p).filter fun k => bearsB ds k gs with
  | k :: _ => k
  | [] => att (kidsL ds p) 0
theorem ent_iff {rs : List Rm} {ds gs : List Nat} {p k : Nat} (hk : k ∈ kidsL ds p) : k ∈ entL rs ds gs p ↔ (rk rs p = "one" → k = pkN ds gs p) := by
  unfold entL pkN
  by_cases h : rk rs p = "one"
  · rw [if_neg (by simpa using h)]
    cases e : (kidsL ds p).filter fun k => bearsB ds k gs with
    | cons a t => simp [h]
    | nil =>
      simp only [h, forall_const]
      cases ek : kidsL ds p with
      | nil => rw [ek] at hk; simp at hk
      | cons a t => simp [att]
  · rw [if_pos h]
    simp [h, hk]
section
variable {rs : List Rm} {ds : List Nat} (M : Rms rs ds) (T : Tree ds) {gs : List Nat} (hg : ∀ g ∈ gs, g < ds.length)
include T
theorem go_iff {u : Option Nat} (hu : ∀ x, u = some x → x < ds.length) {k : Nat} (hk : k < ds.length) : k ∈ goU rs ds gs u ↔ (k = 0 ∧ u = none) ∨ (0 < k ∧ (some (par ds k) = u ∨ par ds k ∈ goU rs ds gs u) ∧ (rk rs (par ds k) = "one" → k = pkN ds gs (par ds k))) := by
  have hkid : 0 < k → k ∈ kidsL ds (par ds k) := fun h => mem_kids.mpr ⟨hk, h, rfl⟩
  cases u with
  | some r =>
    have hr := hu r rfl
    have := goL_mem (rs := rs) (gs := gs) T 50 r hr (by omega) k
    show k ∈ goL rs ds gs 50 r ↔ _
    rw [this]
    constructor
    · rintro ⟨_, h2, h3, h4⟩
      refine .inr ⟨h2, ?_, (ent_iff (hkid h2)).mp h3⟩
      rcases h4 with h4 | h4
      · exact .inl (by rw [h4])
      · exact .inr h4
    · rintro (⟨_, h⟩ | ⟨h2, h4, h3⟩)
      · cases h
      · refine ⟨hk, h2, (ent_iff (hkid h2)).mpr h3, ?_⟩
        rcases h4 with h4 | h4
        · exact .inl (by injection h4)
        · exact .inr h4
  | none =>
    have hpos := T.pos
    have := goL_mem (rs := rs) (gs := gs) T 49 0 hpos (by omega) k
    show k ∈ 0 :: goL rs ds gs 49 0 ↔ _
    rw [List.mem_cons, this]
    constructor
    · rintro (h | ⟨_, h2, h3, h4⟩)
      · exact .inl ⟨h, rfl⟩
      · refine .inr ⟨h2, .inr ?_, (ent_iff (hkid h2)).mp h3⟩
        show par ds k ∈ 0 :: goL rs ds gs 49 0
        rcases h4 with h4 | h4
        · rw [h4]; simp
        · exact List.mem_cons_of_mem _ h4
    · rintro (⟨h, _⟩ | ⟨h2, h4, h3⟩)
      · exact .inl h
      · refine .inr ⟨hk, h2, (ent_iff (hkid h2)).mpr h3, ?_⟩
        rcases h4 with h4 | h4
        · cases h4
        · exact List.mem_cons.mp h4
theorem goU_sorted {u : Option Nat} (hu : ∀ x, u = some x → x < ds.length) : (goU rs ds gs u).Pairwise (· < ·) := by
  cases u with
  | some r => exact goL_sorted T 50 r (hu r rfl)
  | none => exact List.pairwise_cons.mpr ⟨fun k hk => (goL_in T 49 0 T.pos k hk).1, goL_sorted T 49 0 T.pos⟩
theorem goU_in {u : Option Nat} (hu : ∀ x, u = some x → x < ds.length) : ∀ k ∈ goU rs ds gs u, k < ds.length := by
  intro k hk
  cases u with
  | some r =>
    have := (goL_in T 50 r (hu r rfl) k hk).2
    have := (eo_spec (hu r rfl)).2.1
    omega
  | none =>
    rcases List.mem_cons.mp hk with rfl | hk
    · exact T.pos
    · have := (goL_in T 49 0 T.pos k hk).2
      have := (eo_spec T.pos).2.1
      omega
theorem goU_len {u : Option Nat} (hu : ∀ x, u = some x → x < ds.length) : (goU rs ds gs u).length ≤ 41 := by
  cases u with
  | some r => have := goL_len (rs := rs) (gs := gs) T 50 r (hu r rfl); show (goL rs ds gs 50 r).length ≤ 41; omega
  | none => have := goL_len (rs := rs) (gs := gs) T 49 0 T.pos; show (0 :: goL rs ds gs 49 0).length ≤ 41; simp; omega
end
end Law

namespace Law
open PySem Vx
/-- a tuple of rooms -/
def tupN (q : List Nat) : D := .tup (q.map nD)
end Law

namespace Law
open PySem Vx
theorem sorted_ext : ∀ {xs ys : List Nat}, xs.Pairwise (· < ·) → ys.Pairwise (· < ·) → (∀ a, a ∈ xs ↔ a ∈ ys) → xs = ys
  | [], [], _, _, _ => rfl
  | [], y :: ys, _, _, h => absurd ((h y).mpr List.mem_cons_self) (by simp)
  | x :: xs, [], _, _, h => absurd ((h x).mp List.mem_cons_self) (by simp)
  | x :: xs, y :: ys, hx, hy, h => by
    obtain ⟨hx1, hx2⟩ := List.pairwise_cons.mp hx
    obtain ⟨hy1, hy2⟩ := List.pairwise_cons.mp hy
    have e : x = y := by
      rcases List.mem_cons.mp ((h x).mp List.mem_cons_self) with a | a
      · exact a
      · rcases List.mem_cons.mp ((h y).mpr List.mem_cons_self) with b | b
        · exact b.symm
        · have := hx1 y b; have := hy1 x a; omega
    subst e
    rw [sorted_ext hx2 hy2 fun a => ⟨fun ha => ?_, fun ha => ?_⟩]
    · rcases List.mem_cons.mp ((h a).mp (List.mem_cons_of_mem _ ha)) with e | e
      · have := hx1 a ha; omega
      · exact e
    · rcases List.mem_cons.mp ((h a).mpr (List.mem_cons_of_mem _ ha)) with e | e
      · have := hy1 a ha; omega
      · exact e
def plainP (rs : List Rm) (y : Nat) : Bool := rk rs y == Str.ofString "plain"
def nearL (ds os : List Nat) (r : Nat) : List Nat := os.filter fun k => decide (0 < k) && decide (par ds k = r)
def deepL (rs : List Rm) (ds os : List Nat) (r : Nat) : List Nat := os.filter fun k => plainP rs k && lies ds k r
theorem near_eq {ds os : List Nat} (hs : os.Pairwise (· < ·)) (hb : ∀ x ∈ os, x < ds.length) (r : Nat) : (kidsL ds r).filter (fun k => decide (k ∈ os)) = nearL ds os r := by
  refine sorted_ext ?_ (hs.filter _) fun a => ?_
  · unfold kidsL
    exact ((List.pairwise_lt_range).filter _).filter _
  · simp only [List.mem_filter, mem_kids, nearL, decide_eq_true_eq, Bool.and_eq_true]
    constructor
    · rintro ⟨⟨_, h1, h2⟩, h3⟩; exact ⟨h3, h1, h2⟩
    · rintro ⟨h3, h1, h2⟩; exact ⟨⟨hb a h3, h1, h2⟩, h3⟩
section
variable {rs : List Rm} {ds : List Nat} (M : Rms rs ds) (T : Tree ds) {os : List Nat} (hs : os.Pairwise (· < ·)) (hb : ∀ x ∈ os, x < ds.length) (hol : os.length ≤ 50)
include M T hs hb hol
theorem open_kids {r : Nat} (hr : r < ds.length) (s : Sto) : m_open_kids [.tup (rs.map Rm.D), nD r, .tup (os.map nD)] s = .ok (.lst ((nearL ds os r).map nD)) s := by
  have hle := T.le
  have h : (m_open_kids [.tup (rs.map Rm.D), nD r, .tup (os.map nD)] s).S (fun d s' => s = s' ∧ d = .lst ((nearL ds os r).map nD)) NoE := by
    unfold m_open_kids b_open_kids
    simp [startD, kids M T hr]
    have := kids_len ds r
    refine W_compG (kidsL ds r) nD nD (fun k => decide (k ∈ os)) (by omega) ?_ ?_
    · intro y hy
      simp [wipeD]
      rw [o_inT]
      simp
    · rw [near_eq hs hb]
      simp
  obtain ⟨d, s', h1, rfl, rfl⟩ := h.ok
  exact h1
theorem plain_rooms (s : Sto) : m_plain_rooms [.tup (rs.map Rm.D), .tup (os.map nD)] s = .ok (.lst ((os.filter (plainP rs)).map nD)) s := by
  have hlen := M.len
  have h : (m_plain_rooms [.tup (rs.map Rm.D), .tup (os.map nD)] s).S (fun d s' => s = s' ∧ d = .lst ((os.filter (plainP rs)).map nD)) NoE := by
    unfold m_plain_rooms b_plain_rooms
    simp [startD]
    refine W_compG os nD nD (plainP rs) (by omega) ?_ ?_
    · intro y hy
      have := hb y hy
      simp [wipeD]
      rw [getI_r (by omega)]
      simp [rk_get, plainP]
    · simp
  obtain ⟨d, s', h1, rfl, rfl⟩ := h.ok
  exact h1
/-- what is kept of the room r -/
def keptL (rs : List Rm) (ds os : List Nat) (r : Nat) (kp : Str) (q : List Nat) : List Nat := if kp = "near" then nearL ds os r else if kp = "deep" then deepL rs ds os r else q
omit M T hs hb hol in
theorem deep_eq : (os.filter (plainP rs)).filter (fun k => lies ds k r) = deepL rs ds os r := by
  unfold deepL
  rw [List.filter_filter]
  apply List.filter_congr
  intro x _
  rw [Bool.and_comm]
theorem kept_of {r : Nat} (hr : r < rs.length) (q : List Nat) (s : Sto) : m_kept_of [.tup (rs.map Rm.D), .tup (os.map nD), nD r, tupN q] s = .ok (tupN (keptL rs ds os r rs[r].kp q)) s := by
  have hlen := M.len
  have hle := T.le
  have h : (m_kept_of [.tup (rs.map Rm.D), .tup (os.map nD), nD r, tupN q] s).S (fun d s' => s = s' ∧ d = tupN (keptL rs ds os r rs[r].kp q)) NoE := by
    unfold m_kept_of b_kept_of
    simp only [w_mDef, startD]
    refine ⟨rfl, ?_⟩
    rw [W_sSeq]
    refine W_cut (fun l s' => s = s' ∧ l = [some (.tup (rs.map Rm.D)), some (.tup (os.map nD)), some (nD r), some (tupN q), none] ∧ rs[r].kp ≠ "near") ?_ ?_
    · simp
      rw [getI_r hr]
      split
      · rename_i h1
        simp [open_kids M T hs hb hol (show r < ds.length by omega), keptL, h1, tupN]
      · rename_i h1; exact h1
    rintro l s' ⟨rfl, rfl, h1⟩
    have h1' : ¬ rs[r].kp = Str.ofString "near" := h1
    simp
    rw [getI_r hr]
    split
    · rename_i h2
      simp [plain_rooms M T hs hb hol]
      have hfl := List.length_filter_le (plainP rs) os
      refine W_compG (os.filter (plainP rs)) nD nD (fun k => lies ds k r) (by omega) ?_ ?_
      · intro y hy
        simp [wipeD, lies_in M (by omega) (show r < ds.length by omega)]
      · rw [deep_eq]
        simp [keptL, h1', h2, tupN]
    · rename_i h2
      simp [keptL, h1', h2]
  obtain ⟨d, s', h1, rfl, rfl⟩ := h.ok
  exact h1
theorem keeping {us : List Nat} {qs : List (List Nat)} (hq : qs.length = ds.length) (s : Sto) : m_keeping [.tup (rs.map Rm.D), .tup (os.map nD), .lst (us.map nD), .tup (qs.map tupN)] s =
    .ok (.tup ((List.range ds.length).map fun r => tupN (if r ∈ us then keptL rs ds os r ((rs[r]?.map Rm.kp).getD "") ((qs[r]?).getD []) else (qs[r]?).getD []))) s := by
  have hlen := M.len
  have hle := T.le
  have h : (m_keeping [.tup (rs.map Rm.D), .tup (os.map nD), .lst (us.map nD), .tup (qs.map tupN)] s).S (fun d s' => s = s' ∧ d = .tup ((List.range ds.length).map fun r => tupN (if r ∈ us then keptL rs ds os r ((rs[r]?.map Rm.kp).getD "") ((qs[r]?).getD []) else (qs[r]?).getD []))) NoE := by
    unfold m_keeping b_keeping
    simp only [w_mDef, startD]
    refine ⟨rfl, ?_⟩
    simp [-W_sIf]
    refine ⟨by omega, W_rg _ _ (fun k l s' => s = s' ∧ ∃ a, l = [some (.tup (rs.map Rm.D)), some (.tup (os.map nD)), some (.lst (us.map nD)), some (.tup (qs.map tupN)), some (.lst ((List.range k).map fun r => tupN (if r ∈ us then keptL rs ds os r ((rs[r]?.map Rm.kp).getD "") ((qs[r]?).getD []) else (qs[r]?).getD []))), a]) ?_ ?_ ?_⟩
    · exact ⟨rfl, none, rfl⟩
    · rintro k l s' hk ⟨rfl, a, rfl⟩
      have hk2 : k < rs.length := by omega
      simp
      rw [o_inN]
      simp
      rw [getI_g (by omega)]
      have e1 : (qs[k]?).getD [] = qs[k]'(by omega) := by rw [List.getElem?_eq_getElem (by omega)]; rfl
      have e2 : (rs[k]?.map Rm.kp).getD "" = rs[k].kp := by rw [List.getElem?_eq_getElem hk2]; rfl
      have e2' : (Option.map Rm.kp rs[k]?).getD (Str.ofString "") = rs[k].kp := e2
      split
      · rename_i h1
        have hko := kept_of M T hs hb hol hk2 (qs[k]'(by omega)) s
        simp [hko]
        refine ⟨by omega, ?_⟩
        rw [List.range_succ, List.map_append]
        simp [h1, e1, e2']
      · rename_i h1
        rw [getI_g (by omega)]
        refine ⟨by omega, ?_⟩
        rw [List.range_succ, List.map_append]
        simp [h1, e1]
    · rintro l s' ⟨rfl, a, rfl⟩
      simp [hlen]
  obtain ⟨d, s', h1, rfl, rfl⟩ := h.ok
  exact h1
end
end Law

namespace Law
open PySem Vx
/-- the first of the rooms -/
def fst? : List Nat → D
  | [] => .non
  | h :: _ => nD h
def hallP (rs : List Rm) (ds : List Nat) (b a : Nat) : Bool := (rk rs a == Str.ofString "one") && lies ds b a
theorem hall_over {rs : List Rm} {ds : List Nat} (M : Rms rs ds) (T : Tree ds) {a b : Nat} (ha : a < ds.length) (hb : b < ds.length) (s : Sto) : m_hall_over [.tup (rs.map Rm.D), nD a, nD b] s = .ok (fst? ((anc ds a).filter (hallP rs ds b))) s := by
  have hle := T.le
  have hlen := M.len
  have h : (m_hall_over [.tup (rs.map Rm.D), nD a, nD b] s).S (fun d s' => s = s' ∧ d = fst? ((anc ds a).filter (hallP rs ds b))) NoE := by
    unfold m_hall_over b_hall_over
    simp only [w_mDef, startD]
    refine ⟨rfl, ?_⟩
    simp [parent M T ha]
    refine W_while (fun m l s' => s = s' ∧ l = [some (.tup (rs.map Rm.D)), some (nD a), some (nD b), some (parD ds m)] ∧ m < ds.length ∧ (anc ds m).filter (hallP rs ds b) = (anc ds a).filter (hallP rs ds b)) ?_ _ a _ _ (by unfold bigN; omega) ?_
    · rintro m l s' ⟨rfl, rfl, h1, h2⟩
      by_cases h0 : m = 0
      · subst h0
        rw [anc_zero] at h2
        simp [parD_zero, ← h2, fst?]
      · have h0 : 0 < m := by omega
        have q1 := (par_spec T h0 h1).1
        rw [anc_succ T h0 h1, List.filter_cons] at h2
        simp [parD_pos ds h0]
        rw [getI_r (by omega)]
        rw [rk_get]
        simp [lies_in M (by omega) (show par ds m < ds.length by omega), parent M T (show par ds m < ds.length by omega)]
        by_cases e1 : rk rs (par ds m) = Str.ofString "one"
        · by_cases e2 : lies ds b (par ds m) = true
          · have e3 : hallP rs ds b (par ds m) = true := by simp [hallP, e1, e2]
            rw [if_pos e3] at h2
            simp [e1, e2, ← h2, fst?]
          · have e3 : hallP rs ds b (par ds m) = false := by simp [hallP, e1, e2]
            rw [e3] at h2
            simp only [Bool.false_eq_true, if_false] at h2
            simp [e1, e2]
            exact ⟨_, q1, rfl, by omega, h2⟩
        · have e3 : hallP rs ds b (par ds m) = false := by simp [hallP, e1]
          rw [e3] at h2
          simp only [Bool.false_eq_true, if_false] at h2
          simp [e1]
          exact ⟨_, q1, rfl, by omega, h2⟩
    · exact ⟨rfl, rfl, ha, rfl⟩
  obtain ⟨d, s', h1, rfl, rfl⟩ := h.ok
  exact h1
end Law

namespace Law
open PySem Vx
def inP (ds : List Nat) (u : Option Nat) (x : Nat) : Bool := match u with
  | none => true
  | some u => lies ds x u
def outL (ds : List Nat) (u : Option Nat) (os : List Nat) : List Nat := os.reverse.filter (inP ds u)
theorem goings_out {rs : List Rm} {ds : List Nat} (M : Rms rs ds) (hl : ds.length ≤ 100) {u : Option Nat} (hu : ∀ x, u = some x → x < ds.length) {os : List Nat} (hos : os.length ≤ 1000) (s : Sto) :
    m_goings_out [.tup (rs.map Rm.D), uD u, .tup (os.map nD)] s = .ok (.lst ((outL ds u os).map nD)) s := by
  have h : (m_goings_out [.tup (rs.map Rm.D), uD u, .tup (os.map nD)] s).S (fun d s' => s = s' ∧ d = .lst ((outL ds u os).map nD)) NoE := by
    unfold m_goings_out b_goings_out
    simp only [w_mDef, startD]
    refine ⟨rfl, ?_⟩
    simp [-W_sIf, ← List.map_reverse]
    refine W_forM nD os.reverse (fun dn l s' => s = s' ∧ ∃ a, l = [some (.tup (rs.map Rm.D)), some (uD u), some (.tup (os.map nD)), some (.lst ((dn.filter (inP ds u)).map nD)), a]) ?_ ?_ ?_
    · exact ⟨rfl, none, rfl⟩
    · rintro dn x rest l s' he ⟨rfl, a, rfl⟩
      have hdl : dn.length ≤ 1000 := by
        have := congrArg List.length he
        simp at this
        omega
      have hfl := List.length_filter_le (inP ds u) dn
      rw [List.filter_append]
      generalize dn.filter (inP ds u) = fl at hfl ⊢
      simp
      cases u with
      | none =>
        simp [uD]
        exact ⟨by omega, rfl⟩
      | some u =>
        have hu := hu u rfl
        simp [uD, lies_in M hl hu]
        split
        · rename_i h1
          simp [inP, h1]
          omega
        · rename_i h1
          simp [inP, h1]
    · rintro l s' ⟨rfl, a, rfl⟩
      simp [outL]
  obtain ⟨d, s', h1, rfl, rfl⟩ := h.ok
  exact h1
end Law

namespace Law
open PySem Vx
/-- the goals of a door -/
def goalsD (kept : List (List Nat)) (d : Dr) : List Nat := match d.goal with
  | none => []
  | some g => if d.way = "back" ∧ (kept[g]?.getD []) ≠ [] then kept[g]?.getD [] else [g]
theorem goals_of {c : Ch} {kept : List (List Nat)} (hkl : kept.length = c.rooms.length) (hk1 : ∀ q ∈ kept, q.length ≤ 1000) {k : Nat} (hk : k < c.doors.length) (hw : wayOk c.rooms c.doors[k].way c.doors[k].goal) (s : Sto) :
    m_goals_of [Ch.D c, .tup (kept.map tupN), nD k] s = .ok (.lst ((goalsD kept c.doors[k]).map nD)) s := by
  have h : (m_goals_of [Ch.D c, .tup (kept.map tupN), nD k] s).S (fun d s' => s = s' ∧ d = .lst ((goalsD kept c.doors[k]).map nD)) NoE := by
    unfold m_goals_of b_goals_of
    simp only [w_mDef, startD]
    refine ⟨rfl, ?_⟩
    rw [W_sSeq]; simp [-W_sSeq, -W_sIf]
    rw [getI_g hk]
    try simp [-W_sSeq, -W_sIf]
    rw [W_sSeq]; simp [-W_sSeq, -W_sIf]
    rw [getI_g hk]
    try simp [-W_sSeq, -W_sIf]
    generalize c.doors[k] = d at hw
    rcases hw with ⟨h1, h2⟩ | ⟨h1, g, h2, h3⟩ | ⟨h1, g, h2, h3, h4⟩
    · simp [h1, goalsD, h2]
    · have e1 : ¬ d.way = Str.ofString "stay" := by rw [h1]; decide
      have e2 : ¬ d.way = Str.ofString "back" := by rw [h1]; decide
      simp [e1, e2, goalsD, h2, uD]
    · have e1 : ¬ d.way = Str.ofString "stay" := by rw [h1]; decide
      have e2 : d.way = Str.ofString "back" := h1
      have hgk : g < kept.length := by omega
      have e3 : kept[g]?.getD [] = kept[g] := by rw [List.getElem?_eq_getElem hgk]; rfl
      have hql := hk1 _ (List.getElem_mem hgk)
      simp [e1, e2, goalsD, h2, uD]
      rw [getI_g hgk]
      simp [tupN]
      rw [e3]
      split
      · rename_i h
        rw [getI_g hgk, if_neg (List.length_pos_iff.mp h)]
      · rename_i h
        rw [if_pos (List.length_eq_zero_iff.mp (by omega))]
        rfl
  obtain ⟨d, s', h1, rfl, rfl⟩ := h.ok
  exact h1
end Law

namespace Law
open PySem Vx
theorem o_sorted (us : List Nat) {P : D → Prop} : OW (gSorted [.lst (us.map nD)]) P ↔ us.length < 64 ∧ P (.lst ((sortI (us.map fun x : Nat => (x : Int))).map .int)) := by
  rw [OW_iff]
  unfold gSorted
  simp only [List.length_map]
  constructor
  · rintro ⟨a, h1, h2⟩
    split at h1
    · rename_i h
      rw [intsD_nD] at h1
      simp at h1
      subst h1
      exact ⟨h, h2⟩
    · cases h1
  · rintro ⟨h, h2⟩
    exact ⟨_, by rw [if_pos h, intsD_nD]; rfl, h2⟩
def sortN (us : List Nat) : List Nat := (sortI (us.map fun x : Nat => (x : Int))).map Int.toNat
theorem insI_perm0 (i : Int) : ∀ r, (insI i r).Perm (i :: r)
  | [] => .refl _
  | j :: r => by
    unfold insI
    split
    · exact .refl _
    · exact ((insI_perm0 i r).cons j).trans (.swap i j r)
theorem sortI_perm0 : ∀ r, (sortI r).Perm r
  | [] => .refl _
  | i :: r => (insI_perm0 i _).trans ((sortI_perm0 r).cons i)
theorem sortN_D (us : List Nat) : (sortI (us.map fun x : Nat => (x : Int))).map D.int = (sortN us).map nD := by
  unfold sortN
  rw [List.map_map]
  apply List.map_congr_left
  intro x hx
  have := (sortI_perm0 _).mem_iff.mp hx
  obtain ⟨y, _, rfl⟩ := List.mem_map.mp this
  simp
theorem sortN_perm (us : List Nat) : (sortN us).Perm us := by
  have := (sortI_perm0 (us.map fun x : Nat => (x : Int))).map Int.toNat
  rw [List.map_map] at this
  have e : us.map (Int.toNat ∘ fun x : Nat => (x : Int)) = us := by
    conv => rhs; rw [← List.map_id us]
    apply List.map_congr_left
    intro x _
    simp
  rw [e] at this
  exact this
end Law

namespace Vx
open PySem
/-! the store: what must hold ahead -/
def boxW (d : D) (P : Ob → Prop) : Prop := match d with
  | .lst xs => P (.lst xs)
  | .dic k => P (.dic k)
  | _ => False
@[simp] theorem boxW_lst (xs : List D) (P : Ob → Prop) : boxW (.lst xs) P ↔ P (.lst xs) := Iff.rfl
@[simp] theorem boxW_dic (xs : List (D × D)) (P : Ob → Prop) : boxW (.dic xs) P ↔ P (.dic xs) := Iff.rfl
section
variable {P : D → Sto → Prop} {E : Ex → Sto → Prop} {N : Sl → Sto → Prop} {R : D → Sto → Prop} {B C' : Sl → Sto → Prop} {X : Ex → Sl → Sto → Prop} {l : Sl} {s : Sto}
@[simp] theorem w_mBox (f : FE) : (mBox f l s).S P E ↔ (f l s).S (fun d s => boxW d fun ob => P (.obj s.length) (s ++ [ob])) E := by
  unfold mBox; rw [w_bind]
  refine sat_congr fun d s => ?_
  cases d <;> simp [obOf, boxW]
@[simp] theorem w_mBinO (g : D → D → Option D) (a b : FE) : (mBinO g a b l s).S P E ↔ (a l s).S (fun x s => (b l s).S (fun y s => OW (g (drf s x) (drf s y)) fun z => P z s) E) E := by
  unfold mBinO; simp only [w_bind, w_lift]
@[simp] theorem w_mUnO (g : D → Option D) (a : FE) : (mUnO g a l s).S P E ↔ (a l s).S (fun x s => OW (g (drf s x)) fun z => P z s) E := by
  unfold mUnO; simp only [w_bind, w_lift]
@[simp] theorem w_mArgsO (g : List D → Option D) (a : FA) : (mArgsO g a l s).S P E ↔ (a l s).S (fun xs s => OW (g (xs.map (drf s))) fun z => P z s) E := by
  unfold mArgsO; simp only [w_bind, w_lift]
@[simp] theorem w_mCutO (a : FE) (lo hi : FO) : (mCutO a lo hi l s).S P E ↔ (a l s).S (fun x s => (lo l s).S (fun i s => (hi l s).S (fun j s => OW (gCut (drf s x) i j) (fun z => P z s)) E) E) E := by
  unfold mCutO; simp only [w_bind, w_lift]
@[simp] theorem w_mMethO (g : List D → List D → Option (D × List D)) (o : FE) (a : FA) : (mMethO g o a l s).S P E ↔ (o l s).S (fun x s => OW (lstAt s x) fun _ => (a l s).S (fun ys s => OW (lstAt s x) fun p => OW (g p.2 ys) fun q => P q.1 (s.set p.1 (.lst q.2))) E) E := by
  unfold mMethO; rw [w_bind]
  refine sat_congr fun x s => ?_
  cases e : lstAt s x with
  | none => simp
  | some w =>
    simp only [OW_some, w_bind]
    refine sat_congr fun ys s => ?_
    cases e : lstAt s x with
    | none => simp
    | some w =>
      obtain ⟨n, xs⟩ := w
      simp only [OW_some]
      cases g xs ys with
      | none => simp
      | some q => obtain ⟨y, zs⟩ := q; simp
@[simp] theorem W_sPutO (o a k : FE) : (sPutO o a k l s).W N R B C' X ↔ (a l s).S (fun y s => (o l s).S (fun x s => (k l s).S (fun z s => OW (lstAt s x) fun p => intW z fun i => OW (ixI p.2.length i) fun j => N l (s.set p.1 (.lst (p.2.set j y)))) (fun e s => X e l s)) (fun e s => X e l s)) (fun e s => X e l s) := by
  unfold sPutO
  simp only [W_fl]
  refine sat_congr fun y s => sat_congr fun x s => sat_congr fun z s => ?_
  cases e : lstAt s x with
  | none => simp
  | some w =>
    obtain ⟨n, xs⟩ := w
    simp only [OW_some]
    cases z with
    | int i =>
      simp only [intW]
      cases ixI xs.length i <;> simp
    | _ => simp [intW]
@[simp] theorem w_mFld (C : Nat) (f : Str) (o : FE) : (mFld C f o l s).S P E ↔ (o l s).S (fun x s => OW (insAt C s x) fun p => OW (p.2.lookup f) fun d => P d s) E := by
  unfold mFld; rw [w_bind]
  refine sat_congr fun x s => ?_
  cases e : insAt C s x with
  | none => simp
  | some w => obtain ⟨n, fs⟩ := w; simp
@[simp] theorem W_sFldD (C : Nat) (f : Str) (o a : FE) : (sFldD C f o a l s).W N R B C' X ↔ (a l s).S (fun y s => (o l s).S (fun x s => OW (insAt C s x) fun p => p.2.length < 1000 ∧ N l (s.set p.1 (.ins C (putFD f y p.2)))) (fun e s => X e l s)) (fun e s => X e l s) := by
  unfold sFldD
  simp only [W_fl]
  refine sat_congr fun y s => sat_congr fun x s => ?_
  cases e : insAt C s x with
  | none => simp
  | some w =>
    obtain ⟨n, fs⟩ := w
    simp only [OW_some]
    by_cases h : fs.length < 1000 <;> simp [h]
@[simp] theorem w_mMake (C : Nat) (m : List D → Sto → Vx.R D) (a : FA) : (mMake C m a l s).S P E ↔ (a l s).S (fun xs s => (m (.obj s.length :: xs) (s ++ [.ins C []])).S (fun d s' => d = .non ∧ P (.obj s.length) s') NoE) E := by
  unfold mMake; rw [w_bind]
  refine sat_congr fun xs s => ?_
  rw [w_bind, w_nox]
  refine sat_congr fun d s' => ?_
  cases d <;> simp
def noAt (f : Str) (fs : List (Str × D)) : Prop := fs.lookup f = none
@[simp] theorem noAt_nil (f : Str) : noAt f [] ↔ True := by simp [noAt]
@[simp] theorem noAt_cons (f g : Str) (v : D) (r : List (Str × D)) : noAt f ((g, v) :: r) ↔ f ≠ g ∧ noAt f r := by
  unfold noAt
  rw [List.lookup_cons]
  by_cases h : f = g
  · subst h; simp
  · have : (f == g) = false := by simpa using h
    rw [this]
    exact ⟨fun q => ⟨h, q⟩, fun q => q.2⟩
@[simp] theorem w_mMeth (C : Nat) (nm : Str) (m : List D → Sto → Vx.R D) (o : FE) (a : FA) : (mMeth C nm m o a l s).S P E ↔ (o l s).S (fun x s => OW (insAt C s x) fun p => noAt nm p.2 ∧ (a l s).S (fun xs s => (m (x :: xs) s).S P NoE) E) E := by
  unfold mMeth; rw [w_bind]
  refine sat_congr fun x s => ?_
  cases e : insAt C s x with
  | none => simp
  | some w =>
    obtain ⟨n, fs⟩ := w
    simp only [OW_some]
    unfold noAt
    cases h : fs.lookup nm <;> simp
@[simp] theorem w_mMethF (C : Nat) (nm : Str) (m : List D → Sto → Vx.R D) (o : FE) (a : FA) : (mMethF C nm m o a l s).S P E ↔ (mMeth C nm m o a l s).S (fun d s => d.isMut = true ∧ P d s) E := by
  unfold mMethF; rw [w_bind]
  refine sat_congr fun d s => ?_
  by_cases h : d.isMut = true <;> simp [h]
end
@[simp] theorem drf_int (s : Sto) (i : Int) : drf s (.int i) = .int i := rfl
@[simp] theorem drf_non (s : Sto) : drf s .non = .non := rfl
@[simp] theorem drf_bl (s : Sto) (i : Bool) : drf s (.bl i) = .bl i := rfl
@[simp] theorem drf_str (s : Sto) (i : Str) : drf s (.str i) = .str i := rfl
@[simp] theorem drf_tup (s : Sto) (i : List D) : drf s (.tup i) = .tup i := rfl
@[simp] theorem drf_lst (s : Sto) (i : List D) : drf s (.lst i) = .lst i := rfl
theorem drf_o {s : Sto} {n : Nat} {xs : List D} (h : s[n]? = some (.lst xs)) : drf s (.obj n) = .lst xs := by unfold drf; simp only [h]
theorem lstAt_o {s : Sto} {n : Nat} {xs : List D} (h : s[n]? = some (.lst xs)) : lstAt s (.obj n) = some (n, xs) := by unfold lstAt; simp only [h]
theorem insAt_o {s : Sto} {n C : Nat} {fs : List (Str × D)} (h : s[n]? = some (.ins C fs)) : insAt C s (.obj n) = some (n, fs) := by unfold insAt; simp only [h, if_true]
@[simp] theorem lookup_c (f g : Str) (v : D) (r : List (Str × D)) : List.lookup f ((g, v) :: r) = if f = g then some v else List.lookup f r := by
  rw [List.lookup_cons]
  by_cases h : f = g
  · subst h; simp
  · have : (f == g) = false := by simpa using h
    rw [this, if_neg h]
@[simp] theorem putFD_nil (f : Str) (v : D) : putFD f v [] = [(f, v)] := rfl
@[simp] theorem putFD_cons (f g : Str) (v w : D) (r : List (Str × D)) : putFD f v ((g, w) :: r) = if g = f then (g, v) :: r else (g, w) :: putFD f v r := rfl
@[simp] theorem gAppend_1 (xs : List D) (y : D) (P : D × List D → Prop) : OW (gAppend xs [y]) P ↔ xs.length < 16777216 ∧ P (.non, xs ++ [y]) := by
  unfold gAppend; simp only [OW_ite]
theorem set_same {α : Type} {s : List α} {j : Nat} {x : α} (h : s[j]? = some x) : s.set j x = s := by
  obtain ⟨hl, rfl⟩ := List.getElem?_eq_some_iff.mp h
  exact List.set_getElem_self hl
end Vx
namespace Vx
open PySem
section
variable {s : Sto} {n k C : Nat} {xs : List D} {ob : Ob}
theorem drf_set_self (h : n < s.length) : drf (s.set n (.lst xs)) (.obj n) = .lst xs := drf_o (by rw [List.getElem?_set, if_pos rfl, if_pos h])
theorem drf_set_ne (h : n ≠ k) : drf (s.set n ob) (.obj k) = drf s (.obj k) := by unfold drf; simp only [List.getElem?_set_ne h]
theorem lstAt_set_self (h : n < s.length) : lstAt (s.set n (.lst xs)) (.obj n) = some (n, xs) := lstAt_o (by rw [List.getElem?_set, if_pos rfl, if_pos h])
theorem lstAt_set_ne (h : n ≠ k) : lstAt (s.set n ob) (.obj k) = lstAt s (.obj k) := by unfold lstAt; simp only [List.getElem?_set_ne h]
theorem insAt_set_ne (h : n ≠ k) : insAt C (s.set n ob) (.obj k) = insAt C s (.obj k) := by unfold insAt; simp only [List.getElem?_set_ne h]
end
theorem ixI_nat {n b : Nat} (h : b < n) : ixI n (b : Int) = some b := by
  unfold ixI
  rw [if_pos (by omega), if_pos (by omega)]
  simp
end Vx

namespace Law
open PySem Vx
/-! letters that wait -/
/-- at i stands a Letters of the bound m, whose line, at j, is a -/
structure LAt (ca : Nat → Nat) (s : Sto) (i j : Nat) (m : Nat) (a : List Nat) : Prop where
  i : s[i]? = some (.ins (ca 0) [("most", nD m), ("line", .obj j)])
  j : s[j]? = some (.lst (a.map nD))
theorem l_init (ca : Nat → Nat) (pre : Sto) (m : Nat) : m_Letters___init__ ca [.obj pre.length, nD m] (pre ++ [.ins (ca 0) []]) = .ok .non (pre ++ [.ins (ca 0) [("most", nD m), ("line", .obj (pre.length + 1))], .lst []]) := by
  have h : (m_Letters___init__ ca [.obj pre.length, nD m] (pre ++ [.ins (ca 0) []])).S (fun d s' => d = .non ∧ s' = pre ++ [.ins (ca 0) [("most", nD m), ("line", .obj (pre.length + 1))], .lst []]) NoE := by
    unfold m_Letters___init__ b_Letters___init__
    simp [startD]
    rw [insAt_o (n := pre.length) (fs := []) (by simp)]
    simp
    rw [insAt_o (n := pre.length) (fs := [("most", nD m)]) (by simp)]
    simp
  obtain ⟨d, s', h1, rfl, rfl⟩ := h.ok
  exact h1
section
variable {ca : Nat → Nat} {s : Sto} {i j m : Nat} {a : List Nat}
theorem l_add (L : LAt ca s i j m a) (hm : m ≤ 1000) (e : Nat) : m_Letters_add ca [.obj i, nD e] s = if a.length < m then .ok (.bl true) (s.set j (.lst ((a ++ [e]).map nD))) else .ok (.bl false) s := by
  have h : (m_Letters_add ca [.obj i, nD e] s).S (fun d s' => if a.length < m then d = .bl true ∧ s' = s.set j (.lst ((a ++ [e]).map nD)) else d = .bl false ∧ s' = s) NoE := by
    unfold m_Letters_add b_Letters_add
    simp [startD, insAt_o L.i, drf_o L.j, lstAt_o L.j]
    intro h
    exact ⟨by omega, h⟩
  obtain ⟨d, s', h1, h2⟩ := h.ok
  rw [h1]
  by_cases hc : a.length < m
  · rw [if_pos hc] at h2 ⊢; obtain ⟨rfl, rfl⟩ := h2; rfl
  · rw [if_neg hc] at h2 ⊢; obtain ⟨rfl, rfl⟩ := h2; rfl
theorem LAt.set (L : LAt ca s i j m a) (b : List Nat) : LAt ca (s.set j (.lst (b.map nD))) i j m b := by
  have hij : j ≠ i := fun e => by
    have h1 := L.i
    rw [← e, L.j] at h1
    cases h1
  refine ⟨by rw [List.getElem?_set_ne hij]; exact L.i, ?_⟩
  rw [List.getElem?_set, if_pos rfl, if_pos (List.getElem?_eq_some_iff.mp L.j).1]
theorem LAt.other (L : LAt ca s i j m a) {n : Nat} (hi : n ≠ i) (hj : n ≠ j) (ob : Ob) : LAt ca (s.set n ob) i j m a :=
  ⟨by rw [List.getElem?_set_ne hi]; exact L.i, by rw [List.getElem?_set_ne hj]; exact L.j⟩
theorem LAt.app (L : LAt ca s i j m a) (t : Sto) : LAt ca (s ++ t) i j m a :=
  ⟨by rw [List.getElem?_append_left (List.getElem?_eq_some_iff.mp L.i).1]; exact L.i, by rw [List.getElem?_append_left (List.getElem?_eq_some_iff.mp L.j).1]; exact L.j⟩
end
end Law

namespace Law
open PySem Vx
/-! deeds done -/
theorem set_cutN {α : Type} (vs : List α) (j : Nat) (v : α) (hj : j < vs.length) : vs.take j ++ v :: vs.drop (j + 1) = vs.set j v := by
  rw [List.set_eq_take_append_cons_drop, if_pos hj]
/-- the boxes behind a deed -/
def chgB (zs bs : List Int) : Dd → List Int
  | .say _ => bs
  | .send _ => bs
  | .set b n => bs.set b n
  | .add b n => bs.set b ((bs[b]?.getD 0 + n) % zs[b]?.getD 0)
/-- its box is one of nb -/
def Dd.inB (nb : Nat) : Dd → Prop
  | .say _ => True
  | .send _ => True
  | .set b _ => b < nb
  | .add b _ => b < nb
theorem Dd.ok.inB {sz : List Int} {ne : Nat} {d : Dd} (h : d.ok sz ne) : d.inB sz.length := by
  cases d with
  | say w => trivial
  | send e => trivial
  | set b n => exact h.1
  | add b n => exact h.1
theorem chgB_len (zs bs : List Int) (d : Dd) : (chgB zs bs d).length = bs.length := by cases d <;> simp [chgB]
theorem changed {bs zs : List Int} (hl : bs.length ≤ 60) (hz : zs.length = bs.length) (hp : ∀ z ∈ zs, 0 < z) {d : Dd} (hd : d.inB bs.length) (s : Sto) : m_changed [d.D, .tup (bs.map .int), .tup (zs.map .int)] s = .ok (.tup ((chgB zs bs d).map .int)) s := by
  have h : (m_changed [d.D, .tup (bs.map .int), .tup (zs.map .int)] s).S (fun x s' => s = s' ∧ x = .tup ((chgB zs bs d).map .int)) NoE := by
    unfold m_changed b_changed
    cases d with
    | say w => simp [startD, Dd.D, chgB]
    | send e => simp [startD, Dd.D, chgB]
    | set b n =>
      have hd : b < bs.length := hd
      simp [startD, Dd.D, chgB]
      rw [cut_to _ _ (by omega), cut_from _ _ (by omega)]
      have e : ((b : Int) + 1).toNat = b + 1 := by omega
      simp [e]
      refine ⟨by omega, by omega, ?_⟩
      exact set_cutN _ _ _ (by simpa using hd)
    | add b n =>
      have hd : b < bs.length := hd
      have hb2 : b < zs.length := by omega
      simp [startD, Dd.D, chgB]
      rw [getI_g hd, getI_g hb2]
      have hz0 := hp _ (List.getElem_mem hb2)
      refine ⟨hz0, ?_⟩
      rw [cut_to _ _ (by omega), cut_from _ _ (by omega)]
      have e : ((b : Int) + 1).toNat = b + 1 := by omega
      simp [e]
      refine ⟨by omega, by omega, ?_⟩
      rw [List.getElem?_eq_getElem hd, List.getElem?_eq_getElem hb2]
      exact set_cutN _ _ _ (by simpa using hd)
  obtain ⟨x, s', h1, rfl, rfl⟩ := h.ok
  exact h1
inductive Rc where
  | say (w : Str) | send (e : Nat) | lost (e : Nat) | put (b : Nat) (v : Int)
def Rc.D : Rc → D
  | .say w => .tup [.str "say", .str w]
  | .send e => .tup [.str "send", nD e]
  | .lost e => .tup [.str "lost", nD e]
  | .put b v => .tup [.str "put", nD b, .int v]
/-- boxes, letters, record -/
structure Rn where
  bs : List Int
  a : List Nat
  rc : List Rc
def stepR (m : Nat) (zs : List Int) (x : Rn) (d : Dd) : Rn := match d with
  | .say w => ⟨x.bs, x.a, x.rc ++ [.say w]⟩
  | .send e => if x.a.length < m then ⟨x.bs, x.a ++ [e], x.rc ++ [.send e]⟩ else ⟨x.bs, x.a, x.rc ++ [.lost e]⟩
  | .set b n => ⟨x.bs.set b n, x.a, x.rc ++ [.put b n]⟩
  | .add b n => ⟨x.bs.set b ((x.bs[b]?.getD 0 + n) % zs[b]?.getD 0), x.a, x.rc ++ [.put b ((x.bs[b]?.getD 0 + n) % zs[b]?.getD 0)]⟩
def runR (m : Nat) (zs : List Int) (ds : List Dd) (x : Rn) : Rn := ds.foldl (stepR m zs) x
theorem runR_app (m : Nat) (zs : List Int) (ds : List Dd) (d : Dd) (x : Rn) : runR m zs (ds ++ [d]) x = stepR m zs (runR m zs ds x) d := by simp [runR]
theorem stepR_len (m : Nat) (zs : List Int) (x : Rn) (d : Dd) : (stepR m zs x d).bs.length = x.bs.length ∧ (stepR m zs x d).rc.length = x.rc.length + 1 := by
  cases d with
  | send e => unfold stepR; simp only []; split <;> simp
  | _ => simp [stepR]
theorem runR_len (m : Nat) (zs : List Int) : ∀ (ds : List Dd) (x : Rn), (runR m zs ds x).bs.length = x.bs.length ∧ (runR m zs ds x).rc.length = x.rc.length + ds.length
  | [], x => ⟨rfl, rfl⟩
  | d :: ds, x => by
    obtain ⟨h1, h2⟩ := runR_len m zs ds (stepR m zs x d)
    obtain ⟨h3, h4⟩ := stepR_len m zs x d
    exact ⟨h1.trans h3, by rw [show runR m zs (d :: ds) x = runR m zs ds (stepR m zs x d) from rfl, h2, h4, List.length_cons]; omega⟩
theorem stepR_a {m : Nat} {zs : List Int} {x : Rn} {d : Dd} (h : x.a.length ≤ m) : (stepR m zs x d).a.length ≤ m := by
  cases d with
  | send e => unfold stepR; simp only []; split <;> simp <;> omega
  | _ => simpa [stepR] using h
theorem runR_a {m : Nat} {zs : List Int} : ∀ (ds : List Dd) (x : Rn), x.a.length ≤ m → (runR m zs ds x).a.length ≤ m
  | [], x, h => h
  | d :: ds, x, h => runR_a ds (stepR m zs x d) (stepR_a h)
theorem stepR_bs (m : Nat) (zs : List Int) (x : Rn) (d : Dd) : (stepR m zs x d).bs = chgB zs x.bs d := by
  cases d with
  | send e => unfold stepR; simp only []; split <;> rfl
  | _ => rfl
theorem doneW {ca : Nat → Nat} {s : Sto} {i j m : Nat} {a : List Nat} (L : LAt ca s i j m a) (hm : m ≤ 1000) {bs zs : List Int} (hl : bs.length ≤ 60) (hz : zs.length = bs.length) (hp : ∀ z ∈ zs, 0 < z) {ds : List Dd} (hd : ∀ d ∈ ds, d.inB bs.length) (hn : ds.length ≤ 1000) :
    m_done ca [.tup (ds.map Dd.D), .tup (bs.map .int), .tup (zs.map .int), .obj i] s = .ok (.tup [.tup ((runR m zs ds ⟨bs, a, []⟩).bs.map .int), .lst ((runR m zs ds ⟨bs, a, []⟩).rc.map Rc.D)]) (s.set j (.lst ((runR m zs ds ⟨bs, a, []⟩).a.map nD))) := by
  have h : (m_done ca [.tup (ds.map Dd.D), .tup (bs.map .int), .tup (zs.map .int), .obj i] s).S (fun x s' => s' = s.set j (.lst ((runR m zs ds ⟨bs, a, []⟩).a.map nD)) ∧ x = .tup [.tup ((runR m zs ds ⟨bs, a, []⟩).bs.map .int), .lst ((runR m zs ds ⟨bs, a, []⟩).rc.map Rc.D)]) NoE := by
    unfold m_done b_done
    simp only [w_mDef, startD]
    refine ⟨rfl, ?_⟩
    rw [W_sSeq]; simp [-W_sSeq]
    rw [W_sSeq]; refine W_cut (fun l s' => s' = s.set j (.lst ((runR m zs ds ⟨bs, a, []⟩).a.map nD)) ∧ ∃ z, l = [some (.tup (ds.map Dd.D)), some (.tup ((runR m zs ds ⟨bs, a, []⟩).bs.map .int)), some (.tup (zs.map .int)), some (.obj i), some (.lst ((runR m zs ds ⟨bs, a, []⟩).rc.map Rc.D)), z]) ?_ ?_
    · rw [W_sFor]; simp [-W_sSeq, -W_sIf]
      refine W_forM Dd.D ds (fun dn l s' => s' = s.set j (.lst ((runR m zs dn ⟨bs, a, []⟩).a.map nD)) ∧ ∃ z, l = [some (.tup (ds.map Dd.D)), some (.tup ((runR m zs dn ⟨bs, a, []⟩).bs.map .int)), some (.tup (zs.map .int)), some (.obj i), some (.lst ((runR m zs dn ⟨bs, a, []⟩).rc.map Rc.D)), z]) ?_ ?_ ?_
      · exact ⟨(set_same L.j).symm, none, rfl⟩
      · rintro dn d rest l s' he ⟨rfl, z, rfl⟩
        have hdd := hd d (by rw [he]; simp)
        have hdn : dn.length ≤ 1000 := by
          have := congrArg List.length he
          simp at this
          omega
        obtain ⟨l1, l2⟩ := runR_len m zs dn ⟨bs, a, []⟩
        have l1 : (runR m zs dn ⟨bs, a, []⟩).bs.length = bs.length := l1
        have l2 : (runR m zs dn ⟨bs, a, []⟩).rc.length = 0 + dn.length := l2
        rw [runR_app]
        generalize runR m zs dn ⟨bs, a, []⟩ = x at l1 l2 ⊢
        have L' := L.set x.a
        have hch := changed (bs := x.bs) (zs := zs) (by omega) (by omega) hp (d := d) (by rw [l1]; exact hdd) (s.set j (.lst (x.a.map nD)))
        rw [tg1W]
        rw [W_sSeq]; simp [-W_sSeq, -W_sIf, hch]
        cases d with
        | say w =>
          simp [Dd.D, stepR, Rc.D, chgB]
          omega
        | send e =>
          have hA := l_add L' hm e
          have hA : m_Letters_add ca [.obj i, nD e] (s.set j (.lst (x.a.map nD))) = _ := hA
          refine W_ifD false (by simp [Dd.D]) ?_
          rw [if_neg (by decide)]
          refine W_ifD true (by simp [Dd.D]) ?_
          rw [if_pos rfl]
          by_cases hc : x.a.length < m
          · rw [if_pos hc] at hA
            simp [Dd.D, stepR, hc, insAt_o L'.i, chgB]
            simp at hA
            rw [hA]
            simp [Rc.D]
            omega
          · rw [if_neg hc] at hA
            simp [Dd.D, stepR, hc, insAt_o L'.i, chgB]
            rw [hA]
            simp [Rc.D]
            omega
        | set b n =>
          have hb : b < x.bs.length := by rw [l1]; exact hdd
          refine W_ifD false (by simp [Dd.D]) ?_
          rw [if_neg (by decide)]
          refine W_ifD false (by simp [Dd.D]) ?_
          rw [if_neg (by decide)]
          simp [Dd.D, stepR, chgB]
          rw [getI_g (by simpa using hb)]
          simp [Rc.D]
          omega
        | add b n =>
          have hb : b < x.bs.length := by rw [l1]; exact hdd
          refine W_ifD false (by simp [Dd.D]) ?_
          rw [if_neg (by decide)]
          refine W_ifD false (by simp [Dd.D]) ?_
          rw [if_neg (by decide)]
          simp [Dd.D, stepR, chgB]
          rw [getI_g (by simpa using hb)]
          simp [Rc.D]
          omega
      · rintro l s' ⟨rfl, z, rfl⟩
        exact ⟨rfl, z, rfl⟩
    rintro l s' ⟨rfl, z, rfl⟩
    simp
  obtain ⟨x, s', h1, rfl, rfl⟩ := h.ok
  exact h1
end Law

namespace Law
open PySem Vx
/-! a road: its record, its boxes -/
/-- an entry of a record -/
inductive En where
  | mv (w : Str) (n : Nat) | rc (x : Rc)
def En.D : En → D
  | .mv w n => .tup [.str w, nD n]
  | .rc x => x.D
/-- a road stands at i, its record at j, its letters at h with their line at k -/
structure RAt (ca : Nat → Nat) (s : Sto) (i j h k m : Nat) (zs bs : List Int) (a : List Nat) (es : List En) : Prop where
  ri : s[i]? = some (.ins (ca 1) [("sizes", .tup (zs.map .int)), ("boxes", .tup (bs.map .int)), ("letters", .obj h), ("record", .obj j)])
  rj : s[j]? = some (.lst (es.map En.D))
  rl : LAt ca s h k m a
  rkj : k ≠ j
/-- the store behind something done on the road -/
def rset (ca : Nat → Nat) (s : Sto) (i j h k : Nat) (zs bs : List Int) (a : List Nat) (es : List En) : Sto :=
  ((s.set k (.lst (a.map nD))).set i (.ins (ca 1) [("sizes", .tup (zs.map .int)), ("boxes", .tup (bs.map .int)), ("letters", .obj h), ("record", .obj j)])).set j (.lst (es.map En.D))
section
variable {ca : Nat → Nat} {s : Sto} {i j h k m : Nat} {zs bs : List Int} {a : List Nat} {es : List En}
theorem RAt.ne (R : RAt ca s i j h k m zs bs a es) : k ≠ i ∧ i ≠ j ∧ h ≠ k ∧ h ≠ j ∧ h ≠ i := by
  have h1 := R.ri
  have h2 := R.rj
  have h3 := R.rl.i
  have h4 := R.rl.j
  refine ⟨fun e => ?_, fun e => ?_, fun e => ?_, fun e => ?_, fun e => ?_⟩
  · rw [e, h1] at h4; cases h4
  · rw [e, h2] at h1; cases h1
  · rw [e, h4] at h3; cases h3
  · rw [e, h2] at h3; cases h3
  · rw [e, h1] at h3
    injection h3 with h3
    injection h3 with _ h3
    have := congrArg List.length h3
    simp at this
theorem rset_same (R : RAt ca s i j h k m zs bs a es) : rset ca s i j h k zs bs a es = s := by
  unfold rset
  rw [set_same R.rl.j, set_same R.ri, set_same R.rj]
theorem RAt.rset (R : RAt ca s i j h k m zs bs a es) (bs' : List Int) (a' : List Nat) (es' : List En) : RAt ca (rset ca s i j h k zs bs' a' es') i j h k m zs bs' a' es' := by
  obtain ⟨n1, n2, n3, n4, n5⟩ := R.ne
  have li := (List.getElem?_eq_some_iff.mp R.ri).1
  have lj := (List.getElem?_eq_some_iff.mp R.rj).1
  have lk := (List.getElem?_eq_some_iff.mp R.rl.j).1
  refine ⟨?_, ?_, ⟨?_, ?_⟩, R.rkj⟩
  · unfold Law.rset
    rw [List.getElem?_set_ne n2.symm, List.getElem?_set, if_pos rfl, if_pos (by simpa using li)]
  · unfold Law.rset
    rw [List.getElem?_set, if_pos rfl, if_pos (by simpa using lj)]
  · unfold Law.rset
    rw [List.getElem?_set_ne n4.symm, List.getElem?_set_ne n5.symm, List.getElem?_set_ne n3.symm]
    exact R.rl.i
  · unfold Law.rset
    rw [List.getElem?_set_ne R.rkj.symm, List.getElem?_set_ne n1.symm, List.getElem?_set, if_pos rfl, if_pos lk]
theorem rset_rset (R : RAt ca s i j h k m zs bs a es) (b1 b2 : List Int) (a1 a2 : List Nat) (e1 e2 : List En) : rset ca (rset ca s i j h k zs b1 a1 e1) i j h k zs b2 a2 e2 = rset ca s i j h k zs b2 a2 e2 := by
  obtain ⟨n1, n2, n3, n4, n5⟩ := R.ne
  unfold rset
  rw [List.set_comm _ _ R.rkj.symm, List.set_comm _ _ n1.symm, List.set_set, List.set_comm _ _ n2.symm, List.set_set, List.set_set]
theorem road_step (R : RAt ca s i j h k m zs bs a es) (hm : m ≤ 1000) (hl : bs.length ≤ 60) (hz : zs.length = bs.length) (hp : ∀ z ∈ zs, 0 < z) {ds : List Dd} (hd : ∀ d ∈ ds, d.inB bs.length) (hn : ds.length ≤ 1000) (hes : es.length ≤ 100000) (w : Str) (n : Nat) :
    m_Road_step ca [.obj i, .str w, nD n, .tup (ds.map Dd.D)] s = .ok .non (rset ca s i j h k zs (runR m zs ds ⟨bs, a, []⟩).bs (runR m zs ds ⟨bs, a, []⟩).a (es ++ En.mv w n :: (runR m zs ds ⟨bs, a, []⟩).rc.map En.rc)) := by
  obtain ⟨n1, n2, n3, n4, n5⟩ := R.ne
  have li := (List.getElem?_eq_some_iff.mp R.ri).1
  have lj := (List.getElem?_eq_some_iff.mp R.rj).1
  have hdn := doneW R.rl hm hl hz hp hd hn
  obtain ⟨l1, l2⟩ := runR_len m zs ds ⟨bs, a, []⟩
  have l2 : (runR m zs ds ⟨bs, a, []⟩).rc.length = 0 + ds.length := l2
  generalize runR m zs ds ⟨bs, a, []⟩ = x at hdn l1 l2 ⊢
  have hh : (m_Road_step ca [.obj i, .str w, nD n, .tup (ds.map Dd.D)] s).S (fun d s' => d = .non ∧ s' = rset ca s i j h k zs x.bs x.a (es ++ En.mv w n :: x.rc.map En.rc)) NoE := by
    unfold m_Road_step b_Road_step
    simp only [w_mDef, startD]
    refine ⟨rfl, ?_⟩
    have q1 := insAt_o R.ri
    rw [W_sSeq]; simp [-W_sSeq, q1]
    simp [-W_sSeq, hdn]
    have q2 : insAt (ca 1) (s.set k (.lst (x.a.map nD))) (.obj i) = some (i, ([("sizes", .tup (zs.map .int)), ("boxes", .tup (bs.map .int)), ("letters", .obj h), ("record", .obj j)] : List (Str × D))) := by
      rw [insAt_set_ne n1]; exact q1
    rw [W_sSeq]; simp [-W_sSeq, q2]
    have q3 : ∀ (X : Sto) (hX : i < X.length) (fs : List (Str × D)), insAt (ca 1) (X.set i (.ins (ca 1) fs)) (.obj i) = some (i, fs) := fun X hX fs => insAt_o (by rw [List.getElem?_set, if_pos rfl, if_pos hX])
    have q4 : ∀ (F : Ob), lstAt ((s.set k (.lst (x.a.map nD))).set i F) (.obj j) = some (j, es.map En.D) := fun F => by
      rw [lstAt_set_ne n2, lstAt_set_ne R.rkj]; exact lstAt_o R.rj
    rw [W_sSeq]; simp [-W_sSeq, q3 (s.set k (.lst (x.a.map nD))) (by simpa using li), q4]
    refine ⟨by omega, ?_⟩
    rw [insAt_set_ne n2.symm, q3 (s.set k (.lst (x.a.map nD))) (by simpa using li)]
    simp
    rw [lstAt_set_self (by simpa using lj)]
    simp [gExtend, szOk]
    rw [if_pos (by omega)]
    simp [rset, En.D, Function.comp_def]
  obtain ⟨d, s', h1, rfl, rfl⟩ := hh.ok
  exact h1
end
end Law

namespace Law
open PySem Vx
/-! a door passed -/
structure Re where
  bs : List Int
  a : List Nat
  es : List En
def stepE (m : Nat) (zs : List Int) (x : Re) (w : Str) (n : Nat) (ds : List Dd) : Re :=
  ⟨(runR m zs ds ⟨x.bs, x.a, []⟩).bs, (runR m zs ds ⟨x.bs, x.a, []⟩).a, x.es ++ En.mv w n :: (runR m zs ds ⟨x.bs, x.a, []⟩).rc.map En.rc⟩
theorem stepE_len (m : Nat) (zs : List Int) (x : Re) (w : Str) (n : Nat) (ds : List Dd) : (stepE m zs x w n ds).bs.length = x.bs.length ∧ (stepE m zs x w n ds).es.length = x.es.length + 1 + ds.length := by
  obtain ⟨h1, h2⟩ := runR_len m zs ds ⟨x.bs, x.a, []⟩
  have h2 : (runR m zs ds ⟨x.bs, x.a, []⟩).rc.length = 0 + ds.length := h2
  refine ⟨h1, ?_⟩
  unfold stepE
  simp [h2]
  omega
def hallO (rs : List Rm) (ds : List Nat) (a b : Nat) : Option Nat := ((anc ds a).filter (hallP rs ds b)).head?
theorem fst_uD (xs : List Nat) : fst? xs = uD xs.head? := by cases xs <;> rfl
def keptN (rs : List Rm) (ds os us : List Nat) (qs : List (List Nat)) : List (List Nat) := (List.range ds.length).map fun r => if r ∈ us then keptL rs ds os r ((rs[r]?.map Rm.kp).getD "") ((qs[r]?).getD []) else (qs[r]?).getD []
def rmIns (rs : List Rm) (r : Nat) : List Dd := (rs[r]?.map Rm.ins).getD []
def rmOuts (rs : List Rm) (r : Nat) : List Dd := (rs[r]?.map Rm.outs).getD []
def outsE (m : Nat) (zs : List Int) (rs : List Rm) (us : List Nat) (x : Re) : Re := us.foldl (fun x r => stepE m zs x "out" r (rmOuts rs r)) x
def insE (m : Nat) (zs : List Int) (rs : List Rm) (us : List Nat) (x : Re) : Re := us.foldl (fun x r => stepE m zs x "in" r (rmIns rs r)) x
/-- the store with a road just made -/
def roadS (ca : Nat → Nat) (s : Sto) (h : Nat) (zs bs : List Int) : Sto := s ++ [.ins (ca 1) [("sizes", .tup (zs.map .int)), ("boxes", .tup (bs.map .int)), ("letters", .obj h), ("record", .obj (s.length + 1))], .lst []]
theorem road_init {c : Ch} (hb : c.boxes.length ≤ 6) (ca : Nat → Nat) (s : Sto) (h : Nat) (bs : List Int) : m_Road___init__ ca [.obj s.length, Ch.D c, .tup (bs.map .int), .obj h] (s ++ [.ins (ca 1) []]) = .ok .non (roadS ca s h c.szs bs) := by
  have hh : (m_Road___init__ ca [.obj s.length, Ch.D c, .tup (bs.map .int), .obj h] (s ++ [.ins (ca 1) []])).S (fun d s' => d = .non ∧ s' = roadS ca s h c.szs bs) NoE := by
    unfold m_Road___init__ b_Road___init__
    simp only [w_mDef, startD]
    refine ⟨rfl, ?_⟩
    have q : ∀ fs : List (Str × D), insAt (ca 1) (s ++ [.ins (ca 1) fs]) (.obj s.length) = some (s.length, fs) := fun fs => insAt_o (by simp)
    have q2 : ∀ fs : List (Str × D), insAt (ca 1) (s ++ [.ins (ca 1) fs, .lst []]) (.obj s.length) = some (s.length, fs) := fun fs => insAt_o (by simp)
    rw [W_sSeq]; refine W_cut (fun l s' => s' = s ++ [.ins (ca 1) [("sizes", .tup (c.szs.map .int))]] ∧ l = [some (.obj s.length), some (Ch.D c), some (.tup (bs.map .int)), some (.obj h), none]) ?_ ?_
    · simp
      refine W_compM c.boxes Bx.D (fun b => .int b.sz) (by omega) ?_ ?_
      · intro b hb
        simp [wipeD]
      · simp [q, Ch.szs, Function.comp_def]
    rintro l s' ⟨rfl, rfl⟩
    rw [W_sSeq]; simp [-W_sSeq, q]
    rw [W_sSeq]; simp [-W_sSeq, q]
    simp [q2, roadS]
  obtain ⟨d, s', h1, rfl, rfl⟩ := hh.ok
  exact h1
theorem roadAt {ca : Nat → Nat} {s : Sto} {h k m : Nat} {a : List Nat} (L : LAt ca s h k m a) (zs bs : List Int) : RAt ca (roadS ca s h zs bs) s.length (s.length + 1) h k m zs bs a [] := by
  have lk := (List.getElem?_eq_some_iff.mp L.j).1
  exact ⟨by simp [roadS], by simp [roadS], L.app _, by omega⟩
section
variable {c : Ch} (C : ChOk c) {ca : Nat → Nat} {s : Sto} {i j h kk m : Nat} {bs : List Int} {a : List Nat} {es : List En}
include C in
theorem szs_pos : ∀ z ∈ c.szs, 0 < z := fun z hz => by
  obtain ⟨b, hb, rfl⟩ := List.mem_map.mp hz
  have := (C.boxes.2 b hb).lo
  omega
include C in
/-- one step of a road of this chart -/
theorem stepW (R : RAt ca s i j h kk m c.szs bs a es) (hm : m ≤ 1000) (hbl : bs.length = c.boxes.length) (x : Re) (hx : x.bs.length = c.boxes.length) (hxe : x.es.length ≤ 100000) {ds : List Dd} (hd : DdsOk c.szs c.evs.length ds) (w : Str) (n : Nat) :
    m_Road_step ca [.obj i, .str w, nD n, .tup (ds.map Dd.D)] (rset ca s i j h kk c.szs x.bs x.a x.es) = .ok .non (rset ca s i j h kk c.szs (stepE m c.szs x w n ds).bs (stepE m c.szs x w n ds).a (stepE m c.szs x w n ds).es) := by
  have R' := R.rset x.bs x.a x.es
  have hb := C.boxes.1
  have hzl : c.szs.length = c.boxes.length := by simp [Ch.szs]
  have := road_step R' hm (by omega) (by omega) (szs_pos C) (ds := ds) (fun d hdm => by rw [hx, ← hzl]; exact (hd.2 d hdm).inB) (by have := hd.1; omega) hxe w n
  rw [this, rset_rset R]
  rfl
end
end Law

namespace Law
open PySem Vx
/-- what passing a door does: the road behind it, the opening, what is kept -/
def wayU (c : Ch) (d : Dr) : Option Nat := hallO c.rooms c.ds d.rm (d.goal.getD 0)
def leftL (c : Ch) (d : Dr) (os : List Nat) : List Nat := outL c.ds (wayU c d) os
def keptL' (c : Ch) (d : Dr) (os : List Nat) (qs : List (List Nat)) : List (List Nat) := keptN c.rooms c.ds os (leftL c d os) qs
def goneL (c : Ch) (d : Dr) (os : List Nat) (qs : List (List Nat)) : List Nat := goU c.rooms c.ds (goalsD (keptL' c d os qs) d) (wayU c d)
def restL (c : Ch) (d : Dr) (os : List Nat) : List Nat := os.filter fun k => !decide (k ∈ leftL c d os)
def moveE (c : Ch) (m k : Nat) (d : Dr) (os : List Nat) (qs : List (List Nat)) (x : Re) : Re :=
  insE m c.szs c.rooms (goneL c d os qs) (stepE m c.szs (outsE m c.szs c.rooms (leftL c d os) (stepE m c.szs x "door" k [])) "through" k d.dd)
def stayE (c : Ch) (m k : Nat) (d : Dr) (x : Re) : Re := stepE m c.szs (stepE m c.szs x "door" k []) "through" k d.dd
theorem o_notin_of' {x y : D} {b : Bool} (h : ∀ P : D → Prop, OW (gIn x y) P ↔ P (.bl b)) {P : D → Prop} : OW (gNotIn x y) P ↔ P (.bl !b) := by
  have e := (h (fun d => d = .bl b)).mpr rfl
  rw [OW_iff] at e
  obtain ⟨_, e, rfl⟩ := e
  unfold gNotIn
  rw [e]
  simp [gNot]
theorem o_notL' (a : Nat) (xs : List Nat) {P : D → Prop} : OW (gNotIn (nD a) (.lst (xs.map nD))) P ↔ P (.bl (!decide (a ∈ xs))) := o_notin_of' fun _ => o_inN a xs
section
variable {c : Ch} (C : ChOk c) {ca : Nat → Nat} {s : Sto} {h kk m : Nat} {a : List Nat}
include C in
theorem passedW (L : LAt ca s h kk m a) (hm : m ≤ 1000) {os : List Nat} (hos : os.Pairwise (· < ·)) (hob : ∀ x ∈ os, x < c.ds.length) (hol : os.length ≤ 40) {bs : List Int} (hbl : bs.length = c.boxes.length) {qs : List (List Nat)} (hqs : qs.length = c.ds.length)
    {k : Nat} (hk : k < c.doors.length) (hq2 : ∀ q ∈ keptL' c c.doors[k] os qs, q.length ≤ 1000) (h64 : (restL c c.doors[k] os ++ goneL c c.doors[k] os qs).length < 64) :
    ∃ (x : Re) (os' : List Nat) (qs' : List (List Nat)), m_passed ca [Ch.D c, .tup [.tup (os.map nD), .tup (bs.map .int), .tup (qs.map tupN)], nD k, .obj h] s = .ok (.tup [.tup [.tup (os'.map nD), .tup (x.bs.map .int), .tup (qs'.map tupN)], .obj (s.length + 1)]) (rset ca (roadS ca s h c.szs bs) s.length (s.length + 1) h kk c.szs x.bs x.a x.es) ∧
      (if c.doors[k].way = "stay" then x = stayE c m k c.doors[k] ⟨bs, a, []⟩ ∧ os' = os ∧ qs' = qs
       else x = moveE c m k c.doors[k] os qs ⟨bs, a, []⟩ ∧ os' = sortN (restL c c.doors[k] os ++ goneL c c.doors[k] os qs) ∧ qs' = keptL' c c.doors[k] os qs) := by
  have DO := C.doors.2 _ (List.getElem_mem hk)
  have hdl := C.doors.1
  have T := C.tree
  have hle := T.le
  have M : Rms c.rooms c.ds := ⟨rfl⟩
  have hlen : c.rooms.length = c.ds.length := M.len
  generalize hd : c.doors[k] = d at DO hq2 h64 ⊢
  have R0 := roadAt L c.szs bs
  have hrs : roadS ca s h c.szs bs = rset ca (roadS ca s h c.szs bs) s.length (s.length + 1) h kk c.szs bs a [] := (rset_same R0).symm
  generalize hS : roadS ca s h c.szs bs = S at R0 hrs
  have hst := fun (x : Re) (hx : x.bs.length = c.boxes.length) (hxe : x.es.length ≤ 100000) {ds : List Dd} (hdd : DdsOk c.szs c.evs.length ds) (w : Str) (n : Nat) => stepW C R0 hm hbl x hx hxe hdd w n
  have hI : ∀ x : Re, insAt (ca 1) (rset ca S s.length (s.length + 1) h kk c.szs x.bs x.a x.es) (.obj s.length) = some (s.length, ([("sizes", .tup (c.szs.map .int)), ("boxes", .tup (x.bs.map .int)), ("letters", .obj h), ("record", .obj (s.length + 1))] : List (Str × D))) := fun x => insAt_o (R0.rset x.bs x.a x.es).ri
  have nil_ok : DdsOk c.szs c.evs.length [] := ⟨by simp, by simp⟩
  have main : (m_passed ca [Ch.D c, .tup [.tup (os.map nD), .tup (bs.map .int), .tup (qs.map tupN)], nD k, .obj h] s).S (fun r s' => ∃ (x : Re) (os' : List Nat) (qs' : List (List Nat)), (s' = rset ca S s.length (s.length + 1) h kk c.szs x.bs x.a x.es ∧ r = .tup [.tup [.tup (os'.map nD), .tup (x.bs.map .int), .tup (qs'.map tupN)], .obj (s.length + 1)]) ∧
      (if d.way = "stay" then x = stayE c m k d ⟨bs, a, []⟩ ∧ os' = os ∧ qs' = qs
       else x = moveE c m k d os qs ⟨bs, a, []⟩ ∧ os' = sortN (restL c d os ++ goneL c d os qs) ∧ qs' = keptL' c d os qs)) NoE := by
    unfold m_passed b_passed
    simp only [w_mDef, startD]
    refine ⟨rfl, ?_⟩
    rw [W_sSeq]; simp [-W_sSeq, -W_sIf]
    rw [getI_g hk, hd]
    rw [W_sSeq]; simp [-W_sSeq, -W_sIf]
    have hi := road_init C.boxes.1 ca s h bs
    rw [hS] at hi
    rw [W_sSeq]; simp [-W_sSeq, -W_sIf, hi]
    obtain ⟨x1, hx1⟩ : ∃ x1, x1 = stepE m c.szs ⟨bs, a, []⟩ "door" k [] := ⟨_, rfl⟩
    have s1 := hst ⟨bs, a, []⟩ hbl (by simp) nil_ok "door" k
    rw [← hx1] at s1
    have s1 : m_Road_step ca [.obj s.length, .str "door", nD k, .tup []] S = .ok .non (rset ca S s.length (s.length + 1) h kk c.szs x1.bs x1.a x1.es) := by
      conv => lhs; rw [hrs]
      exact s1
    have l1 := stepE_len m c.szs ⟨bs, a, []⟩ "door" k []
    rw [← hx1] at l1
    have l1b : x1.bs.length = c.boxes.length := by rw [l1.1]; exact hbl
    have l1e : x1.es.length ≤ 1 := by rw [l1.2]; simp
    have hI0 : insAt (ca 1) S (.obj s.length) = some (s.length, ([("sizes", .tup (c.szs.map .int)), ("boxes", .tup (bs.map .int)), ("letters", .obj h), ("record", .obj (s.length + 1))] : List (Str × D))) := insAt_o R0.ri
    rw [W_sSeq]; simp [-W_sSeq, -W_sIf, hI0, s1]
    rw [W_sSeq]; refine W_ifD (decide (d.way = "stay")) (by simp; exact Bool.eq_iff_iff.mpr (by simp)) ?_
    split
    · rename_i hw
      have hw := of_decide_eq_true hw
      obtain ⟨x2, hx2⟩ : ∃ x2, x2 = stepE m c.szs x1 "through" k d.dd := ⟨_, rfl⟩
      have s2 := hst x1 l1b (by omega) DO.dd "through" k
      rw [← hx2] at s2
      rw [W_sSeq]; simp [-W_sSeq, -W_sIf, hI, s2]
      refine ⟨x2, os, qs, ⟨rfl, rfl, rfl, rfl⟩, ?_⟩
      rw [if_pos hw]
      exact ⟨by rw [hx2, hx1]; rfl, rfl, rfl⟩
    rename_i hw
    have hw : ¬ d.way = "stay" := fun h => hw (decide_eq_true h)
    rw [W_sNil]
    obtain ⟨g, hg1, hg2⟩ : ∃ g, d.goal = some g ∧ g < c.rooms.length := by
      rcases DO.way with ⟨h, _⟩ | ⟨_, g, h1, h2⟩ | ⟨_, g, h1, h2, _⟩
      · exact absurd h hw
      · exact ⟨g, h1, h2⟩
      · exact ⟨g, h1, h2⟩
    have hu : wayU c d = hallO c.rooms c.ds d.rm g := by unfold wayU; rw [hg1]; rfl
    have hrm := DO.rm
    have hh := hall_over M T (a := d.rm) (b := g) (by omega) (by omega)
    have hub : ∀ y, wayU c d = some y → y < c.ds.length := fun y hy => by
      rw [hu] at hy
      unfold hallO at hy
      have hmem := List.mem_of_mem_head? hy
      have := (List.mem_filter.mp hmem).1
      exact Nat.lt_of_le_of_lt (Nat.le_of_lt (anc_lt T d.rm _ (by omega) this)) (show d.rm < c.ds.length by omega)
    have hdg : uD d.goal = nD g := by rw [hg1]; rfl
    have hfu : fst? ((anc c.ds d.rm).filter (hallP c.rooms c.ds g)) = uD (wayU c d) := by rw [fst_uD, hu]; rfl
    rw [W_sSeq]; refine W_cut (fun l s' => s' = rset ca S s.length (s.length + 1) h kk c.szs x1.bs x1.a x1.es ∧ l = [some (Ch.D c), some (.tup [.tup (os.map nD), .tup (bs.map .int), .tup (qs.map tupN)]), some (nD k), some (.obj h), some d.D, some (.tup (c.rooms.map Rm.D)), some (.obj s.length), some (uD (wayU c d)), none, none, none, none, none]) ?_ ?_
    · simp [hdg, hh, hfu]
    rintro l s' ⟨rfl, rfl⟩
    have ho := goings_out M (by omega) hub (os := os) (by omega)
    rw [W_sSeq]; simp [-W_sSeq, -W_sIf, ho]
    have hkp := keeping M T hos hob (by omega) (us := leftL c d os) hqs
    rw [W_sSeq]; refine W_cut (fun l s' => s' = rset ca S s.length (s.length + 1) h kk c.szs x1.bs x1.a x1.es ∧ l = [some (Ch.D c), some (.tup [.tup (os.map nD), .tup (bs.map .int), .tup (qs.map tupN)]), some (nD k), some (.obj h), some d.D, some (.tup (c.rooms.map Rm.D)), some (.obj s.length), some (uD (wayU c d)), some (.lst ((leftL c d os).map nD)), some (.tup ((keptL' c d os qs).map tupN)), none, none, none]) ?_ ?_
    · have := hkp (rset ca S s.length (s.length + 1) h kk c.szs x1.bs x1.a x1.es)
      simp [leftL] at this
      simp [leftL, this, keptL', keptN, Function.comp_def]
    rintro l s' ⟨rfl, rfl⟩
    have hleft : ∀ x ∈ leftL c d os, x < c.ds.length := fun x hx => by
      unfold leftL outL at hx
      have := (List.mem_filter.mp hx).1
      exact hob x (by simpa using this)
    have hleftl : (leftL c d os).length ≤ 40 := by
      unfold leftL outL
      have := List.length_filter_le (inP c.ds (wayU c d)) os.reverse
      simp at this ⊢
      omega
    -- the rooms left
    rw [W_sSeq]; refine W_cut (fun l s' => ∃ x : Re, x = outsE m c.szs c.rooms (leftL c d os) x1 ∧ x.bs.length = c.boxes.length ∧ x.es.length ≤ 1 + 9 * 40 ∧ s' = rset ca S s.length (s.length + 1) h kk c.szs x.bs x.a x.es ∧ ∃ z, l = [some (Ch.D c), some (.tup [.tup (os.map nD), .tup (bs.map .int), .tup (qs.map tupN)]), some (nD k), some (.obj h), some d.D, some (.tup (c.rooms.map Rm.D)), some (.obj s.length), some (uD (wayU c d)), some (.lst ((leftL c d os).map nD)), some (.tup ((keptL' c d os qs).map tupN)), z, none, none]) ?_ ?_
    · rw [W_sFor]; simp [-W_sSeq, -W_sIf]
      refine W_forM nD (leftL c d os) (fun dn l s' => ∃ x : Re, x = outsE m c.szs c.rooms dn x1 ∧ x.bs.length = c.boxes.length ∧ x.es.length ≤ 1 + 9 * dn.length ∧ s' = rset ca S s.length (s.length + 1) h kk c.szs x.bs x.a x.es ∧ ∃ z, l = [some (Ch.D c), some (.tup [.tup (os.map nD), .tup (bs.map .int), .tup (qs.map tupN)]), some (nD k), some (.obj h), some d.D, some (.tup (c.rooms.map Rm.D)), some (.obj s.length), some (uD (wayU c d)), some (.lst ((leftL c d os).map nD)), some (.tup ((keptL' c d os qs).map tupN)), z, none, none]) ?_ ?_ ?_
      · exact ⟨x1, rfl, l1b, by omega, rfl, none, rfl⟩
      · rintro dn r rest l s' he ⟨x, hx, hxb, hxe, rfl, z, rfl⟩
        have hr : r < c.rooms.length := by have := hleft r (by rw [he]; simp); omega
        have hdl2 : dn.length ≤ 40 := by
          have := congrArg List.length he
          simp at this
          omega
        have RO := C.rooms _ (List.getElem_mem hr)
        have hro : rmOuts c.rooms r = c.rooms[r].outs := by unfold rmOuts; rw [List.getElem?_eq_getElem hr]; rfl
        have st := hst x hxb (by omega) RO.outs "out" r
        have e1 : outsE m c.szs c.rooms (dn ++ [r]) x1 = stepE m c.szs x "out" r c.rooms[r].outs := by rw [hx, ← hro]; simp [outsE]
        have sl := stepE_len m c.szs x "out" r c.rooms[r].outs
        have hdo := RO.outs.1
        rw [tg1W]
        simp [hI]
        rw [getI_g hr]
        simp [st]
        rw [e1]
        exact ⟨by rw [sl.1]; exact hxb, by rw [sl.2]; omega, rfl⟩
      · rintro l s' ⟨x, hx, hxb, hxe, rfl, z, rfl⟩
        subst hx
        exact ⟨hxb, by omega, rfl, z, rfl⟩
    rintro l s' ⟨x2, hx2, l2b, l2e, rfl, z, rfl⟩
    obtain ⟨x3, hx3⟩ : ∃ x3, x3 = stepE m c.szs x2 "through" k d.dd := ⟨_, rfl⟩
    have s3 := hst x2 l2b (by omega) DO.dd "through" k
    have l3 := stepE_len m c.szs x2 "through" k d.dd
    rw [← hx3] at s3 l3
    have hddl := DO.dd.1
    rw [W_sSeq]; simp [-W_sSeq, -W_sIf, hI, s3]
    have hgl := goals_of (c := c) (kept := keptL' c d os qs) (by simp [keptL', keptN, hlen]) hq2 hk (by rw [hd]; exact DO.way)
    rw [hd] at hgl
    have hgi := goings_in M T (gs := goalsD (keptL' c d os qs) d) hub
    rw [W_sSeq]; simp [-W_sSeq, -W_sIf, hgl, hgi]
    have hgone : ∀ x ∈ goneL c d os qs, x < c.ds.length := fun x hx => goU_in T hub x hx
    have hgonel : (goneL c d os qs).length ≤ 41 := goU_len T hub
    rw [show goU c.rooms c.ds (goalsD (keptL' c d os qs) d) (wayU c d) = goneL c d os qs from rfl]
    rw [W_sSeq]; refine W_cut (fun l s' => ∃ x : Re, x = insE m c.szs c.rooms (goneL c d os qs) x3 ∧ s' = rset ca S s.length (s.length + 1) h kk c.szs x.bs x.a x.es ∧ ∃ z, l = [some (Ch.D c), some (.tup [.tup (os.map nD), .tup (bs.map .int), .tup (qs.map tupN)]), some (nD k), some (.obj h), some d.D, some (.tup (c.rooms.map Rm.D)), some (.obj s.length), some (uD (wayU c d)), some (.lst ((leftL c d os).map nD)), some (.tup ((keptL' c d os qs).map tupN)), z, some (.lst ((goneL c d os qs).map nD)), none]) ?_ ?_
    · rw [W_sFor]; simp [-W_sSeq, -W_sIf]
      refine W_forM nD (goneL c d os qs) (fun dn l s' => ∃ x : Re, x = insE m c.szs c.rooms dn x3 ∧ x.bs.length = c.boxes.length ∧ x.es.length ≤ 400 + 9 * dn.length ∧ s' = rset ca S s.length (s.length + 1) h kk c.szs x.bs x.a x.es ∧ ∃ z, l = [some (Ch.D c), some (.tup [.tup (os.map nD), .tup (bs.map .int), .tup (qs.map tupN)]), some (nD k), some (.obj h), some d.D, some (.tup (c.rooms.map Rm.D)), some (.obj s.length), some (uD (wayU c d)), some (.lst ((leftL c d os).map nD)), some (.tup ((keptL' c d os qs).map tupN)), z, some (.lst ((goneL c d os qs).map nD)), none]) ?_ ?_ ?_
      · exact ⟨x3, rfl, by rw [l3.1]; exact l2b, by rw [l3.2]; omega, rfl, z, rfl⟩
      · rintro dn r rest l s' he ⟨x, hx, hxb, hxe, rfl, z, rfl⟩
        have hr : r < c.rooms.length := by have := hgone r (by rw [he]; simp); omega
        have hdl2 : dn.length ≤ 41 := by
          have := congrArg List.length he
          simp at this
          omega
        have RO := C.rooms _ (List.getElem_mem hr)
        have hro : rmIns c.rooms r = c.rooms[r].ins := by unfold rmIns; rw [List.getElem?_eq_getElem hr]; rfl
        have st := hst x hxb (by omega) RO.ins "in" r
        have e1 : insE m c.szs c.rooms (dn ++ [r]) x3 = stepE m c.szs x "in" r c.rooms[r].ins := by rw [hx, ← hro]; simp [insE]
        have sl := stepE_len m c.szs x "in" r c.rooms[r].ins
        have hdo := RO.ins.1
        rw [tg1W]
        simp [hI]
        rw [getI_g hr]
        simp [st]
        rw [e1]
        exact ⟨by rw [sl.1]; exact hxb, by rw [sl.2]; omega, rfl⟩
      · rintro l s' ⟨x, hx, hxb, hxe, rfl, z, rfl⟩
        subst hx
        exact ⟨rfl, z, rfl⟩
    rintro l s' ⟨x4, hx4, rfl, z, rfl⟩
    rw [W_sSeq]; refine W_cut (fun l s' => s' = rset ca S s.length (s.length + 1) h kk c.szs x4.bs x4.a x4.es ∧ ∃ z, l = [some (Ch.D c), some (.tup [.tup (os.map nD), .tup (bs.map .int), .tup (qs.map tupN)]), some (nD k), some (.obj h), some d.D, some (.tup (c.rooms.map Rm.D)), some (.obj s.length), some (uD (wayU c d)), some (.lst ((leftL c d os).map nD)), some (.tup ((keptL' c d os qs).map tupN)), z, some (.lst ((goneL c d os qs).map nD)), some (.lst ((restL c d os).map nD))]) ?_ ?_
    · simp
      refine W_compG os nD nD (fun k => !decide (k ∈ leftL c d os)) (by omega) ?_ ?_
      · intro y hy
        simp [wipeD]
        rw [o_notL']
        simp
      · simp [restL]
    rintro l s' ⟨rfl, z, rfl⟩
    have h64' : (restL c d os).length + (goneL c d os qs).length < 64 := by simpa using h64
    simp [-List.map_append]
    refine ⟨by omega, ?_⟩
    rw [← List.map_append, o_sorted, sortN_D]
    simp [hI]
    refine ⟨h64', x4, sortN (restL c d os ++ goneL c d os qs), keptL' c d os qs, ⟨rfl, rfl, rfl, rfl⟩, ?_⟩
    rw [if_neg hw]
    exact ⟨by rw [hx4, hx3, hx2, hx1]; rfl, rfl, rfl⟩
  obtain ⟨r, s', h1, x, os', qs', ⟨rfl, rfl⟩, h2⟩ := main.ok
  exact ⟨x, os', qs', h1, h2⟩
end
end Law

namespace Law
open PySem Vx
/-- a stand -/
structure St where
  op : List Nat
  held : List Int
  kept : List (List Nat)
def St.D (st : St) : D := .tup [.tup (st.op.map nD), .tup (st.held.map .int), .tup (st.kept.map tupN)]
section
variable {P : D → Prop} {st : St}
@[simp] theorem st_0 : OW (gIx (St.D st) (.int 0)) P ↔ P (.tup (st.op.map nD)) := by simp [St.D]
@[simp] theorem st_1 : OW (gIx (St.D st) (.int 1)) P ↔ P (.tup (st.held.map .int)) := by simp [St.D]
@[simp] theorem st_2 : OW (gIx (St.D st) (.int 2)) P ↔ P (.tup (st.kept.map tupN)) := by simp [St.D]
end
end Law

namespace Law
open PySem Vx
/-! stands as far as a turn needs them; a door passed -/
structure StW (c : Ch) (st : St) : Prop where
  rise : st.op.Pairwise (· < ·)
  lt : ∀ x ∈ st.op, x < c.ds.length
  hl : st.held.length = c.boxes.length
  kl : st.kept.length = c.ds.length
  kq : ∀ q ∈ st.kept, q.length ≤ 40 ∧ ∀ x ∈ q, x < c.ds.length
theorem len_lt : ∀ {xs : List Nat} {n : Nat}, xs.Pairwise (· < ·) → (∀ x ∈ xs, x < n) → xs.length ≤ n := by
  intro xs n h1 h2
  have h3 : xs.Nodup := h1.imp fun h => Nat.ne_of_lt h
  have h4 : xs ⊆ List.range n := fun x hx => List.mem_range.mpr (h2 x hx)
  have := h3.length_le_of_subset h4
  simpa using this
theorem insI_le (i : Int) : ∀ r : List Int, r.Pairwise (· ≤ ·) → (insI i r).Pairwise (· ≤ ·) := by
  intro r
  induction r with
  | nil => intro _; simp [insI]
  | cons j r ih =>
    intro h
    obtain ⟨h1, h2⟩ := List.pairwise_cons.mp h
    unfold insI
    split
    · rename_i hc
      refine List.pairwise_cons.mpr ⟨fun x hx => ?_, h⟩
      rcases List.mem_cons.mp hx with rfl | hx
      · exact hc
      · exact Int.le_trans hc (h1 x hx)
    · rename_i hc
      refine List.pairwise_cons.mpr ⟨fun x hx => ?_, ih h2⟩
      have hx := (insI_perm0 i r).mem_iff.mp hx
      rcases List.mem_cons.mp hx with rfl | hx
      · omega
      · exact h1 x hx
theorem sortI_le : ∀ r : List Int, (sortI r).Pairwise (· ≤ ·)
  | [] => .nil
  | i :: r => insI_le i _ (sortI_le r)
theorem sortN_rise {us : List Nat} (h : us.Nodup) : (sortN us).Pairwise (· < ·) := by
  have hp := sortN_perm us
  have hn : (sortN us).Nodup := hp.nodup_iff.mpr h
  have hle : (sortN us).Pairwise (· ≤ ·) := by
    unfold sortN
    have hs := sortI_le (us.map fun x : Nat => (x : Int))
    have hz : ∀ x ∈ sortI (us.map fun x : Nat => (x : Int)), 0 ≤ x := fun x hx => by
      have := (sortI_perm0 _).mem_iff.mp hx
      obtain ⟨y, _, rfl⟩ := List.mem_map.mp this
      omega
    generalize sortI (us.map fun x : Nat => (x : Int)) = zs at hs hz
    rw [List.pairwise_map]
    refine hs.imp_of_mem ?_
    intro a b ha hb h
    have := hz a ha
    have := hz b hb
    omega
  exact (hle.and hn).imp fun ⟨h1, h2⟩ => by omega
/-- a stand, the letters that wait, a record -/
structure Pt where
  st : St
  a : List Nat
  es : List En
def passF (c : Ch) (m k : Nat) (d : Dr) (st : St) (a : List Nat) : Pt :=
  if d.way = "stay" then ⟨⟨st.op, (stayE c m k d ⟨st.held, a, []⟩).bs, st.kept⟩, (stayE c m k d ⟨st.held, a, []⟩).a, (stayE c m k d ⟨st.held, a, []⟩).es⟩
  else ⟨⟨sortN (restL c d st.op ++ goneL c d st.op st.kept), (moveE c m k d st.op st.kept ⟨st.held, a, []⟩).bs, keptL' c d st.op st.kept⟩, (moveE c m k d st.op st.kept ⟨st.held, a, []⟩).a, (moveE c m k d st.op st.kept ⟨st.held, a, []⟩).es⟩
theorem stepE_a {m : Nat} {zs : List Int} {x : Re} {w : Str} {n : Nat} {ds : List Dd} (h : x.a.length ≤ m) : (stepE m zs x w n ds).a.length ≤ m := runR_a ds ⟨x.bs, x.a, []⟩ h
/-- what goes on along a row of rooms -/
structure Wk (x y : Re) (m n : Nat) : Prop where
  bs : y.bs.length = x.bs.length
  es : y.es.length ≤ x.es.length + 9 * n
  a : x.a.length ≤ m → y.a.length ≤ m
theorem Wk.refl (x : Re) (m : Nat) : Wk x x m 0 := ⟨rfl, by omega, id⟩
theorem Wk.trans {x y z : Re} {m n k : Nat} (h : Wk x y m n) (h' : Wk y z m k) : Wk x z m (n + k) :=
  ⟨by rw [h'.bs, h.bs], by have := h.es; have := h'.es; omega, fun q => h'.a (h.a q)⟩
theorem Wk.step (m : Nat) (zs : List Int) (x : Re) (w : Str) (n : Nat) {ds : List Dd} (hd : ds.length ≤ 8) : Wk x (stepE m zs x w n ds) m 1 :=
  ⟨(stepE_len m zs x w n ds).1, by rw [(stepE_len m zs x w n ds).2]; omega, stepE_a⟩
theorem Wk.outs {m : Nat} {zs : List Int} {rs : List Rm} (h : ∀ r, (rmOuts rs r).length ≤ 8) : ∀ (us : List Nat) (x : Re), Wk x (outsE m zs rs us x) m us.length
  | [], x => .refl x m
  | r :: us, x => by
    have := (Wk.step m zs x "out" r (h r)).trans (Wk.outs (zs := zs) h us (stepE m zs x "out" r (rmOuts rs r)))
    rw [Nat.add_comm] at this
    exact this
theorem Wk.ins {m : Nat} {zs : List Int} {rs : List Rm} (h : ∀ r, (rmIns rs r).length ≤ 8) : ∀ (us : List Nat) (x : Re), Wk x (insE m zs rs us x) m us.length
  | [], x => .refl x m
  | r :: us, x => by
    have := (Wk.step m zs x "in" r (h r)).trans (Wk.ins (zs := zs) h us (stepE m zs x "in" r (rmIns rs r)))
    rw [Nat.add_comm] at this
    exact this
section
variable {c : Ch} (C : ChOk c)
include C
theorem outs8 (r : Nat) : (rmOuts c.rooms r).length ≤ 8 := by
  unfold rmOuts
  rcases h : c.rooms[r]? with _ | x
  · simp
  · obtain ⟨hr, rfl⟩ := List.getElem?_eq_some_iff.mp h
    exact (C.rooms _ (List.getElem_mem hr)).outs.1
theorem ins8 (r : Nat) : (rmIns c.rooms r).length ≤ 8 := by
  unfold rmIns
  rcases h : c.rooms[r]? with _ | x
  · simp
  · obtain ⟨hr, rfl⟩ := List.getElem?_eq_some_iff.mp h
    exact (C.rooms _ (List.getElem_mem hr)).ins.1
theorem wayU_lt {d : Dr} (D : DrOk c.boxes.length c.evs.length c.szs c.rooms d) : ∀ y, wayU c d = some y → y < c.ds.length := fun y hy => by
  unfold wayU hallO at hy
  have T := C.tree
  have M : Rms c.rooms c.ds := ⟨rfl⟩
  have hrm := D.rm
  have hlen := M.len
  have hmem := List.mem_of_mem_head? hy
  have := (List.mem_filter.mp hmem).1
  exact Nat.lt_of_le_of_lt (Nat.le_of_lt (anc_lt T d.rm _ (by omega) this)) (show d.rm < c.ds.length by omega)
/-- the rooms gone into lie in the hall -/
theorem gone_in {gs : List Nat} {u : Option Nat} (hl : ∀ x, u = some x → x < c.ds.length) {k : Nat} (h : k ∈ goU c.rooms c.ds gs u) : inP c.ds u k = true := by
  have T := C.tree
  have hk : k < c.ds.length := goU_in T hl k h
  cases u with
  | none => rfl
  | some u =>
    have hu := hl u rfl
    show lies c.ds k u = true
    rw [lies_met T hu k hk]
    induction k using Nat.strongRecOn with
    | ind k ih =>
      rcases (go_iff T hl hk).mp h with ⟨rfl, e⟩ | ⟨h0, h1, _⟩
      · cases e
      · rcases h1 with h1 | h1
        · have h1 := Option.some.inj h1
          rw [← h1]
          exact .here h0
        · have hp := (par_spec T h0 hk).1
          exact .up h0 (ih _ hp (by omega) h1)
theorem rest_eq (d : Dr) (os : List Nat) : restL c d os = os.filter fun k => !inP c.ds (wayU c d) k := by
  unfold restL leftL outL
  apply List.filter_congr
  intro k hk
  simp [hk]
theorem next_nodup {d : Dr} (D : DrOk c.boxes.length c.evs.length c.szs c.rooms d) {os : List Nat} (hos : os.Pairwise (· < ·)) (gs : List Nat) : (restL c d os ++ goU c.rooms c.ds gs (wayU c d)).Nodup := by
  have hl := wayU_lt C D
  have T := C.tree
  rw [rest_eq C]
  refine List.nodup_append.mpr ⟨(hos.imp fun h => Nat.ne_of_lt h).filter _, (goU_sorted T hl).imp fun h => Nat.ne_of_lt h, ?_⟩
  rintro a ha b hb rfl
  have h1 := gone_in C hl hb
  have h2 := (List.mem_filter.mp ha).2
  rw [h1] at h2
  cases h2
theorem next_lt {d : Dr} (D : DrOk c.boxes.length c.evs.length c.szs c.rooms d) {os : List Nat} (hos : ∀ x ∈ os, x < c.ds.length) (gs : List Nat) : ∀ x ∈ restL c d os ++ goU c.rooms c.ds gs (wayU c d), x < c.ds.length := fun x hx => by
  have hl := wayU_lt C D
  have T := C.tree
  rcases List.mem_append.mp hx with h | h
  · exact hos x (List.mem_filter.mp h).1
  · exact goU_in T hl x h
theorem nd_len {xs : List Nat} {n : Nat} (h3 : xs.Nodup) (h2 : ∀ x ∈ xs, x < n) : xs.length ≤ n := by
  have h4 : xs ⊆ List.range n := fun x hx => List.mem_range.mpr (h2 x hx)
  have := h3.length_le_of_subset h4
  simpa using this
variable {st : St} (S : StW c st)
include S
theorem StW.len : st.op.length ≤ 40 := by
  have := C.tree.le
  have := len_lt S.rise S.lt
  omega
theorem kept_ok (d : Dr) : ∀ q ∈ keptL' c d st.op st.kept, q.length ≤ 40 ∧ ∀ x ∈ q, x < c.ds.length := by
  intro q hq
  have hl := S.len C
  have sub : ∀ p : Nat → Bool, (st.op.filter p).length ≤ 40 ∧ ∀ x ∈ st.op.filter p, x < c.ds.length := fun p => by
    have := List.length_filter_le p st.op
    exact ⟨by omega, fun x hx => S.lt x (List.mem_filter.mp hx).1⟩
  have old : ∀ r : Nat, ((st.kept[r]?).getD []).length ≤ 40 ∧ ∀ x ∈ (st.kept[r]?).getD [], x < c.ds.length := fun r => by
    rcases h : st.kept[r]? with _ | q
    · simp
    · exact S.kq q (List.mem_of_getElem? h)
  unfold keptL' keptN at hq
  obtain ⟨r, hr, rfl⟩ := List.mem_map.mp hq
  split
  · unfold keptL
    split
    · exact sub _
    · split
      · exact sub _
      · exact old r
  · exact old r
theorem passF_ok {k m : Nat} {d : Dr} (hd : d ∈ c.doors) (a : List Nat) : StW c (passF c m k d st a).st ∧ (passF c m k d st a).es.length ≤ 1000 ∧ (a.length ≤ m → (passF c m k d st a).a.length ≤ m) := by
  have D := C.doors.2 d hd
  have hdd := D.dd.1
  unfold passF
  split
  · have w := (Wk.step m c.szs ⟨st.held, a, []⟩ "door" k (ds := []) (by simp)).trans (Wk.step m c.szs (stepE m c.szs ⟨st.held, a, []⟩ "door" k []) "through" k hdd)
    refine ⟨⟨S.rise, S.lt, ?_, S.kl, S.kq⟩, ?_, fun h => ?_⟩
    · exact w.bs.trans S.hl
    · have := w.es
      show (stayE c m k d ⟨st.held, a, []⟩).es.length ≤ 1000
      unfold stayE
      simp at this
      omega
    · exact w.a h
  · have hl := S.len C
    have T := C.tree
    have hle := T.le
    have hll : (leftL c d st.op).length ≤ 40 := by
      unfold leftL outL
      have := List.length_filter_le (inP c.ds (wayU c d)) st.op.reverse
      simp at this ⊢
      omega
    have hgl : (goneL c d st.op st.kept).length ≤ 41 := goU_len T (wayU_lt C D)
    have w := (((Wk.step m c.szs ⟨st.held, a, []⟩ "door" k (ds := []) (by simp)).trans (Wk.outs (zs := c.szs) (outs8 C) (leftL c d st.op) _)).trans (Wk.step m c.szs _ "through" k hdd)).trans (Wk.ins (zs := c.szs) (ins8 C) (goneL c d st.op st.kept) _)
    have nn := next_nodup C D S.rise (goalsD (keptL' c d st.op st.kept) d)
    have nl := next_lt C D S.lt (goalsD (keptL' c d st.op st.kept) d)
    refine ⟨⟨sortN_rise nn, fun x hx => nl x ((sortN_perm _).mem_iff.mp hx), ?_, ?_, kept_ok C S d⟩, ?_, fun h => ?_⟩
    · exact w.bs.trans S.hl
    · show (keptL' c d st.op st.kept).length = _
      simp [keptL', keptN]
    · have := w.es
      show (moveE c m k d st.op st.kept ⟨st.held, a, []⟩).es.length ≤ 1000
      unfold moveE
      simp at this
      omega
    · exact w.a h
theorem passedP {ca : Nat → Nat} {s : Sto} {h kk m : Nat} {a : List Nat} (L : LAt ca s h kk m a) (hm : m ≤ 1000) {k : Nat} (hk : k < c.doors.length) :
    ∃ ob, m_passed ca [Ch.D c, st.D, nD k, .obj h] s = .ok (.tup [(passF c m k c.doors[k] st a).st.D, .obj (s.length + 1)]) (s.set kk (.lst ((passF c m k c.doors[k] st a).a.map nD)) ++ [ob, .lst ((passF c m k c.doors[k] st a).es.map En.D)]) := by
  have T := C.tree
  have hle := T.le
  have D := C.doors.2 _ (List.getElem_mem hk)
  have nn := next_nodup C D S.rise (goalsD (keptL' c c.doors[k] st.op st.kept) c.doors[k])
  have nl := next_lt C D S.lt (goalsD (keptL' c c.doors[k] st.op st.kept) c.doors[k])
  have h64 := nd_len C nn nl
  obtain ⟨x, os', qs', h1, h2⟩ := passedW C L hm S.rise S.lt (S.len C) S.hl S.kl hk (fun q hq => by have := (kept_ok C S _ q hq).1; omega) (show (restL c c.doors[k] st.op ++ goneL c c.doors[k] st.op st.kept).length < 64 by unfold goneL; omega)
  have lk := (List.getElem?_eq_some_iff.mp L.j).1
  have hs : rset ca (roadS ca s h c.szs st.held) s.length (s.length + 1) h kk c.szs x.bs x.a x.es = s.set kk (.lst (x.a.map nD)) ++ [.ins (ca 1) [("sizes", .tup (c.szs.map .int)), ("boxes", .tup (x.bs.map .int)), ("letters", .obj h), ("record", .obj (s.length + 1))], .lst (x.es.map En.D)] := by
    unfold rset roadS
    rw [List.set_append_left _ _ lk]
    rw [List.set_append_right _ _ (by simp)]
    rw [List.set_append_right _ _ (by simp)]
    simp
  rw [hs] at h1
  refine ⟨.ins (ca 1) [("sizes", .tup (c.szs.map .int)), ("boxes", .tup (x.bs.map .int)), ("letters", .obj h), ("record", .obj (s.length + 1))], h1.trans ?_⟩
  unfold passF
  split at h2
  · rename_i hw
    rw [if_pos hw]
    obtain ⟨rfl, rfl, rfl⟩ := h2
    rfl
  · rename_i hw
    rw [if_neg hw]
    obtain ⟨rfl, rfl, rfl⟩ := h2
    rfl
end
end Law

namespace Vx
open PySem
/-! loops and comprehensions over a list of the store, + of such lists -/
@[simp] theorem W_sForO {N : Sl → Sto → Prop} {R : D → Sto → Prop} {B C : Sl → Sto → Prop} {X : Ex → Sl → Sto → Prop} {l : Sl} {s : Sto} (o : FE) (g : D → Sl → Option Sl) (b : FS) : (sForO o g b l s).W N R B C X ↔ (o l s).S (fun x s => (forO g b x bigN 0 l s).W N R B C X) (fun e s => X e l s) := by
  unfold sForO; rw [W_fl]
@[simp] theorem w_mCompO {P : D → Sto → Prop} {E : Ex → Sto → Prop} {l : Sl} {s : Sto} (o : FE) (g : D → Sl → Option Sl) (t : FT) (e : FE) (vs : List Nat) : (mCompO o g t e vs l s).S P E ↔ (o l s).S (fun x s => (compO g t e (wipeD l vs) x bigN 0 [] s).S P E) E := by
  unfold mCompO; rw [w_bind]
/-- the list stays as it is -/
theorem W_forO {α : Type} {g : D → Sl → Option Sl} {b : FS} {R : D → Sto → Prop} {N B C : Sl → Sto → Prop} {X : Ex → Sl → Sto → Prop} {x : D} {m : Nat} (enc : α → D) (as : List α) (I : List α → Sl → Sto → Prop) {l : Sl} {s : Sto} (hl : as.length ≤ 5000000)
    (hx : ∀ dn l s, I dn l s → lstAt s x = some (m, as.map enc))
    (h0 : I [] l s)
    (step : ∀ (dn : List α) (y : α) (rest : List α) (l : Sl) (s : Sto), as = dn ++ y :: rest → I dn l s → OW (g (enc y) l) fun l1 => (b l1 s).W (I (dn ++ [y])) R N (I (dn ++ [y])) X)
    (fin : ∀ (l : Sl) (s : Sto), I as l s → N l s) : (forO g b x bigN 0 l s).W N R B C X := by
  have key : ∀ (n i : Nat) (l : Sl) (s : Sto), i ≤ as.length → as.length - i < n → I (as.take i) l s → (forO g b x n i l s).W N R B C X := by
    intro n
    induction n with
    | zero => intro i _ _ _ h; omega
    | succ n ih =>
      intro i l s hi hn hI
      unfold forO
      rw [hx _ _ _ hI]
      by_cases hlt : i < as.length
      · have e1 : (as.map enc)[i]? = some (enc as[i]) := by rw [List.getElem?_map, List.getElem?_eq_getElem hlt]; rfl
        simp only [e1]
        have ed : as = as.take i ++ as[i] :: as.drop (i + 1) := by
          conv => lhs; rw [← List.take_append_drop i as, List.drop_eq_getElem_cons hlt]
        have e2 : as.take i ++ [as[i]] = as.take (i + 1) := by
          rw [List.take_add_one, List.getElem?_eq_getElem hlt]; rfl
        obtain ⟨l1, hg, hb⟩ := (OW_iff _ _).mp (step _ _ _ l s ed hI)
        rw [e2] at hb
        simp only [hg]
        cases hbb : b l1 s with
        | nx l2 s2 =>
          rw [hbb] at hb
          simp only [W_nx] at hb ⊢
          exact ih (i + 1) l2 s2 (by omega) (by omega) hb
        | ct l2 s2 =>
          rw [hbb] at hb
          have hb : I (as.take (i + 1)) l2 s2 := by with_unfolding_all exact hb
          exact ih (i + 1) l2 s2 (by omega) (by omega) hb
        | bk l2 s2 =>
          rw [hbb] at hb
          have hb : N l2 s2 := by with_unfolding_all exact hb
          simp only [W_nx]
          exact hb
        | rt d2 s2 =>
          rw [hbb] at hb
          simp only [W_rt] at hb ⊢
          exact hb
        | ex e l2 s2 =>
          rw [hbb] at hb
          with_unfolding_all exact hb
        | no =>
          rw [hbb] at hb
          simp only [W_no] at hb
      · have e1 : (as.map enc)[i]? = none := by rw [List.getElem?_eq_none_iff]; simp; omega
        simp only [e1]
        rw [List.take_of_length_le (by omega)] at hI
        rw [W_nx]
        exact fin l s hI
  exact key bigN 0 l s (by omega) (by unfold bigN; omega) h0
theorem W_compOG {α : Type} {g : D → Sl → Option Sl} {t : FT} {e : FE} {l : Sl} {s : Sto} {P : D → Sto → Prop} {E : Ex → Sto → Prop} {x : D} {m : Nat} (as : List α) (enc f : α → D) (p : α → Bool) (hl : as.length ≤ 5000000) (hx : lstAt s x = some (m, as.map enc))
    (h : ∀ a ∈ as, OW (g (enc a) l) fun l1 => (t l1 s).S (fun b s' => s = s' ∧ b = p a ∧ (p a = true → (e l1 s).S (fun y s' => s = s' ∧ y = f a) NoE)) NoE)
    (hP : P (.lst ((as.filter p).map f)) s) : (compO g t e l x bigN 0 [] s).S P E := by
  have key : ∀ (n i : Nat), i ≤ as.length → as.length - i < n → (compO g t e l x n i (((as.take i).filter p).map f) s).S P E := by
    intro n
    induction n with
    | zero => intro i _ h; omega
    | succ n ih =>
      intro i hi hn
      unfold compO
      rw [hx]
      by_cases hlt : i < as.length
      · have e1 : (as.map enc)[i]? = some (enc as[i]) := by rw [List.getElem?_map, List.getElem?_eq_getElem hlt]; rfl
        simp only [e1]
        obtain ⟨l1, hg, hs⟩ := (OW_iff _ _).mp (h as[i] (List.getElem_mem _))
        simp only [hg]
        have ht : ∃ b s', t l1 s = .ok b s' ∧ s = s' ∧ b = p as[i] ∧ (p as[i] = true → (e l1 s).S (fun y s' => s = s' ∧ y = f as[i]) NoE) := by
          cases q : t l1 s with
          | ok b s' => rw [q] at hs; exact ⟨b, s', rfl, by simpa using hs⟩
          | ex b s' => rw [q] at hs; rw [w_ex] at hs; exact False.elim hs
          | no => rw [q] at hs; simp at hs
        obtain ⟨b, s', ht, rfl, rfl, he⟩ := ht
        have e3 : as.take (i + 1) = as.take i ++ [as[i]] := by
          rw [List.take_add_one, List.getElem?_eq_getElem hlt]; rfl
        have ih := ih (i + 1) (by omega) (by omega)
        rw [e3, List.filter_append, List.map_append] at ih
        rw [w_bind, w_nox, ht, w_ok]
        cases hp : p as[i] with
        | false =>
          rw [if_neg (by decide)]
          simp only [List.filter_cons, hp, List.filter_nil] at ih
          simpa using ih
        | true =>
          rw [if_pos rfl]
          obtain ⟨y, s', h1, rfl, rfl⟩ := (he hp).ok
          have hz : (((as.take i).filter p).map f).length < 16777216 := by
            have := List.length_filter_le p (as.take i)
            rw [List.length_map]
            rw [List.length_take] at this
            omega
          rw [w_bind, w_nox, h1, w_ok, if_pos hz]
          simp only [List.filter_cons, hp, List.filter_nil, if_true, List.map_cons, List.map_nil] at ih
          exact ih
      · have e1 : (as.map enc)[i]? = none := by rw [List.getElem?_eq_none_iff]; simp; omega
        simp only [e1]
        rw [List.take_of_length_le (by omega), w_ok]
        exact hP
  have := key bigN 0 (by omega) (by unfold bigN; omega)
  simpa using this
end Vx

namespace Law
open PySem Vx
theorem law_lies {rs : List Rm} {ds : List Nat} (M : Rms rs ds) (hl : ds.length ≤ 100) {a b : Nat} (ha : a < ds.length) (hb : b < ds.length) (s : Sto) : m__law_lies [.tup (rs.map Rm.D), nD a, nD b] s = .ok (.bl (lies ds a b)) s := by
  have hlen := M.len
  have h : (m__law_lies [.tup (rs.map Rm.D), nD a, nD b] s).S (fun d s' => s = s' ∧ d = .bl (lies ds a b)) NoE := by
    unfold m__law_lies b__law_lies
    simp only [w_mDef, startD]
    refine ⟨rfl, ?_⟩
    rw [W_sSeq]; refine W_ifD (decide (a ≤ b)) (by simp) ?_
    split
    · rename_i h
      have h := of_decide_eq_true h
      simp
      have : ¬ lies ds a b = true := fun h1 => by
        rw [lies_iff hb ha] at h1; omega
      simpa using this
    rename_i h
    have h : b < a := by
      have := of_decide_eq_false (by simpa using h : decide (a ≤ b) = false)
      omega
    rw [W_sNil, W_sSeq, W_sFor]; simp [-W_sSeq, -W_sIf]
    refine ⟨by omega, W_rg _ _ (fun k l s' => s = s' ∧ ∃ (z : Option D), l = [some (.tup (rs.map Rm.D)), some (nD a), some (nD b), z] ∧ ∀ j, b < j → j < b + 1 + k → att ds b < att ds j) ?_ ?_ ?_⟩
    · exact ⟨rfl, none, rfl, fun j h1 h2 => by omega⟩
    · rintro k l s' hk ⟨rfl, z, rfl, hd⟩
      have hk2 : b + 1 + k < ds.length := by omega
      have e : (b : Int) + 1 + (k : Int) = ((b + 1 + k : Nat) : Int) := by omega
      refine W_ifD (decide (att ds (b + 1 + k) ≤ att ds b)) ?_ ?_
      · simp
        rw [getI_gi e (by omega), M.get _ (by omega)]
        try simp
        rw [getI_g (by omega), M.get _ (by omega)]
        try simp
      split
      · rename_i h1
        have h1 := of_decide_eq_true h1
        simp
        have : ¬ lies ds a b = true := fun h2 => by
          rw [lies_iff hb ha] at h2
          have := h2.2 (b + 1 + k) (by omega) (by omega)
          omega
        simpa using this
      · rename_i h1
        simp at h1
        simp
        intro j h2 h3
        rcases Nat.lt_or_ge j (b + 1 + k) with h4 | h4
        · exact hd j h2 h4
        · have : j = b + 1 + k := by omega
          subst this
          exact h1
    · rintro l s' ⟨rfl, z, rfl, hd⟩
      simp
      have : lies ds a b = true := (lies_iff hb ha).mpr ⟨h, fun j h1 h2 => hd j h1 (by omega)⟩
      simpa using this
  obtain ⟨d, s', h1, rfl, rfl⟩ := h.ok
  exact h1
theorem maxI_spec : ∀ (m : Int) (r : List Int), m ≤ maxI m r ∧ (∀ x ∈ r, x ≤ maxI m r) ∧ (maxI m r = m ∨ maxI m r ∈ r)
  | m, [] => ⟨Int.le_refl _, by simp, .inl rfl⟩
  | m, n :: r => by
    obtain ⟨h1, h2, h3⟩ := maxI_spec (if m < n then n else m) r
    have e : maxI m (n :: r) = maxI (if m < n then n else m) r := rfl
    rw [e]
    have h0 : m ≤ (if m < n then n else m) ∧ n ≤ (if m < n then n else m) := by split <;> omega
    refine ⟨by omega, fun x hx => ?_, ?_⟩
    · rcases List.mem_cons.mp hx with rfl | hx
      · omega
      · exact h2 x hx
    · rcases h3 with h3 | h3
      · rw [h3]
        split
        · exact .inr List.mem_cons_self
        · exact .inl rfl
      · exact .inr (List.mem_cons_of_mem _ h3)
/-- max of whole numbers among which is m, none greater -/
theorem o_maxM {us : List Nat} {m : Nat} (hm : m ∈ us) (hu : ∀ x ∈ us, x ≤ m) {P : D → Prop} : OW (gMax1 [.lst (us.map nD)]) P ↔ P (nD m) := by
  cases us with
  | nil => exact absurd hm (by simp)
  | cons h r =>
    rw [List.map_cons, o_max1N]
    obtain ⟨h1, h2, h3⟩ := maxI_spec (h : Int) (r.map fun x : Nat => (x : Int))
    have e : maxI (h : Int) (r.map fun x : Nat => (x : Int)) = (m : Int) := by
      have a1 : maxI (h : Int) (r.map fun x : Nat => (x : Int)) ≤ m := by
        rcases h3 with h3 | h3
        · have := hu h (by simp); omega
        · obtain ⟨x, hx, e⟩ := List.mem_map.mp h3
          have := hu x (by simp [hx])
          omega
      have a2 : (m : Int) ≤ maxI (h : Int) (r.map fun x : Nat => (x : Int)) := by
        rcases List.mem_cons.mp hm with rfl | hm
        · exact h1
        · exact h2 _ (List.mem_map_of_mem hm)
      omega
    rw [e]
end Law

namespace Law
open PySem Vx
/-! the law's hall -/
theorem hallO_last {rs : List Rm} {ds : List Nat} (T : Tree ds) {a b : Nat} (ha : a < ds.length) : hallO rs ds a b = ((List.range ds.length).filter fun k => (rk rs k == Str.ofString "one") && (lies ds a k && lies ds b k)).getLast? := by
  have e : anc ds a = ((List.range ds.length).filter fun k => lies ds a k).reverse := by
    have h1 : (anc ds a).reverse = (List.range ds.length).filter fun k => lies ds a k := by
      apply sorted_ext
      · rw [List.pairwise_reverse]
        exact (anc_sorted T a ha).imp fun h => h
      · exact (List.pairwise_lt_range).filter _
      · intro k
        rw [List.mem_reverse, anc_met T a k ha, List.mem_filter, List.mem_range]
        constructor
        · intro h
          have hk : k < ds.length := by
            have := anc_lt T a k ha ((anc_met T a k ha).mpr h)
            omega
          exact ⟨hk, (lies_met T hk a ha).mpr h⟩
        · rintro ⟨hk, h⟩
          exact (lies_met T hk a ha).mp h
    rw [← h1, List.reverse_reverse]
  unfold hallO
  rw [e, List.filter_reverse, List.head?_reverse, List.filter_filter]
  congr 1
  apply List.filter_congr
  intro k _
  unfold hallP
  rw [Bool.and_comm (lies ds a k), Bool.and_assoc, Bool.and_comm (lies ds b k)]
theorem law_hall {rs : List Rm} {ds : List Nat} (M : Rms rs ds) (T : Tree ds) {a b : Nat} (ha : a < ds.length) (hb : b < ds.length) (s : Sto) : m__law_hall [.tup (rs.map Rm.D), nD a, nD b] s = .ok (uD (hallO rs ds a b)) s := by
  have hle := T.le
  have hlen := M.len
  rw [hallO_last T ha]
  generalize hG : (fun k => (rk rs k == Str.ofString "one") && (lies ds a k && lies ds b k)) = g
  have h : (m__law_hall [.tup (rs.map Rm.D), nD a, nD b] s).S (fun d s' => s = s' ∧ d = uD ((List.range ds.length).filter g).getLast?) NoE := by
    unfold m__law_hall b__law_hall
    simp only [w_mDef, startD]
    refine ⟨rfl, ?_⟩
    rw [W_sSeq]; simp [-W_sSeq]
    rw [W_sSeq, W_sFor]; simp [-W_sSeq, -W_sIf, -W_sFor]
    refine ⟨by omega, W_rg _ _ (fun k l s' => s = s' ∧ ∃ (a4 : Option D), l = [some (.tup (rs.map Rm.D)), some (nD a), some (nD b), some (uD ((List.range k).filter g).getLast?), a4]) ?_ ?_ ?_⟩
    · exact ⟨rfl, none, rfl⟩
    · rintro k l s' hk ⟨rfl, a4, rfl⟩
      have hk : k < ds.length := by omega
      refine W_ifD (g k) ?_ ?_
      · rw [← hG]
        simp
        rw [getI_r (by omega), rk_get]
        by_cases h1 : rk rs k = Str.ofString "one"
        · simp [h1, law_lies M (show ds.length ≤ 100 by omega) ha hk, law_lies M (show ds.length ≤ 100 by omega) hb hk]
          cases lies ds a k <;> simp [law_lies M (show ds.length ≤ 100 by omega) hb hk]
        · simp [h1]
      rw [List.range_succ, List.filter_append, List.filter_cons, List.filter_nil]
      split
      · rename_i h1
        simp [uD]
      · rename_i h1
        rw [W_sNil]
        simp only [List.append_nil]
        exact ⟨by trivial, _, rfl⟩
    · rintro l s' ⟨rfl, a4, rfl⟩
      simp [hlen]
  obtain ⟨d, s', h1, rfl, rfl⟩ := h.ok
  exact h1
end Law

namespace Law
open PySem Vx
/-! what passing a door does, for both ways alike -/
theorem sortN_id {xs : List Nat} (h : xs.Pairwise (· < ·)) : sortN xs = xs :=
  sorted_ext (sortN_rise (h.imp fun h => Nat.ne_of_lt h)) h fun _ => (sortN_perm xs).mem_iff
/-- the rooms left, gone into, what is kept -/
structure Mv where
  us : List Nat
  vs : List Nat
  ks : List (List Nat)
def mvF (c : Ch) (d : Dr) (st : St) : Mv := if d.way = "stay" then ⟨[], [], st.kept⟩ else ⟨leftL c d st.op, goneL c d st.op st.kept, keptL' c d st.op st.kept⟩
def mvX (c : Ch) (m k : Nat) (d : Dr) (v : Mv) (x : Re) : Re :=
  insE m c.szs c.rooms v.vs (stepE m c.szs (outsE m c.szs c.rooms v.us (stepE m c.szs x "door" k [])) "through" k d.dd)
theorem passF_mv (c : Ch) (m k : Nat) (d : Dr) {st : St} (hr : st.op.Pairwise (· < ·)) (a : List Nat) : passF c m k d st a =
    ⟨⟨sortN ((st.op.filter fun k => !decide (k ∈ (mvF c d st).us)) ++ (mvF c d st).vs), (mvX c m k d (mvF c d st) ⟨st.held, a, []⟩).bs, (mvF c d st).ks⟩, (mvX c m k d (mvF c d st) ⟨st.held, a, []⟩).a, (mvX c m k d (mvF c d st) ⟨st.held, a, []⟩).es⟩ := by
  unfold passF mvF
  split
  · have e : (st.op.filter fun k => !decide (k ∈ ([] : List Nat))) ++ [] = st.op := by simp
    simp only
    rw [e, sortN_id hr]
    rfl
  · rfl
end Law

namespace Law
open PySem Vx
/-- an opening -/
structure Opn (rs : List Rm) (ds os : List Nat) : Prop where
  zero : 0 ∈ os
  lt : ∀ k ∈ os, k < ds.length
  up : ∀ k ∈ os, 0 < k → par ds k ∈ os
  all : ∀ p ∈ os, rk rs p = "all" → ∀ k ∈ kidsL ds p, k ∈ os
  one : ∀ p ∈ os, rk rs p ≠ "all" → kidsL ds p ≠ [] → ∃ c ∈ kidsL ds p, c ∈ os ∧ ∀ k ∈ kidsL ds p, k ∈ os → k = c
theorem Met.trans {ds : List Nat} {a b c : Nat} (h : Met ds a b) (k : Met ds b c) : Met ds a c := by
  induction h with
  | here h => exact .up h k
  | up h m ih => exact .up h (ih k)
theorem Met.lt {ds : List Nat} (T : Tree ds) {a b : Nat} (h : Met ds a b) (ha : a < ds.length) : b < a := by
  induction h with
  | here h => exact (par_spec T h ha).1
  | up h m ih =>
    have := (par_spec T h ha).1
    have := ih (by omega)
    omega
theorem Met.pos {ds : List Nat} {a b : Nat} (h : Met ds a b) : 0 < a := by cases h <;> assumption
/-- of two rooms above one the lower lies in the upper -/
theorem Met.comp {ds : List Nat} {a b c : Nat} (h : Met ds a b) (k : Met ds a c) : b = c ∨ Met ds b c ∨ Met ds c b := by
  induction h with
  | here h =>
    rcases (met_cases h).mp k with e | k
    · exact .inl e.symm
    · exact .inr (.inl k)
  | up h m ih =>
    rcases (met_cases h).mp k with e | k
    · subst e; exact .inr (.inr m)
    · exact ih k
end Law

namespace Law
open PySem Vx
section
variable {rs : List Rm} {ds os : List Nat} (T : Tree ds) (O : Opn rs ds os)
include T
theorem kid_met {p k : Nat} (h : k ∈ kidsL ds p) : Met ds k p := by
  obtain ⟨h1, h2, h3⟩ := mem_kids.mp h
  rw [← h3]
  exact .here h2
include O
/-- what stands above an open room is open -/
theorem opn_up : ∀ {a b : Nat}, Met ds a b → a ∈ os → b ∈ os := by
  intro a b h
  induction h with
  | here h => exact fun ha => O.up _ ha h
  | up h m ih => exact fun ha => ih (O.up _ ha h)
/-- an open room with kids has an open kid -/
theorem opn_kid {p : Nat} (hp : p ∈ os) (h : kidsL ds p ≠ []) : ∃ c ∈ kidsL ds p, c ∈ os := by
  by_cases ha : rk rs p = "all"
  · obtain ⟨k, hk⟩ := List.exists_mem_of_ne_nil _ h
    exact ⟨k, hk, O.all p hp ha k hk⟩
  · obtain ⟨c, h1, h2, _⟩ := O.one p hp ha h
    exact ⟨c, h1, h2⟩
/-- beneath an open room with kids stands an open room without -/
theorem opn_leaf : ∀ (m p : Nat), ds.length - p ≤ m → p ∈ os → kidsL ds p ≠ [] → ∃ g ∈ os, Met ds g p ∧ kidsL ds g = []
  | 0, p, h, hp, _ => by have := O.lt p hp; omega
  | m + 1, p, h, hp, hk => by
    obtain ⟨c, h1, h2⟩ := opn_kid T O hp hk
    have hc := kid_dep T h1
    by_cases e : kidsL ds c = []
    · exact ⟨c, h2, kid_met T h1, e⟩
    · obtain ⟨g, g1, g2, g3⟩ := opn_leaf m c (by omega) h2 e
      exact ⟨g, g1, g2.trans (kid_met T h1), g3⟩
end
section
variable {rs : List Rm} {ds gs : List Nat} (T : Tree ds) (hgs : ∀ g ∈ gs, g < ds.length)
include T hgs
theorem bears_iff {k : Nat} (hk : k < ds.length) : bearsB ds k gs = true ↔ ∃ g ∈ gs, g = k ∨ Met ds g k := by
  simp only [bearsB, List.any_eq_true, Bool.or_eq_true, decide_eq_true_eq]
  constructor
  · rintro ⟨g, h1, h2⟩
    exact ⟨g, h1, h2.imp id (lies_met T hk g (hgs g h1)).mp⟩
  · rintro ⟨g, h1, h2⟩
    exact ⟨g, h1, h2.imp id (lies_met T hk g (hgs g h1)).mpr⟩
/-- just one kid bears the goals: it is picked -/
theorem pick_one {p c : Nat} (hc : c ∈ kidsL ds p) (h1 : ∃ g ∈ gs, g = c ∨ Met ds g c) (h2 : ∀ k ∈ kidsL ds p, (∃ g ∈ gs, g = k ∨ Met ds g k) → k = c) : pkN ds gs p = c := by
  have hcl := (mem_kids.mp hc).1
  have hin : c ∈ (kidsL ds p).filter fun k => bearsB ds k gs := List.mem_filter.mpr ⟨hc, (bears_iff T hgs hcl).mpr h1⟩
  unfold pkN
  cases e : (kidsL ds p).filter fun k => bearsB ds k gs with
  | nil => rw [e] at hin; simp at hin
  | cons a t =>
    have ha : a ∈ (kidsL ds p).filter fun k => bearsB ds k gs := by rw [e]; simp
    obtain ⟨a1, a2⟩ := List.mem_filter.mp ha
    exact h2 a a1 ((bears_iff T hgs (mem_kids.mp a1).1).mp a2)
/-- no kid bears a goal: the first is picked -/
theorem pick_none {p : Nat} (hp : p < ds.length) (hk : kidsL ds p ≠ []) (h2 : ∀ k ∈ kidsL ds p, ¬ ∃ g ∈ gs, g = k ∨ Met ds g k) : pkN ds gs p = p + 1 := by
  have e : (kidsL ds p).filter (fun k => bearsB ds k gs) = [] := by
    rw [List.filter_eq_nil_iff]
    intro k hk h
    exact h2 k hk ((bears_iff T hgs (mem_kids.mp hk).1).mp h)
  unfold pkN
  rw [e]
  exact (kid_first T hp).2 hk
/-- the way down to a room that holds all goals is gone -/
theorem pick_way {r q : Nat} (hr : r < ds.length) (hne : gs ≠ []) (hin : ∀ g ∈ gs, Met ds g r) (h0 : 0 < q) (hq : q = r ∨ Met ds r q) : pkN ds gs (par ds q) = q := by
  have hql : q < ds.length := by
    rcases hq with h | h
    · omega
    · have := h.lt T hr; omega
  have below : ∀ g ∈ gs, Met ds g q := fun g hg => by
    rcases hq with h | h
    · rw [h]; exact hin g hg
    · exact (hin g hg).trans h
  refine pick_one T hgs (mem_kids.mpr ⟨hql, h0, rfl⟩) ?_ ?_
  · obtain ⟨g, hg⟩ := List.exists_mem_of_ne_nil _ hne
    exact ⟨g, hg, .inr (below g hg)⟩
  · rintro k hk ⟨g, hg, hgk⟩
    obtain ⟨k1, k2, k3⟩ := mem_kids.mp hk
    have hb := below g hg
    have hp : ∀ a b, a < ds.length → b < ds.length → 0 < a → 0 < b → par ds a = par ds b → Met ds a b → False := by
      intro a b ha hb' ha0 hb0 e h
      rcases (met_cases ha0).mp h with h1 | h1
      · have := (par_spec T hb0 hb').1
        rw [← e] at this
        omega
      · have l1 := h1.lt T (by have := (par_spec T ha0 ha).1; omega)
        rw [e] at l1
        have := (par_spec T hb0 hb').1
        omega
    rcases hgk with h | h
    · subst h
      exact (hp g q k1 hql k2 h0 k3 hb).elim
    · rcases h.comp hb with e | e | e
      · exact e
      · exact (hp k q k1 hql k2 h0 k3 e).elim
      · exact (hp q k hql k1 h0 k2 k3.symm e).elim
theorem way_in {u : Option Nat} (hu : ∀ x, u = some x → x < ds.length) {r : Nat} (hr : r < ds.length) (hne : gs ≠ []) (hin : ∀ g ∈ gs, Met ds g r) :
    ∀ q, (q = r ∨ Met ds r q) → (u = none ∨ ∃ x, u = some x ∧ Met ds q x) → q ∈ goU rs ds gs u := by
  intro q
  induction q using Nat.strongRecOn with
  | ind q ih =>
    intro hq huq
    have hql : q < ds.length := by
      rcases hq with h | h
      · omega
      · have := h.lt T hr; omega
    rw [go_iff T hu hql]
    by_cases h0 : q = 0
    · rcases huq with h | ⟨x, _, h⟩
      · exact .inl ⟨h0, h⟩
      · subst h0; exact (met_zero h).elim
    · have h0 : 0 < q := by omega
      have hp := (par_spec T h0 hql).1
      refine .inr ⟨h0, ?_, fun _ => (pick_way T hgs hr hne hin h0 hq).symm⟩
      have hpq : par ds q = r ∨ Met ds r (par ds q) := by
        right
        rcases hq with h | h
        · rw [← h]; exact .here h0
        · exact h.trans (.here h0)
      rcases huq with h | ⟨x, hx, h⟩
      · exact .inr (ih _ hp hpq (.inl h))
      · rcases (met_cases h0).mp h with e | e
        · exact .inl (by rw [hx, e])
        · exact .inr (ih _ hp hpq (.inr ⟨x, hx, e⟩))
end
end Law

namespace Law
open PySem Vx
theorem inP_iff {ds : List Nat} (T : Tree ds) {u : Option Nat} (hu : ∀ x, u = some x → x < ds.length) {k : Nat} (hk : k < ds.length) : inP ds u k = true ↔ (u = none ∨ ∃ r, u = some r ∧ Met ds k r) := by
  cases u with
  | none => simp [inP]
  | some r =>
    simp [inP]
    exact lies_met T (hu r rfl) k hk
section
variable {rs : List Rm} {ds os gs : List Nat} (T : Tree ds) (K : KdAll rs ds) (O : Opn rs ds os) {u : Option Nat} (hu : ∀ x, u = some x → x ∈ os)
/-- what stays open -/
def stayL (ds os : List Nat) (u : Option Nat) : List Nat := os.filter fun k => !inP ds u k
include T O hu in
theorem u_lt : ∀ x, u = some x → x < ds.length := fun x h => O.lt x (hu x h)
include T O hu in
theorem go_met {k : Nat} (h : k ∈ goU rs ds gs u) : inP ds u k = true := by
  have hl := u_lt T O hu
  have hk : k < ds.length := goU_in T hl k h
  rw [inP_iff T hl hk]
  induction k using Nat.strongRecOn with
  | ind k ih =>
    rcases (go_iff T hl hk).mp h with ⟨rfl, e⟩ | ⟨h0, h1, _⟩
    · exact .inl e
    · rcases h1 with h1 | h1
      · exact .inr ⟨par ds k, h1.symm, .here h0⟩
      · have hp := (par_spec T h0 hk).1
        rcases ih _ hp h1 (by omega) with e | ⟨r, e, m⟩
        · exact .inl e
        · exact .inr ⟨r, e, .up h0 m⟩
include T O hu in
theorem stay_mem {k : Nat} : k ∈ stayL ds os u ↔ k ∈ os ∧ ¬ (u = none ∨ ∃ r, u = some r ∧ Met ds k r) := by
  unfold stayL
  rw [List.mem_filter]
  constructor
  · rintro ⟨h1, h2⟩
    refine ⟨h1, fun h => ?_⟩
    rw [← inP_iff T (u_lt T O hu) (O.lt k h1)] at h
    simp [h] at h2
  · rintro ⟨h1, h2⟩
    refine ⟨h1, ?_⟩
    rw [← inP_iff T (u_lt T O hu) (O.lt k h1)] at h2
    simpa using h2
include T O hu in
/-- into k: it is shut, its parent is open, and of a one no other kid is -/
theorem go_step {dn rest : List Nat} {k : Nat} (he : goU rs ds gs u = dn ++ k :: rest) : k ∉ stayL ds os u ++ dn ∧ (0 < k → par ds k ∈ stayL ds os u ++ dn ∧ (rk rs (par ds k) = "one" → ∀ j ∈ kidsL ds (par ds k), j ∉ stayL ds os u ++ dn)) := by
  have hl := u_lt T O hu
  have hkg : k ∈ goU rs ds gs u := by rw [he]; simp
  have hk : k < ds.length := goU_in T hl k hkg
  have hs : (goU rs ds gs u).Pairwise (· < ·) := goU_sorted T hl
  have hdn : ∀ x ∈ dn, x < k := fun x hx => by
    rw [he] at hs
    exact (List.pairwise_append.mp hs).2.2 x hx k (by simp)
  have hdg : ∀ x ∈ dn, x ∈ goU rs ds gs u := fun x hx => by rw [he]; simp [hx]
  have hin : ∀ x ∈ goU rs ds gs u, x < k → x ∈ dn := fun x hx hlt => by
    rw [he] at hx hs
    rcases List.mem_append.mp hx with h | h
    · exact h
    · rcases List.mem_cons.mp h with rfl | h
      · omega
      · have := (List.pairwise_cons.mp (List.pairwise_append.mp hs).2.1).1 x h
        omega
  have hm := go_met T O hu hkg
  rw [inP_iff T hl hk] at hm
  refine ⟨fun h => ?_, fun h0 => ?_⟩
  · rcases List.mem_append.mp h with h | h
    · exact ((stay_mem T O hu).mp h).2 hm
    · have := hdn k h; omega
  · have hp := (par_spec T h0 hk).1
    rcases (go_iff T hl hk).mp hkg with ⟨e, _⟩ | ⟨_, h1, h2⟩
    · omega
    · refine ⟨?_, fun hone j hj hjm => ?_⟩
      · rcases h1 with h1 | h1
        · refine List.mem_append.mpr (.inl ((stay_mem T O hu).mpr ⟨hu _ h1.symm, ?_⟩))
          rintro (e | ⟨r, e, m⟩)
          · rw [e] at h1; cases h1
          · rw [e] at h1
            cases h1
            have := m.lt T (by omega)
            omega
        · exact List.mem_append.mpr (.inr (hin _ h1 hp))
      · obtain ⟨j1, j2, j3⟩ := mem_kids.mp hj
        rcases List.mem_append.mp hjm with h | h
        · refine ((stay_mem T O hu).mp h).2 ?_
          rcases h1 with h1 | h1
          · exact .inr ⟨par ds k, h1.symm, by rw [← j3]; exact .here j2⟩
          · have := go_met T O hu h1
            rw [inP_iff T hl (by omega)] at this
            rcases this with e | ⟨r, e, m⟩
            · exact .inl e
            · exact .inr ⟨r, e, .up j2 (by rw [j3]; exact m)⟩
        · have hjk := hdn j h
          rcases (go_iff T hl j1).mp (hdg j h) with ⟨e, _⟩ | ⟨_, _, h3⟩
          · omega
          · have := h3 (by rw [j3]; exact hone)
            rw [j3, ← h2 hone] at this
            omega
include T K O hu in
/-- what is open then is an opening -/
theorem opn_next (hgb : ∀ g ∈ gs, g < ds.length) : Opn rs ds (stayL ds os u ++ goU rs ds gs u) := by
  have hl := u_lt T O hu
  have hgi := fun {k : Nat} (hk : k < ds.length) => go_iff (rs := rs) (gs := gs) T hl (k := k) hk
  have hgm := fun {k : Nat} (h : k ∈ goU rs ds gs u) => go_met (rs := rs) (gs := gs) T O hu h
  have hlt : ∀ k ∈ stayL ds os u ++ goU rs ds gs u, k < ds.length := fun k hk => by
    rcases List.mem_append.mp hk with h | h
    · exact O.lt k ((stay_mem T O hu).mp h).1
    · exact goU_in T hl k h
  -- kids of what stays, but for u
  have kst : ∀ p ∈ stayL ds os u, u ≠ some p → ∀ k ∈ kidsL ds p, (k ∈ stayL ds os u ++ goU rs ds gs u ↔ k ∈ os) := by
    intro p hp hup k hk
    obtain ⟨k1, k2, k3⟩ := mem_kids.mp hk
    obtain ⟨p1, p2⟩ := (stay_mem T O hu).mp hp
    have hnm : ¬ (u = none ∨ ∃ r, u = some r ∧ Met ds k r) := by
      rintro (e | ⟨r, e, m⟩)
      · exact p2 (.inl e)
      · rcases (met_cases k2).mp m with e2 | m2
        · exact hup (by rw [e, e2, k3])
        · exact p2 (.inr ⟨r, e, by rw [← k3]; exact m2⟩)
    constructor
    · intro h
      rcases List.mem_append.mp h with h | h
      · exact ((stay_mem T O hu).mp h).1
      · have := hgm h
        rw [inP_iff T hl k1] at this
        exact absurd this hnm
    · intro h
      exact List.mem_append.mpr (.inl ((stay_mem T O hu).mpr ⟨h, hnm⟩))
  -- kids of u and of what is gone into
  have kgo : ∀ p, (some p = u ∨ p ∈ goU rs ds gs u) → ∀ k ∈ kidsL ds p, (k ∈ stayL ds os u ++ goU rs ds gs u ↔ (rk rs p = "one" → k = pkN ds gs p)) := by
    intro p hp k hk
    obtain ⟨k1, k2, k3⟩ := mem_kids.mp hk
    have hpl : p < ds.length := by have := (par_spec T k2 k1).1; omega
    have hmk : u = none ∨ ∃ r, u = some r ∧ Met ds k r := by
      rcases hp with h | h
      · exact .inr ⟨p, h.symm, by rw [← k3]; exact .here k2⟩
      · have := hgm h
        rw [inP_iff T hl hpl] at this
        rcases this with e | ⟨r, e, m⟩
        · exact .inl e
        · exact .inr ⟨r, e, .up k2 (by rw [k3]; exact m)⟩
    constructor
    · intro h hone
      rcases List.mem_append.mp h with h | h
      · exact absurd hmk ((stay_mem T O hu).mp h).2
      · rcases (hgi k1).mp h with ⟨e, _⟩ | ⟨_, _, h3⟩
        · omega
        · have := h3 (by rw [k3]; exact hone)
          rw [k3] at this
          exact this
    · intro h
      refine List.mem_append.mpr (.inr ((hgi k1).mpr (.inr ⟨k2, by rw [k3]; exact hp, by rw [k3]; exact h⟩)))
  have pick_kid : ∀ p, p < ds.length → kidsL ds p ≠ [] → pkN ds gs p ∈ kidsL ds p := by
    intro p hp hne
    by_cases h : ∃ k ∈ kidsL ds p, bearsB ds k gs = true
    · unfold pkN
      cases hf : (kidsL ds p).filter fun k => bearsB ds k gs with
      | nil =>
        obtain ⟨k, h1, h2⟩ := h
        have : k ∈ (kidsL ds p).filter fun k => bearsB ds k gs := List.mem_filter.mpr ⟨h1, h2⟩
        rw [hf] at this
        exact absurd this (by simp)
      | cons x t =>
        have : x ∈ (kidsL ds p).filter fun k => bearsB ds k gs := by rw [hf]; simp
        exact (List.mem_filter.mp this).1
    · rw [pick_none T hgb hp hne (fun k hk hb => h ⟨k, hk, (bears_iff T hgb (mem_kids.mp hk).1).mpr hb⟩), ← (kid_first T hp).2 hne, ← att_get _ _ (List.length_pos_iff.mpr hne)]
      exact List.getElem_mem _
  -- every open room is of one of the two sorts
  have sorts : ∀ p ∈ stayL ds os u ++ goU rs ds gs u, (some p = u ∨ p ∈ goU rs ds gs u) ∨ (p ∈ stayL ds os u ∧ u ≠ some p) := by
    intro p hp
    rcases List.mem_append.mp hp with h | h
    · by_cases e : u = some p
      · exact .inl (.inl e.symm)
      · exact .inr ⟨h, e⟩
    · exact .inl (.inr h)
  refine ⟨?_, hlt, fun k hk h0 => ?_, fun p hp ha k hk => ?_, fun p hp ha hne => ?_⟩
  · cases hun : u with
    | none => exact List.mem_append.mpr (.inr (by have := (hgi T.pos).mpr (.inl ⟨rfl, hun⟩); rw [hun] at this; exact this))
    | some r =>
      have : 0 ∈ stayL ds os u := (stay_mem T O hu).mpr ⟨O.zero, by
        rintro (e | ⟨r', e, m⟩)
        · rw [hun] at e; cases e
        · exact met_zero m⟩
      rw [hun] at this
      exact List.mem_append.mpr (.inl this)
  · have hkl := hlt k hk
    rcases List.mem_append.mp hk with h | h
    · obtain ⟨h1, h2⟩ := (stay_mem T O hu).mp h
      refine List.mem_append.mpr (.inl ((stay_mem T O hu).mpr ⟨O.up k h1 h0, ?_⟩))
      rintro (e | ⟨r, e, m⟩)
      · exact h2 (.inl e)
      · exact h2 (.inr ⟨r, e, .up h0 m⟩)
    · rcases (hgi hkl).mp h with ⟨e, _⟩ | ⟨_, h1, _⟩
      · omega
      · rcases h1 with h1 | h1
        · refine List.mem_append.mpr (.inl ((stay_mem T O hu).mpr ⟨hu _ h1.symm, ?_⟩))
          rintro (e | ⟨r, e, m⟩)
          · rw [e] at h1; cases h1
          · rw [e] at h1
            cases h1
            have hpl := (par_spec T h0 hkl).1
            have := m.lt T (by omega)
            omega
        · exact List.mem_append.mpr (.inr h1)
  · rcases sorts p hp with h | ⟨h, hn⟩
    · exact (kgo p h k hk).mpr fun h => by rw [ha] at h; exact absurd h (by simp)
    · exact (kst p h hn k hk).mpr (O.all p ((stay_mem T O hu).mp h).1 ha k hk)
  · have hpl := hlt p hp
    rcases sorts p hp with h | ⟨h, hn⟩
    · have hone : rk rs p = "one" := ((kd_kids T K hpl).1 hne).resolve_right ha
      refine ⟨_, pick_kid p hpl hne, (kgo p h _ (pick_kid p hpl hne)).mpr fun _ => rfl, fun k hk hko => (kgo p h k hk).mp hko hone⟩
    · obtain ⟨c, c1, c2, c3⟩ := O.one p ((stay_mem T O hu).mp h).1 ha hne
      exact ⟨c, c1, (kst p h hn c c1).mpr c2, fun k hk hko => c3 k hk ((kst p h hn k hk).mp hko)⟩
end
theorem opn_perm {rs : List Rm} {ds os os' : List Nat} (O : Opn rs ds os) (h : ∀ k, k ∈ os' ↔ k ∈ os) : Opn rs ds os' :=
  ⟨(h _).mpr O.zero, fun k hk => O.lt k ((h k).mp hk), fun k hk h0 => (h _).mpr (O.up k ((h k).mp hk) h0), fun p hp ha k hk => (h k).mpr (O.all p ((h p).mp hp) ha k hk), fun p hp ha hne => by
    obtain ⟨c, c1, c2, c3⟩ := O.one p ((h p).mp hp) ha hne
    exact ⟨c, c1, (h c).mpr c2, fun k hk hko => c3 k hk ((h k).mp hko)⟩⟩
end Law

namespace Law
open PySem Vx
theorem mx_lt (ns : List Int) (k t : Int) : mx ns k t < 2147483648 := by
  unfold mx
  have := Int.emod_lt_of_pos (cel ns k / 2 ^ (31 * (t + 128 * (k / (if (1 : Int) < ns.length then (ns.length : Int) else 1)))).toNat
    + (let n := ((cel ns k % 2147483648 + 1009 * k * k + 7919 * t * t + 12) * 48271 % 2147483647); n * n % 2147483629)) (show (0 : Int) < 2147483648 by decide)
  omega
/-! ### names -/
theorem cps_len (x : Str) : x.cps.toList.length = x.length := by simp [Str.length]
theorem cutS_low {x : Str} (h : ∀ c ∈ x.cps.toList, lowC c) (i j : Option Int) : ∀ c ∈ (cutS x i j).cps.toList, lowC c := fun c hc => by
  unfold cutS at hc
  simp only [List.toList_toArray] at hc
  exact h c (List.mem_of_mem_drop (List.mem_of_mem_take hc))
theorem app_low {x y : Str} (h : ∀ c ∈ x.cps.toList, lowC c) (h' : ∀ c ∈ y.cps.toList, lowC c) : ∀ c ∈ (x ++ y).cps.toList, lowC c := fun c hc => by
  have e : (x ++ y).cps.toList = x.cps.toList ++ y.cps.toList := by
    show (Str.append x y).cps.toList = _
    simp [Str.append]
  rw [e] at hc
  rcases List.mem_append.mp hc with hc | hc
  · exact h c hc
  · exact h' c hc
theorem cut_sum {α : Type} (xs : List α) (k : Nat) (h : k ≤ xs.length) : (cutD xs none (some (k : Int))).length + (cutD xs (some (k : Int)) none).length = xs.length := by
  rw [cut_to _ _ (by omega), cut_from _ _ (by omega)]
  simp
  omega
theorem cutS_sum (x : Str) (k : Nat) (h : k ≤ x.length) : (cutS x none (some (k : Int))).length + (cutS x (some (k : Int)) none).length = x.length := by
  have := cut_sum x.cps.toList k (by rw [cps_len]; exact h)
  rw [cps_len] at this
  rw [← this]
  simp [cutS, Str.length]
def abc : Str := "abcdefghijklmnopqrstuvwxyz"
theorem abc_low : ∀ c ∈ abc.cps.toList, lowC c := by
  unfold abc lowC
  decide +kernel
theorem abc_len : abc.cps.toList.length = 26 := by unfold abc; decide +kernel
def restS (q : Nat) : Str := ((["", "hall", "quiet", "aaaaaaaaaaa"] : List Str)[q % 4]?).getD ""
theorem rest_ok : ∀ i, i < 4 → (∀ c ∈ (restS i).cps.toList, lowC c) ∧ (restS i).length ≤ 11 := by
  unfold restS lowC
  decide +kernel
/-- the k-th name of the kind q -/
def nameS (k q : Nat) : Str := cutS (restS q) none (some ((q / 4 % ((restS q).length + 1) : Nat) : Int)) ++ sgnS (abc.cps.toList[k % 26]?.getD 97) ++ cutS (restS q) (some ((q / 4 % ((restS q).length + 1) : Nat) : Int)) none
theorem restS_mod (q : Nat) : restS q = restS (q % 4) := by unfold restS; rw [Nat.mod_mod]
theorem nameS_w (k q : Nat) : IsW (nameS k q) := by
  have hm : q % 4 < 4 := Nat.mod_lt _ (by omega)
  obtain ⟨h1, h2⟩ := rest_ok (q % 4) hm
  rw [← restS_mod] at h1 h2
  have hl : (nameS k q).length = (restS q).length + 1 := by
    unfold nameS
    rw [app_len, app_len, sgn_len]
    have := cutS_sum (restS q) (q / 4 % ((restS q).length + 1)) (by have := Nat.mod_lt (q / 4) (show 0 < (restS q).length + 1 by omega); omega)
    omega
  refine ⟨by omega, by omega, ?_⟩
  unfold nameS
  refine app_low (app_low (cutS_low h1 _ _) ?_) (cutS_low h1 _ _)
  intro c hc
  have : c = abc.cps.toList[k % 26]?.getD 97 := by simpa [sgnS] using hc
  rw [this, List.getElem?_eq_getElem (by rw [abc_len]; omega)]
  exact abc_low _ (List.getElem_mem _)
theorem name (k q : Nat) (s : Sto) : m__law_name [nD k, nD q] s = .ok (.str (nameS k q)) s := by
  have h : (m__law_name [nD k, nD q] s).S (fun d s' => s = s' ∧ d = .str (nameS k q)) NoE := by
    unfold m__law_name b__law_name
    simp only [w_mDef, startD]
    refine ⟨rfl, ?_⟩
    have hm : q % 4 < 4 := Nat.mod_lt _ (by omega)
    obtain ⟨h1, h2⟩ := rest_ok (q % 4) hm
    rw [← restS_mod] at h1 h2
    rw [W_sSeq]; refine W_cut (fun l s' => s = s' ∧ l = [some (nD k), some (nD q), some (.str (restS q)), none]) ?_ ?_
    · simp
      rw [getI_gi (k := q % 4) (by push_cast; rfl) (by simp; omega)]
      have hq : q % 4 = 0 ∨ q % 4 = 1 ∨ q % 4 = 2 ∨ q % 4 = 3 := by omega
      unfold restS
      rcases hq with h | h | h | h <;> simp [h]
    rintro l s' ⟨rfl, rfl⟩
    rw [W_sSeq]; simp [-W_sSeq]
    have hz : (Str.ofString "abcdefghijklmnopqrstuvwxyz").length ≤ 16777216 := by decide +kernel
    refine ⟨by omega, hz, ?_⟩
    have e : ((q : Int) / 4 % ((restS q).length + 1 : Int)) = ((q / 4 % ((restS q).length + 1) : Nat) : Int) := by push_cast; rfl
    have l1 := cutS_len (restS q) none (some ((q : Int) / 4 % ((restS q).length + 1 : Int)))
    have l2 := cutS_len (restS q) (some ((q : Int) / 4 % ((restS q).length + 1 : Int))) none
    rw [show (Str.ofString "abcdefghijklmnopqrstuvwxyz") = abc from rfl]
    rw [getI_gi (k := k % 26) (by push_cast; rfl) (by rw [abc_len]; omega)]
    simp [app_len]
    refine ⟨by omega, by omega, by omega, ?_⟩
    unfold nameS
    rw [List.getElem?_eq_getElem (by rw [abc_len]; omega), ← e]
    rfl
  obtain ⟨d, s', h1, rfl, rfl⟩ := h.ok
  exact h1
/-! ### deeds -/
def szsOk (sz : List Int) : Prop := sz.length ≤ 6 ∧ ∀ x ∈ sz, 1 ≤ x ∧ x ≤ 10 ^ 30
theorem hum_w : IsW "hum" := by
  refine ⟨by decide +kernel, by decide +kernel, ?_⟩
  unfold lowC
  decide +kernel
theorem deed {q : Nat} (hq : q < 2147483648) {sz : List Int} (hsz : szsOk sz) {ne : Nat} (s : Sto) : ∃ d : Dd, m__law_deed [nD q, .lst (sz.map .int), nD ne] s = .ok d.D s ∧ d.ok sz ne := by
  have h : (m__law_deed [nD q, .lst (sz.map .int), nD ne] s).S (fun d s' => s = s' ∧ ∃ x : Dd, d = x.D ∧ x.ok sz ne) NoE := by
    unfold m__law_deed b__law_deed
    simp only [w_mDef, startD]
    refine ⟨rfl, ?_⟩
    have hl := hsz.1
    rw [W_sSeq]; refine W_cut (fun l s' => s = s' ∧ ∃ w : Nat, l = [some (nD q), some (.lst (sz.map .int)), some (nD ne), some (nD w), none, none]) ?_ ?_
    · simp
      rw [getI_gi (k := q % 5) (by push_cast; rfl) (by simp; omega)]
      have hq : q % 5 = 0 ∨ q % 5 = 1 ∨ q % 5 = 2 ∨ q % 5 = 3 ∨ q % 5 = 4 := by omega
      rcases hq with h | h | h | h | h <;> simp [h]
      · exact ⟨0, rfl⟩
      · exact ⟨1, rfl⟩
      · exact ⟨1, rfl⟩
      · exact ⟨2, rfl⟩
      · exact ⟨3, rfl⟩
    rintro l s' ⟨rfl, w, rfl⟩
    rw [W_sSeq]; simp [-W_sSeq, -W_sIf]
    rw [W_sSeq]; refine W_ifD (decide (w = 1 ∧ 0 < ne)) (by simp; (repeat' split) <;> (try simp_all) <;> (try omega) <;> (try exact Bool.eq_iff_iff.mpr (by simp <;> omega))) ?_
    split
    · rename_i h
      have h := of_decide_eq_true h
      simp
      exact ⟨by omega, .send (q / 5 % ne), by simp [Dd.D], Nat.mod_lt _ h.2⟩
    rw [W_sNil]
    rw [W_sSeq]; refine W_ifD (decide (w = 2 ∧ 0 < sz.length)) (by simp; (repeat' split) <;> (try simp_all) <;> (try omega) <;> (try exact Bool.eq_iff_iff.mpr (by simp <;> omega))) ?_
    split
    · rename_i h
      have h := of_decide_eq_true h
      have hm := Nat.mod_lt (q / 5) h.2
      simp
      refine ⟨by omega, ?_⟩
      rw [getI_gi (k := q / 5 % sz.length) (by push_cast; rfl) hm]
      obtain ⟨b1, b2⟩ := hsz.2 _ (List.getElem_mem hm)
      refine ⟨by omega, .set (q / 5 % sz.length) ((q : Int) / 5 / 6 % sz[q / 5 % sz.length]), by simp [Dd.D], hm, Int.emod_nonneg _ (by omega), ?_⟩
      rw [List.getElem?_eq_getElem hm]
      exact Int.emod_lt_of_pos _ (by omega)
    rw [W_sNil]
    rw [W_sSeq]; refine W_ifD (decide (w = 3 ∧ 0 < sz.length ∧ q / 5 / 54 % 5 = 0)) (by simp; (repeat' split) <;> (try simp_all) <;> (try omega) <;> (try exact Bool.eq_iff_iff.mpr (by simp <;> omega))) ?_
    split
    · rename_i h
      have h := of_decide_eq_true h
      have hm := Nat.mod_lt (q / 5) h.2.1
      simp
      refine ⟨by omega, by omega, .inr (by omega), .add (q / 5 % sz.length) (((q : Int) / 5 * 100000000000000000000 + (q : Int) / 5) * (1 - 2 * ((q : Int) / 5 / 6 % 2))), by simp [Dd.D], hm, ?_, ?_⟩
      · have : (q : Int) / 5 / 6 % 2 = 0 ∨ (q : Int) / 5 / 6 % 2 = 1 := by omega
        rcases this with h | h <;> rw [h] <;> omega
      · have : (q : Int) / 5 / 6 % 2 = 0 ∨ (q : Int) / 5 / 6 % 2 = 1 := by omega
        rcases this with h | h <;> rw [h] <;> omega
    rw [W_sNil]
    rw [W_sSeq]; refine W_ifD (decide (w = 3 ∧ 0 < sz.length)) (by simp; (repeat' split) <;> (try simp_all) <;> (try omega) <;> (try exact Bool.eq_iff_iff.mpr (by simp <;> omega))) ?_
    split
    · rename_i h
      have h := of_decide_eq_true h
      have hm := Nat.mod_lt (q / 5) h.2
      simp
      refine ⟨by omega, .add (q / 5 % sz.length) ((q : Int) / 5 / 6 % 9 - 4), by simp [Dd.D], hm, by omega, by omega⟩
    rw [W_sNil]
    rw [W_sSeq]; refine W_ifD (decide (q / 5 % 2 = 0)) (by simp; (repeat' split) <;> (try simp_all) <;> (try omega) <;> (try exact Bool.eq_iff_iff.mpr (by simp <;> omega))) ?_
    split
    · simp
      exact ⟨.say "hum", by simp [Dd.D], hum_w⟩
    rw [W_sNil]
    have e1 : ((q : Int) / 5 / 2 % 3) = ((q / 5 / 2 % 3 : Nat) : Int) := by push_cast; rfl
    have e2 : ((q : Int) / 5 / 6) = ((q / 5 / 6 : Nat) : Int) := by push_cast; rfl
    simp
    rw [e1, e2, name]
    simp
    exact ⟨.say (nameS (q / 5 / 2 % 3) (q / 5 / 6)), by simp [Dd.D], nameS_w _ _⟩
  obtain ⟨d, s', h1, rfl, x, rfl, hx⟩ := h.ok
  exact ⟨x, h1, hx⟩
end Law

namespace Law
open PySem Vx
/-- a tuple of deeds -/
theorem deeds {ns : List Int} (hn : ns.length ≤ 63) {k t : Nat} (hk : k < 1000000) (ht : t < 1000000) {sz : List Int} (hsz : szsOk sz) {ne : Nat} (s : Sto) :
    ∃ l : List Dd, m__law_deeds [.lst (ns.map .int), nD k, nD t, .lst (sz.map .int), nD ne] s = .ok (.tup (l.map Dd.D)) s ∧ l.length ≤ 8 ∧ ∀ d ∈ l, d.ok sz ne := by
  have h : (m__law_deeds [.lst (ns.map .int), nD k, nD t, .lst (sz.map .int), nD ne] s).S (fun d s' => s = s' ∧ ∃ l : List Dd, d = .tup (l.map Dd.D) ∧ l.length ≤ 8 ∧ ∀ d ∈ l, d.ok sz ne) NoE := by
    unfold m__law_deeds b__law_deeds
    simp only [w_mDef, startD]
    refine ⟨rfl, ?_⟩
    rw [W_sSeq]; simp (disch := omega) [-W_sSeq, -W_sIf, mixed ns hn]
    generalize mx ns k t = q
    rw [W_sSeq]; refine W_cut (fun l s' => s = s' ∧ ∃ w : Nat, w ≤ 3 ∧ l = [some (.lst (ns.map .int)), some (nD k), some (nD t), some (.lst (sz.map .int)), some (nD ne), some (nD q), some (nD w), none, none]) ?_ ?_
    · simp
      rw [getI_gi (k := q % 8) (by push_cast; rfl) (by simp; omega)]
      have hq : q % 8 = 0 ∨ q % 8 = 1 ∨ q % 8 = 2 ∨ q % 8 = 3 ∨ q % 8 = 4 ∨ q % 8 = 5 ∨ q % 8 = 6 ∨ q % 8 = 7 := by omega
      rcases hq with h | h | h | h | h | h | h | h <;> simp [h]
      · exact ⟨0, by omega, rfl⟩
      · exact ⟨0, by omega, rfl⟩
      · exact ⟨1, by omega, rfl⟩
      · exact ⟨1, by omega, rfl⟩
      · exact ⟨1, by omega, rfl⟩
      · exact ⟨2, by omega, rfl⟩
      · exact ⟨2, by omega, rfl⟩
      · exact ⟨3, by omega, rfl⟩
    rintro l s' ⟨rfl, w, hw, rfl⟩
    rw [W_sSeq]; simp [-W_sSeq]
    rw [W_sSeq]; simp only [W_sFor, w_itRg1, w_mCons, w_mV, w_mNil, atW_succ, atW_zero, rg1W_int, rgOk_i]
    refine ⟨by omega, W_rg _ _ (fun j l s' => s = s' ∧ ∃ (xs : List Dd) (a : Option D), l = [some (.lst (ns.map .int)), some (nD k), some (nD t), some (.lst (sz.map .int)), some (nD ne), some (nD q), some (nD w), some (.lst (xs.map Dd.D)), a] ∧ xs.length = j ∧ ∀ d ∈ xs, d.ok sz ne) ?_ ?_ ?_⟩
    · exact ⟨rfl, [], _, rfl, rfl, fun d h => by simp at h⟩
    · rintro j l s' hj ⟨rfl, xs, a, rfl, hxl, hxs⟩
      simp (disch := omega) [mixed ns hn]
      obtain ⟨x, hx1, hx2⟩ := deed (mx_lt ns (k : Int) ((t : Int) + 1 + (j : Int))) hsz (ne := ne) s
      rw [hx1]
      simp
      refine ⟨by omega, xs ++ [x], by simp, by simp; omega, fun d hd => ?_⟩
      rcases List.mem_append.mp hd with hd | hd
      · exact hxs d hd
      · rw [List.mem_singleton.mp hd]; exact hx2
    · rintro l s' ⟨rfl, xs, a, rfl, hxl, hxs⟩
      simp
      exact ⟨xs, rfl, by simp at hxl; omega, hxs⟩
  obtain ⟨d, s', h1, rfl, l, rfl, hl⟩ := h.ok
  exact ⟨l, h1, hl⟩
end Law

namespace Law
open PySem Vx
/-! ### guards -/
theorem guard_succ (n : Nat) : r__law_guard (n + 1) = mDef 6 4 (b__law_guard (r__law_guard n)) := rfl
theorem guard {nr nb : Nat} (hr : 0 < nr) : ∀ (f h q : Nat), h ≤ f → 1 ≤ h → ∀ s, ∃ g : Gd, r__law_guard f [nD q, nD nr, nD nb, nD h] s = .ok g.D s ∧ g.ok nb nr ∧ g.hgt ≤ h := by
  intro f
  induction f with
  | zero => intro h q h1 h2; omega
  | succ f ih =>
    intro hh q h1 h2 s
    have h : (r__law_guard (f + 1) [nD q, nD nr, nD nb, nD hh] s).S (fun d s' => s = s' ∧ ∃ g : Gd, d = g.D ∧ g.ok nb nr ∧ g.hgt ≤ hh) NoE := by
      rw [guard_succ]
      unfold b__law_guard
      simp only [w_mDef, startD]
      refine ⟨rfl, ?_⟩
      have rec1 : ∀ (q : Nat) (i : Int), i = (q : Int) → 1 < hh → ∃ g : Gd, r__law_guard f [.int i, nD nr, nD nb, .int ((hh : Int) - 1)] s = .ok g.D s ∧ g.ok nb nr ∧ g.hgt + 1 ≤ hh := fun q i ei hq => by
        subst ei
        obtain ⟨g, g1, g2, g3⟩ := ih (hh - 1) q (by omega) (by omega) s
        have e : ((hh : Int) - 1) = ((hh - 1 : Nat) : Int) := by omega
        rw [e]
        exact ⟨g, g1, g2, by omega⟩
      rw [W_sSeq]; simp [-W_sSeq, -W_sIf]
      rw [W_sSeq]; simp [-W_sSeq, -W_sIf]
      have e9 : ((q : Int) / 9) = ((q / 9 : Nat) : Int) := by push_cast; rfl
      have e50 : ((q : Int) / 9 / 50) = ((q / 9 / 50 : Nat) : Int) := by push_cast; rfl
      rw [W_sSeq]; refine W_ifD (decide (1 < hh ∧ q % 9 = 1)) (by simp; (repeat' split) <;> (try simp_all) <;> (try omega) <;> (try exact Bool.eq_iff_iff.mpr (by simp <;> omega))) ?_
      split
      · rename_i h
        have h := of_decide_eq_true h
        obtain ⟨g, g1, g2, g3⟩ := rec1 (q / 9) ((q : Int) / 9) (by push_cast; rfl) h.1
        simp
        rw [g1]
        simp
        exact ⟨.not g, by simp [Gd.D], g2, g3⟩
      rw [W_sNil]
      rw [W_sSeq]; refine W_ifD (decide (1 < hh ∧ q % 9 = 2)) (by simp; (repeat' split) <;> (try simp_all) <;> (try omega) <;> (try exact Bool.eq_iff_iff.mpr (by simp <;> omega))) ?_
      split
      · rename_i h
        have h := of_decide_eq_true h
        obtain ⟨g, g1, g2, g3⟩ := rec1 (q / 9) ((q : Int) / 9) (by push_cast; rfl) h.1
        obtain ⟨g', g1', g2', g3'⟩ := rec1 (q / 9 / 50) ((q : Int) / 9 / 50) (by push_cast; rfl) h.1
        simp
        rw [g1]
        simp
        rw [g1']
        simp
        exact ⟨.both g g', by simp [Gd.D], ⟨g2, g2'⟩, by show max g.hgt g'.hgt + 1 ≤ hh; omega⟩
      rw [W_sNil]
      rw [W_sSeq]; refine W_ifD (decide (1 < hh ∧ q % 9 = 3)) (by simp; (repeat' split) <;> (try simp_all) <;> (try omega) <;> (try exact Bool.eq_iff_iff.mpr (by simp <;> omega))) ?_
      split
      · rename_i h
        have h := of_decide_eq_true h
        obtain ⟨g, g1, g2, g3⟩ := rec1 (q / 9) ((q : Int) / 9) (by push_cast; rfl) h.1
        obtain ⟨g', g1', g2', g3'⟩ := rec1 (q / 9 / 50) ((q : Int) / 9 / 50) (by push_cast; rfl) h.1
        simp
        rw [g1]
        simp
        rw [g1']
        simp
        exact ⟨.either g g', by simp [Gd.D], ⟨g2, g2'⟩, by show max g.hgt g'.hgt + 1 ≤ hh; omega⟩
      rw [W_sNil]
      rw [W_sSeq]; refine W_ifD (decide (q % 9 = 4 ∨ q % 9 = 5)) (by simp; (repeat' split) <;> (try simp_all) <;> (try omega) <;> (try exact Bool.eq_iff_iff.mpr (by simp <;> omega))) ?_
      split
      · simp
        exact ⟨hr, .inn (q / 9 % nr), by simp [Gd.D], Nat.mod_lt _ hr, h2⟩
      rw [W_sNil]
      rw [W_sSeq]; refine W_ifD (decide (q % 9 = 6 ∧ 0 < nb)) (by simp; (repeat' split) <;> (try simp_all) <;> (try omega) <;> (try exact Bool.eq_iff_iff.mpr (by simp <;> omega))) ?_
      split
      · rename_i h
        have h := of_decide_eq_true h
        simp
        exact ⟨h.2, .is (q / 9 % nb) ((q : Int) / 9 / 6 % 4), by simp [Gd.D], ⟨Nat.mod_lt _ h.2, by omega, by omega⟩, h2⟩
      rw [W_sNil]
      rw [W_sSeq]; refine W_ifD (decide (q % 9 = 7 ∧ 0 < nb)) (by simp; (repeat' split) <;> (try simp_all) <;> (try omega) <;> (try exact Bool.eq_iff_iff.mpr (by simp <;> omega))) ?_
      split
      · rename_i h
        have h := of_decide_eq_true h
        simp
        exact ⟨h.2, .under (q / 9 % nb) ((q : Int) / 9 / 6 % 5), by simp [Gd.D], ⟨Nat.mod_lt _ h.2, by omega, by omega⟩, h2⟩
      rw [W_sNil]
      simp
      exact ⟨.yes, by simp [Gd.D], trivial, h2⟩
    obtain ⟨d, s', h1, rfl, g, rfl, hg⟩ := h.ok
    exact ⟨g, h1, hg⟩
end Law

namespace Law
open PySem Vx
theorem depths {ns : List Int} (hn : ns.length ≤ 63) {n : Nat} (h0 : 0 < n) (h1 : n ≤ 40) (s : Sto) : ∃ ds : List Nat, m__law_depths [.lst (ns.map .int), nD n] s = .ok (.lst (ds.map nD)) s ∧ Tree ds ∧ ds.length = n ∧ ∀ x ∈ ds, x ≤ 4 := by
  have h : (m__law_depths [.lst (ns.map .int), nD n] s).S (fun d s' => s = s' ∧ ∃ ds : List Nat, d = .lst (ds.map nD) ∧ Tree ds ∧ ds.length = n ∧ ∀ x ∈ ds, x ≤ 4) NoE := by
    unfold m__law_depths b__law_depths
    simp only [w_mDef, startD]
    refine ⟨rfl, ?_⟩
    rw [W_sSeq]; simp [-W_sSeq]
    rw [W_sSeq]; refine W_cut (fun l s' => s = s' ∧ ∃ (ds : List Nat) (a : Option D), l = [some (.lst (ns.map .int)), some (nD n), some (.lst (ds.map nD)), a] ∧ Tree ds ∧ ds.length = n ∧ ∀ x ∈ ds, x ≤ 4) ?_ ?_
    · rw [W_sFor]
      simp
      refine ⟨by omega, W_rg _ _ (fun k l s' => s = s' ∧ ∃ (ds : List Nat) (a : Option D), l = [some (.lst (ns.map .int)), some (nD n), some (.lst (ds.map nD)), a] ∧ Tree ds ∧ ds.length = k + 1 ∧ ∀ x ∈ ds, x ≤ 4) ?_ ?_ ?_⟩
      · exact ⟨rfl, [0], _, rfl, Tree.single, rfl, by simp⟩
      · rintro k l s' hk ⟨rfl, ds, a, rfl, T, hl, hx⟩
        simp (disch := omega) [mixed ns hn]
        rw [getI_i (k := k) (by omega) (by omega)]
        generalize mx ns (8 + (1 + (k : Int))) 1 = q
        have hkx : att ds k ≤ 4 := by
          rw [← att_get ds k (by omega)]; exact hx _ (List.getElem_mem _)
        have fin : ∀ z : Int, 1 ≤ z → z ≤ (att ds k : Int) + 1 → z ≤ 4 → (ds.length < 16777216 ∧ ∃ ds_1 : List Nat, List.map nD ds ++ [.int z] = List.map nD ds_1 ∧ Tree ds_1 ∧ ds_1.length = k + 1 + 1 ∧ ∀ x ∈ ds_1, x ≤ 4) := by
          intro z z1 z2 z3
          refine ⟨by omega, ds ++ [z.toNat], ?_, T.app (by omega) (by rw [show ds.length - 1 = k by omega]; omega) (by omega), by simp [hl], fun x h => ?_⟩
          · simp; omega
          · rcases List.mem_append.mp h with h | h
            · exact hx x h
            · rw [List.mem_singleton.mp h]; omega
        have hm : ∃ m : Int, m = (if (3 : Int) < (att ds k : Int) then 3 else (att ds k : Int)) + 1 ∧ 0 < m ∧ m ≤ att ds k + 1 ∧ m ≤ 4 := ⟨_, rfl, by split <;> omega, by split <;> omega, by split <;> omega⟩
        obtain ⟨m, e, m1, m2, m3⟩ := hm
        rw [← e]
        have h3 := Int.emod_nonneg (q : Int) (show m ≠ 0 by omega)
        have h4 := Int.emod_lt_of_pos (q : Int) m1
        exact ⟨m1, fin _ (by omega) (by omega) (by omega)⟩
      · rintro l s' ⟨rfl, ds, a, rfl, T, hl, hx⟩
        exact ⟨rfl, ds, ⟨_, rfl⟩, T, by omega, hx⟩
    rintro l s' ⟨rfl, ds, a, rfl, T, hl, hx⟩
    simp
    exact ⟨ds, rfl, T, hl, hx⟩
  obtain ⟨d, s', h1, rfl, ds, rfl, hd⟩ := h.ok
  exact ⟨ds, h1, hd⟩
theorem nm_k {ns : List Int} {k m : Nat} (hm : 0 < m) (s : Sto) (i : Int) : ∃ q : Nat, cel ns i % (m : Int) = (q : Int) := ⟨(cel ns i % (m : Int)).toNat, by have := Int.emod_nonneg (cel ns i) (show (m : Int) ≠ 0 by omega); omega⟩
/-- the rooms laid so far -/
structure RsOk (qn : Nat) (sz : List Int) (ne : Nat) (ds : List Nat) (k : Nat) (rs : List Rm) : Prop where
  map : rs.map Rm.d = ds.take k
  kd : ∀ i, i < rs.length → Kd ds i (rk rs i)
  ok : ∀ r ∈ rs, RmOk sz ne r
  nm : rs.map Rm.nm = (List.range k).map fun i => nameS i qn
set_option maxHeartbeats 4000000 in
theorem rooms {ns : List Int} (hn : ns.length ≤ 63) {ds : List Nat} (hd : ds.length ≤ 40) {sz : List Int} (hsz : szsOk sz) {ne : Nat} (s : Sto) :
    ∃ (rs : List Rm) (qn : Nat), m__law_rooms [.lst (ns.map .int), .lst (ds.map nD), .lst (sz.map .int), nD ne] s = .ok (.tup (rs.map Rm.D)) s ∧ RsOk qn sz ne ds ds.length rs := by
  obtain ⟨qn, hqn⟩ := nm_k (ns := ns) (k := 0) (m := 997) (by omega) s 0
  have h : (m__law_rooms [.lst (ns.map .int), .lst (ds.map nD), .lst (sz.map .int), nD ne] s).S (fun d s' => s = s' ∧ ∃ rs : List Rm, d = .tup (rs.map Rm.D) ∧ RsOk qn sz ne ds ds.length rs) NoE := by
    unfold m__law_rooms b__law_rooms
    simp only [w_mDef, startD]
    refine ⟨rfl, ?_⟩
    rw [W_sSeq]; simp [-W_sSeq]
    rw [W_sSeq]; refine W_cut (fun l s' => s = s' ∧ ∃ (rs : List Rm) (a b c d e f g : Option D), l = [some (.lst (ns.map .int)), some (.lst (ds.map nD)), some (.lst (sz.map .int)), some (nD ne), some (.lst (rs.map Rm.D)), a, b, c, d, e, f, g] ∧ RsOk qn sz ne ds ds.length rs) ?_ ?_
    · simp only [W_sFor, w_itRg1, w_mCons, w_mArgs, w_mV, w_mNil, atW_succ, atW_zero, o_lenL, rg1W_int, rgOk_i, List.length_map]
      refine ⟨by omega, W_rg _ _ (fun k l s' => s = s' ∧ ∃ (rs : List Rm) (a b c d e f g : Option D), l = [some (.lst (ns.map .int)), some (.lst (ds.map nD)), some (.lst (sz.map .int)), some (nD ne), some (.lst (rs.map Rm.D)), a, b, c, d, e, f, g] ∧ rs.length = k ∧ RsOk qn sz ne ds k rs) ?_ ?_ ?_⟩
      · exact ⟨rfl, [], _, _, _, _, _, _, _, rfl, rfl, ⟨by simp, fun i h => by simp at h, fun r h => by simp at h, rfl⟩⟩
      · rintro k l s' hk ⟨rfl, rs, a, b, c, d, e, f, g, rfl, hl, R⟩
        have hk : k < ds.length := by simpa using hk
        rw [W_sSeq]; simp (disch := omega) [-W_sSeq, -W_sIf, mixed ns hn]
        generalize mx ns (8 + (k : Int)) 2 = q
        rw [W_sSeq]; simp [-W_sSeq, -W_sIf]
        rw [W_sSeq]; simp [-W_sSeq, -W_sIf]
        refine W_seq2 (fun l s' => s = s' ∧ ∃ (kd kp : Str), l = [some (.lst (ns.map .int)), some (.lst (ds.map nD)), some (.lst (sz.map .int)), some (nD ne), some (.lst (rs.map Rm.D)), some (nD k), some (nD q), some (.str kd), some (.str kp), e, f, g] ∧ Kd ds k kd ∧ (kp = "" ∨ kd = "one" ∧ kp = "near" ∨ kd ≠ "plain" ∧ kp = "deep")) ?_ ?_
        · rw [W_sSeq]; refine W_cut (fun l s' => s = s' ∧ ∃ (kd kp : Str), l = [some (.lst (ns.map .int)), some (.lst (ds.map nD)), some (.lst (sz.map .int)), some (nD ne), some (.lst (rs.map Rm.D)), some (nD k), some (nD q), some (.str kd), some (.str kp), e, f, g] ∧ Kd ds k kd ∧ (kp = "" ∨ kd ≠ "plain" ∧ (kp = "near" ∨ kp = "deep"))) ?_ ?_
          · refine W_ifD (decide (k + 1 < ds.length ∧ att ds k < att ds (k + 1))) ?_ ?_
            · simp
              split
              · rename_i h
                have h : k + 1 < ds.length := by omega
                rw [getI_i (k := k + 1) (by omega) h, getI_n hk]
                simp [h]
              · try simp
                omega
            · split
              · rename_i h
                have h := of_decide_eq_true h
                simp
                refine getI_mem (by omega) (by simp; omega) ?_
                intro kd hkd
                refine getI_mem (by omega) (by simp; omega) ?_
                intro kp hkp
                simp at hkd hkp
                have hK : ∃ x, kd = .str x ∧ (x = "one" ∨ x = "all") := by
                  rcases hkd with rfl | rfl
                  · exact ⟨_, rfl, .inl rfl⟩
                  · exact ⟨_, rfl, .inr rfl⟩
                obtain ⟨x, rfl, hx⟩ := hK
                have hxp : x ≠ "plain" := by rcases hx with rfl | rfl <;> decide
                have hK : Kd ds k x := by
                  unfold Kd
                  rw [if_pos h]
                  exact hx
                rcases hkp with rfl | rfl | rfl
                · exact ⟨x, _, ⟨rfl, rfl⟩, hK, .inl rfl⟩
                · exact ⟨x, _, ⟨rfl, rfl⟩, hK, .inr ⟨hxp, .inl rfl⟩⟩
                · exact ⟨x, _, ⟨rfl, rfl⟩, hK, .inr ⟨hxp, .inr rfl⟩⟩
              · rename_i h
                have h : ¬ (k + 1 < ds.length ∧ att ds k < att ds (k + 1)) := fun z => h (decide_eq_true z)
                rw [W_sNil]
                refine ⟨rfl, _, _, rfl, ?_, .inl rfl⟩
                unfold Kd
                rw [if_neg h]
          rintro l s' ⟨rfl, kd, kp, rfl, hK, hkp⟩
          have hone : kd ≠ "plain" → kd ≠ "all" → kd = "one" := by
            intro h1 h2
            unfold Kd at hK
            split at hK
            · rcases hK with h | h
              · exact h
              · exact absurd h h2
            · exact absurd hK h1
          simp
          split
          · rename_i h1
            split
            · exact ⟨kd, _, ⟨rfl, rfl⟩, hK, .inr (.inr ⟨by rw [h1]; decide, rfl⟩)⟩
            · rename_i h2
              refine ⟨kd, kp, ⟨rfl, rfl⟩, hK, ?_⟩
              rcases hkp with h | ⟨h, h3 | h3⟩
              · exact .inl h
              · exact absurd h3 h2
              · exact .inr (.inr ⟨h, h3⟩)
          · rename_i h1
            refine ⟨kd, kp, ⟨rfl, rfl⟩, hK, ?_⟩
            rcases hkp with h | ⟨h, h3 | h3⟩
            · exact .inl h
            · exact .inr (.inl ⟨hone h h1, h3⟩)
            · exact .inr (.inr ⟨h, h3⟩)
        rintro l s' ⟨rfl, kd, kp, rfl, hK, hkp⟩
        rw [W_sSeq]; simp [-W_sSeq, -W_sIf]
        rw [W_sSeq]; refine W_cut (fun l s' => s = s' ∧ ∃ (lp : Str), l = [some (.lst (ns.map .int)), some (.lst (ds.map nD)), some (.lst (sz.map .int)), some (nD ne), some (.lst (rs.map Rm.D)), some (nD k), some (nD q), some (.str kd), some (.str kp), some (.str lp), f, g] ∧ (lp = "" ∨ IsW lp)) ?_ ?_
        · simp
          intro hq9
          · have e1 : ((q : Int) / 27 % 3) = ((q / 27 % 3 : Nat) : Int) := by push_cast; rfl
            have e2 : ((q : Int) / 81) = ((q / 81 : Nat) : Int) := by push_cast; rfl
            rw [e1, e2, name]
            simp
            exact .inr (nameS_w _ _)
        rintro l s' ⟨rfl, lp, rfl, hlp⟩
        obtain ⟨is, hi1, hi2, hi3⟩ := deeds hn (k := 8 + k) (t := 10) (by omega) (by omega) hsz (ne := ne) s
        obtain ⟨os, ho1, ho2, ho3⟩ := deeds hn (k := 8 + k) (t := 20) (by omega) (by omega) hsz (ne := ne) s
        have hi1' : m__law_deeds [.lst (ns.map .int), .int (8 + (k : Int)), .int 10, .lst (sz.map .int), nD ne] s = .ok (.tup (is.map Dd.D)) s := by
          have e : (8 + (k : Int)) = ((8 + k : Nat) : Int) := by omega
          rw [e]; exact hi1
        have ho1' : m__law_deeds [.lst (ns.map .int), .int (8 + (k : Int)), .int 20, .lst (sz.map .int), nD ne] s = .ok (.tup (os.map Dd.D)) s := by
          have e : (8 + (k : Int)) = ((8 + k : Nat) : Int) := by omega
          rw [e]; exact ho1
        rw [W_sSeq]; simp [-W_sSeq, -W_sIf, hi1']
        rw [W_sSeq]; simp [-W_sSeq, -W_sIf, ho1']
        simp [cell_at]
        rw [show cel ns 0 % 997 = (qn : Int) from hqn, name]
        simp
        rw [getI_n hk]
        refine ⟨by omega, rs ++ [⟨nameS k qn, kd, att ds k, kp, lp, is, os⟩], by simp [Rm.D], by simp [hl], ?_⟩
        · refine ⟨?_, fun i h => ?_, fun r h => ?_, ?_⟩
          · rw [List.map_append, R.map, ← List.take_append_getElem hk, att_get]
            rfl
          · simp at h
            rw [rk_app _ _ _ h]
            split
            · rename_i h2; exact R.kd i h2
            · have : i = k := by omega
              rw [this]; exact hK
          · rcases List.mem_append.mp h with h | h
            · exact R.ok r h
            · rw [List.mem_singleton.mp h]
              exact ⟨hkp, hlp, ⟨by show is.length ≤ 8; omega, hi3⟩, ⟨by show os.length ≤ 8; omega, ho3⟩, nameS_w _ _⟩
          · rw [List.map_append, R.nm, List.range_succ, List.map_append]
            rfl
      · rintro l s' ⟨rfl, rs, a, b, c, d, e, f, g, rfl, hl, R⟩
        have e : (ds.length : Int).toNat = ds.length := by omega
        rw [e] at R
        exact ⟨rfl, rs, _, _, _, _, _, _, _, rfl, R⟩
    rintro l s' ⟨rfl, rs, a, b, c, d, e, f, g, rfl, R⟩
    simp
    exact ⟨rs, rfl, R⟩
  obtain ⟨d, s', h1, rfl, rs, rfl, R⟩ := h.ok
  exact ⟨rs, qn, h1, R⟩
end Law

namespace Law
open PySem Vx
def kpAt (rs : List Rm) (i : Nat) : Str := (rs[i]?.map Rm.kp).getD ""
theorem kpAt_get {rs : List Rm} {i : Nat} (h : i < rs.length) : kpAt rs i = rs[i].kp := by unfold kpAt; rw [List.getElem?_eq_getElem h]; rfl
theorem gd_lo (g : Gd) : 1 ≤ g.hgt := by cases g <;> simp [Gd.hgt]
set_option maxHeartbeats 4000000 in
theorem doors {ns : List Int} (hn : ns.length ≤ 63) {m : Nat} (hm : m ≤ 60) {rs : List Rm} (hr0 : 0 < rs.length) (hr1 : rs.length ≤ 40) {sz : List Int} (hsz : szsOk sz) {ne : Nat} (s : Sto) :
    ∃ ds : List Dr, m__law_doors [.lst (ns.map .int), nD m, .tup (rs.map Rm.D), .lst (sz.map .int), nD ne] s = .ok (.tup (ds.map Dr.D)) s ∧ ds.length ≤ m ∧ ∀ d ∈ ds, DrOk sz.length ne sz rs d := by
  have h : (m__law_doors [.lst (ns.map .int), nD m, .tup (rs.map Rm.D), .lst (sz.map .int), nD ne] s).S (fun d s' => s = s' ∧ ∃ ds : List Dr, d = .tup (ds.map Dr.D) ∧ ds.length ≤ m ∧ ∀ d ∈ ds, DrOk sz.length ne sz rs d) NoE := by
    unfold m__law_doors b__law_doors
    simp only [w_mDef, startD]
    refine ⟨rfl, ?_⟩
    have hl := hsz.1
    rw [W_sSeq]; simp [-W_sSeq]
    rw [W_sSeq]; refine W_cut (fun l s' => s = s' ∧ ∃ (ds : List Dr) (a6 a7 a8 a9 a10 a11 a12 a13 : Option D), l = [some (.lst (ns.map .int)), some (nD m), some (.tup (rs.map Rm.D)), some (.lst (sz.map .int)), some (nD ne), some (.lst (ds.map Dr.D)), a6, a7, a8, a9, a10, a11, a12, a13] ∧ ds.length ≤ m ∧ ∀ d ∈ ds, DrOk sz.length ne sz rs d) ?_ ?_
    · rw [W_sFor]
      simp [-W_sSeq, -W_sIf]
      have hc : ∃ c : Nat, (m : Int) * (if 0 < ne then 1 else 0) = (c : Int) ∧ c ≤ m ∧ (0 < c → 0 < ne) := by
        by_cases h : 0 < ne
        · exact ⟨m, by rw [if_pos h]; omega, by omega, fun _ => h⟩
        · exact ⟨0, by rw [if_neg h]; omega, by omega, fun h => by omega⟩
      obtain ⟨c, c1, c2, c3⟩ := hc
      rw [c1]
      refine ⟨.inl (by omega), by omega, ?_⟩
      have I : ∀ (l : Sl) (s' : Sto), (s = s' ∧ ∃ (ds : List Dr) (a6 a7 a8 a9 a10 a11 a12 a13 : Option D), l = [some (.lst (ns.map .int)), some (nD m), some (.tup (rs.map Rm.D)), some (.lst (sz.map .int)), some (nD ne), some (.lst (ds.map Dr.D)), a6, a7, a8, a9, a10, a11, a12, a13] ∧ ds.length = c ∧ ∀ d ∈ ds, DrOk sz.length ne sz rs d) → (s = s' ∧ ∃ (ds : List Dr), (∃ a6 a7 a8 a9 a10 a11 a12 a13, l = [some (.lst (ns.map .int)), some (nD m), some (.tup (rs.map Rm.D)), some (.lst (sz.map .int)), some (nD ne), some (.lst (ds.map Dr.D)), a6, a7, a8, a9, a10, a11, a12, a13]) ∧ ds.length ≤ m ∧ ∀ d ∈ ds, DrOk sz.length ne sz rs d) := by
        rintro l s' ⟨rfl, ds, a6, a7, a8, a9, a10, a11, a12, a13, rfl, h1, h2⟩
        exact ⟨rfl, ds, ⟨_, _, _, _, _, _, _, _, rfl⟩, by omega, h2⟩
      refine W_rg _ _ (fun k l s' => s = s' ∧ ∃ (ds : List Dr) (a6 a7 a8 a9 a10 a11 a12 a13 : Option D), l = [some (.lst (ns.map .int)), some (nD m), some (.tup (rs.map Rm.D)), some (.lst (sz.map .int)), some (nD ne), some (.lst (ds.map Dr.D)), a6, a7, a8, a9, a10, a11, a12, a13] ∧ ds.length = k ∧ ∀ d ∈ ds, DrOk sz.length ne sz rs d) ?_ ?_ ?_
      · exact ⟨rfl, [], _, _, _, _, _, _, _, _, rfl, rfl, fun d h => by simp at h⟩
      · rintro k l s' hk ⟨rfl, ds, a6, a7, a8, a9, a10, a11, a12, a13, rfl, hdl, hds⟩
        have hk : k < c := by simpa using hk
        have hne := c3 (by omega)
        rw [W_sSeq]; simp (disch := omega) [-W_sSeq, -W_sIf, mixed ns hn]
        generalize mx ns (23 + (k : Int)) 3 = q
        have hgm := Nat.mod_lt (q / 15) hr0
        rw [W_sSeq]; simp [-W_sSeq, -W_sIf]
        refine ⟨by omega, ?_⟩
        rw [show ((q : Int) / 15 % (rs.length : Int)) = ((q / 15 % rs.length : Nat) : Int) by push_cast; rfl]
        generalize q / 15 % rs.length = g at hgm
        generalize hkeep : (List.range rs.length).filter (fun j => decide (kpAt rs j ≠ "")) = ks
        have hks : ∀ j ∈ ks, j < rs.length ∧ kpAt rs j ≠ "" := fun j hj => by
          rw [← hkeep] at hj
          have := List.mem_filter.mp hj
          exact ⟨by simpa using this.1, of_decide_eq_true this.2⟩
        have hksl : ks.length ≤ rs.length := by
          rw [← hkeep]
          have := List.length_filter_le (fun j => decide (kpAt rs j ≠ "")) (List.range rs.length)
          simpa using this
        refine W_seq2 (fun l s' => s = s' ∧ ∃ (w : Str) (a11 a12 a13 : Option D), l = [some (.lst (ns.map .int)), some (nD m), some (.tup (rs.map Rm.D)), some (.lst (sz.map .int)), some (nD ne), some (.lst (ds.map Dr.D)), some (nD k), some (nD q), some (nD g), some (.str w), some (.lst (ks.map nD)), a11, a12, a13] ∧ (w = "to" ∨ w = "back" ∨ w = "stay")) ?_ ?_
        · rw [W_sSeq]; refine W_cut (fun l s' => s = s' ∧ ∃ (w : Str) (a10 a11 a12 a13 : Option D), l = [some (.lst (ns.map .int)), some (nD m), some (.tup (rs.map Rm.D)), some (.lst (sz.map .int)), some (nD ne), some (.lst (ds.map Dr.D)), some (nD k), some (nD q), some (nD g), some (.str w), a10, a11, a12, a13] ∧ (w = "to" ∨ w = "back" ∨ w = "stay")) ?_ ?_
          · simp
            refine getI_mem (by omega) (by simp; omega) ?_
            intro w hw
            simp at hw
            rcases hw with rfl | rfl | rfl
            · exact ⟨_, rfl, .inl rfl⟩
            · exact ⟨_, rfl, .inr (.inl rfl)⟩
            · exact ⟨_, rfl, .inr (.inr rfl)⟩
          rintro l s' ⟨rfl, w, a10, a11, a12, a13, rfl, hw⟩
          simp
          refine ⟨by omega, W_compR rs.length nD (fun j => decide (kpAt rs j ≠ "")) (by omega) ?_ ?_⟩
          · intro j hj
            simp [wipeD]
            rw [getI_r hj]
            rw [kpAt_get hj]
            try exact Bool.eq_iff_iff.mpr (by simp)
          · rw [hkeep]
            exact ⟨rfl, w, ⟨rfl, rfl⟩, hw⟩
        rintro l s' ⟨rfl, w, a11, a12, a13, rfl, hw⟩
        refine W_seq3 (fun l s' => s = s' ∧ ∃ (w : Str) (o : Option Nat) (a11 a12 a13 : Option D), l = [some (.lst (ns.map .int)), some (nD m), some (.tup (rs.map Rm.D)), some (.lst (sz.map .int)), some (nD ne), some (.lst (ds.map Dr.D)), some (nD k), some (nD q), some (uD o), some (.str w), some (.lst (ks.map nD)), a11, a12, a13] ∧ wayOk rs w o) ?_ ?_
        · rw [W_sSeq]; refine W_cut (fun l s' => s = s' ∧ ∃ (w : Str) (a11 a12 a13 : Option D), l = [some (.lst (ns.map .int)), some (nD m), some (.tup (rs.map Rm.D)), some (.lst (sz.map .int)), some (nD ne), some (.lst (ds.map Dr.D)), some (nD k), some (nD q), some (nD g), some (.str w), some (.lst (ks.map nD)), a11, a12, a13] ∧ (w = "to" ∨ w = "back" ∧ 0 < ks.length ∨ w = "stay")) ?_ ?_
          · refine W_ifD (decide (w = "back" ∧ ks.length = 0)) ?_ ?_
            · simp
              split
              · rename_i h
                simp [h]
              · rename_i h
                try simp [h]
            · split
              · simp
              · rename_i h
                rw [W_sNil]
                refine ⟨rfl, w, _, _, _, rfl, ?_⟩
                rcases hw with h1 | h1 | h1
                · exact .inl h1
                · exact .inr (.inl ⟨h1, Nat.pos_of_ne_zero fun z => h (decide_eq_true ⟨h1, z⟩)⟩)
                · exact .inr (.inr h1)
          rintro l s' ⟨rfl, w, a11, a12, a13, rfl, hw⟩
          rw [W_sSeq]; refine W_cut (fun l s' => s = s' ∧ ∃ (g : Nat) (a11 a12 a13 : Option D), l = [some (.lst (ns.map .int)), some (nD m), some (.tup (rs.map Rm.D)), some (.lst (sz.map .int)), some (nD ne), some (.lst (ds.map Dr.D)), some (nD k), some (nD q), some (nD g), some (.str w), some (.lst (ks.map nD)), a11, a12, a13] ∧ g < rs.length ∧ (w = "back" → kpAt rs g ≠ "")) ?_ ?_
          · refine W_ifD (decide (w = "back")) (by simp; try exact Bool.eq_iff_iff.mpr (by simp)) ?_
            split
            · rename_i h
              have h := of_decide_eq_true h
              have hk0 : 0 < ks.length := by
                rcases hw with h1 | h1 | h1
                · rw [h] at h1; exact absurd h1 (by decide)
                · exact h1.2
                · rw [h] at h1; exact absurd h1 (by decide)
              simp
              refine ⟨by omega, ?_⟩
              have hm2 := Nat.mod_lt g hk0
              rw [getI_i (k := g % ks.length) (by push_cast; rfl) hm2]
              have := hks _ (List.getElem_mem hm2)
              rw [att_get] at this
              exact ⟨att ks (g % ks.length), rfl, this.1, fun _ => this.2⟩
            · rename_i h
              rw [W_sNil]
              exact ⟨rfl, g, _, _, _, rfl, hgm, fun z => absurd (decide_eq_true z) h⟩
          rintro l s' ⟨rfl, g, a11, a12, a13, rfl, hg1, hg2⟩
          refine W_ifD (decide (w = "stay")) (by simp; try exact Bool.eq_iff_iff.mpr (by simp)) ?_
          split
          · rename_i h
            have h := of_decide_eq_true h
            simp
            exact ⟨w, none, ⟨rfl, rfl⟩, .inl ⟨h, rfl⟩⟩
          · rename_i h
            have h : w ≠ "stay" := fun z => h (decide_eq_true z)
            rw [W_sNil]
            refine ⟨rfl, w, some g, _, _, _, rfl, ?_⟩
            rcases hw with h1 | h1 | h1
            · exact .inr (.inl ⟨h1, g, rfl, hg1⟩)
            · exact .inr (.inr ⟨h1.1, g, rfl, hg1, by rw [← kpAt_get hg1]; exact hg2 h1.1⟩)
            · exact absurd h1 h
        rintro l s' ⟨rfl, w, o, a11, a12, a13, rfl, hway⟩
        refine W_seq2 (fun l s' => s = s' ∧ ∃ (gd : Gd) (a11 a13 : Option D), l = [some (.lst (ns.map .int)), some (nD m), some (.tup (rs.map Rm.D)), some (.lst (sz.map .int)), some (nD ne), some (.lst (ds.map Dr.D)), some (nD k), some (nD q), some (uD o), some (.str w), some (.lst (ks.map nD)), a11, some gd.D, a13] ∧ gd.ok sz.length rs.length ∧ gd.hgt ≤ 3) ?_ ?_
        · rw [W_sSeq]; simp
          split
          · simp (disch := omega) [mixed ns hn]
            obtain ⟨gd, g1, g2, g3⟩ := guard (nr := rs.length) (nb := sz.length) hr0 50 3 (mx ns (23 + (k : Int)) 4) (by omega) (by omega) s
            have g1' : m__law_guard [nD (mx ns (23 + (k : Int)) 4), nD rs.length, nD sz.length, .int 3] s = .ok gd.D s := g1
            rw [g1']
            simp
            exact ⟨gd, rfl, g2, g3⟩
          · exact ⟨.yes, by simp [Gd.D], trivial, by simp [Gd.hgt]⟩
        rintro l s' ⟨rfl, gd, a11, a13, rfl, g2, g3⟩
        obtain ⟨xs, x1, x2, x3⟩ := deeds hn (k := 23 + k) (t := 30) (by omega) (by omega) hsz (ne := ne) s
        have x1' : m__law_deeds [.lst (ns.map .int), .int (23 + (k : Int)), .int 30, .lst (sz.map .int), nD ne] s = .ok (.tup (xs.map Dd.D)) s := by
          have e : (23 + (k : Int)) = ((23 + k : Nat) : Int) := by omega
          rw [e]; exact x1
        rw [W_sSeq]; simp [-W_sSeq, x1']
        simp (disch := omega) [mixed ns hn]
        refine ⟨by omega, by omega, by omega, ds ++ [⟨mx ns (23 + (k : Int)) 5 % rs.length, q / 5 % 3 % ne, gd, xs, w, o⟩], by simp [Dr.D], by simp [hdl], fun d hd => ?_⟩
        rcases List.mem_append.mp hd with hd | hd
        · exact hds d hd
        · rw [List.mem_singleton.mp hd]
          exact ⟨Nat.mod_lt _ hr0, Nat.mod_lt _ hne, g2, by show gd.hgt ≤ 6; omega, ⟨by show xs.length ≤ 8; omega, x3⟩, hway⟩
      · intro l s' h
        have e : (c : Int).toNat = c := by omega
        rw [e] at h
        exact I l s' h
    rintro l s' ⟨rfl, ds, a6, a7, a8, a9, a10, a11, a12, a13, rfl, h1, h2⟩
    simp
    exact ⟨ds, rfl, h1, h2⟩
  obtain ⟨d, s', h1, rfl, ds, rfl, h2⟩ := h.ok
  exact ⟨ds, h1, h2⟩
end Law

namespace Law
open PySem Vx
theorem celm (ns : List Int) (i : Int) {m : Int} (hm : 0 < m) : ∃ q : Nat, cel ns i % m = (q : Int) ∧ (q : Int) < m := ⟨(cel ns i % m).toNat, by have := Int.emod_nonneg (cel ns i) (show m ≠ 0 by omega); omega, by have := Int.emod_lt_of_pos (cel ns i) hm; have := Int.emod_nonneg (cel ns i) (show m ≠ 0 by omega); omega⟩
theorem getI_nats {xs : List Nat} {i : Int} {Q : D → Prop} (h0 : 0 ≤ i) (h1 : i < xs.length) (h : ∀ x ∈ xs, Q (nD x)) : OW (getI (xs.map nD) i) Q :=
  getI_mem h0 (by simpa using h1) fun d hd => by
    obtain ⟨x, hx, rfl⟩ := List.mem_map.mp hd
    exact h x hx
set_option maxHeartbeats 4000000 in
theorem chart {ns : List Int} (hn : ns.length ≤ 63) (s : Sto) : ∃ c : Ch, m__law_chart [.lst (ns.map .int)] s = .ok c.D s ∧ ChOk c := by
  have h : (m__law_chart [.lst (ns.map .int)] s).S (fun d s' => s = s' ∧ ∃ c : Ch, d = c.D ∧ ChOk c) NoE := by
    unfold m__law_chart b__law_chart
    simp only [w_mDef, startD]
    refine ⟨rfl, ?_⟩
    rw [W_sSeq]; refine W_cut (fun l s' => s = s' ∧ ∃ n : Nat, l = [some (.lst (ns.map .int)), some (nD n), none, none, none, none, none, none, none, none, none, none, none, none, none] ∧ 0 < n ∧ n ≤ 10) ?_ ?_
    · simp (disch := omega) [mixed ns hn]
      exact ⟨1 + (mx ns 0 6 % 16 * 9 + 14) / 16, by omega, by omega, by omega⟩
    rintro l s' ⟨rfl, n0, rfl, n01, n02⟩
    rw [W_sSeq]; refine W_cut (fun l s' => s = s' ∧ ∃ n : Nat, l = [some (.lst (ns.map .int)), some (nD n), none, none, none, none, none, none, none, none, none, none, none, none, none] ∧ 0 < n ∧ n ≤ 20) ?_ ?_
    · refine W_ifD (decide (mx ns 0 50 % 16 = 0)) (by simp (disch := omega) [mixed ns hn] <;> omega) ?_
      split
      · simp (disch := omega) [mixed ns hn]
        exact ⟨11 + mx ns 0 51 % 10, by omega, by omega, by omega⟩
      · rw [W_sNil]
        exact ⟨rfl, n0, rfl, n01, by omega⟩
    rintro l s' ⟨rfl, n, rfl, n1, n2⟩
    rw [W_sSeq]; refine W_cut (fun l s' => s = s' ∧ ∃ ne : Nat, l = [some (.lst (ns.map .int)), some (nD n), some (nD ne), none, none, none, none, none, none, none, none, none, none, none, none] ∧ ne ≤ 3) ?_ ?_
    · simp (disch := omega) [mixed ns hn]
      refine getI_nats (xs := [0, 1, 1, 2, 2, 2, 3, 3]) (by omega) (by simp; omega) ?_
      intro x hx
      exact ⟨x, rfl, by simp at hx; omega⟩
    rintro l s' ⟨rfl, ne, rfl, hne⟩
    rw [W_sSeq]; simp [-W_sSeq]
    rw [W_sSeq]; refine W_cut (fun l s' => s = s' ∧ ∃ (bs : List Bx) (a4 a5 : Option D), l = [some (.lst (ns.map .int)), some (nD n), some (nD ne), some (.lst (bs.map Bx.D)), a4, a5, none, none, none, none, none, none, none, none, none] ∧ bs.length ≤ 2 ∧ ∀ b ∈ bs, BxOk b) ?_ ?_
    · rw [W_sFor]
      simp (disch := omega) [mixed ns hn, -W_sSeq, -W_sIf]
      refine ⟨by omega, ?_⟩
      have e : ((mx ns 2 6 : Int) % 3).toNat = mx ns 2 6 % 3 := by omega
      rw [e]
      have hm3 := Nat.mod_lt (mx ns 2 6) (show 0 < 3 by omega)
      generalize mx ns 2 6 % 3 = c at hm3
      have I : ∀ (l : Sl) (s' : Sto), (s = s' ∧ ∃ (bs : List Bx) (a4 a5 : Option D), l = [some (.lst (ns.map .int)), some (nD n), some (nD ne), some (.lst (bs.map Bx.D)), a4, a5, none, none, none, none, none, none, none, none, none] ∧ bs.length = c ∧ ∀ b ∈ bs, BxOk b) → (s = s' ∧ ∃ (bs : List Bx), (∃ a4 a5, l = [some (.lst (ns.map .int)), some (nD n), some (nD ne), some (.lst (bs.map Bx.D)), a4, a5, none, none, none, none, none, none, none, none, none]) ∧ bs.length ≤ 2 ∧ ∀ b ∈ bs, BxOk b) := by
        rintro l s' ⟨rfl, bs, a4, a5, rfl, h1, h2⟩
        exact ⟨rfl, bs, ⟨_, _, rfl⟩, by omega, h2⟩
      refine W_rg _ _ (fun k l s' => s = s' ∧ ∃ (bs : List Bx) (a4 a5 : Option D), l = [some (.lst (ns.map .int)), some (nD n), some (nD ne), some (.lst (bs.map Bx.D)), a4, a5, none, none, none, none, none, none, none, none, none] ∧ bs.length = k ∧ ∀ b ∈ bs, BxOk b) ?_ ?_ ?_
      · exact ⟨rfl, [], _, _, rfl, rfl, fun d h => by simp at h⟩
      · rintro k l s' hk ⟨rfl, bs, a4, a5, rfl, hbl, hbs⟩
        refine W_seq2 (fun l s' => s = s' ∧ ∃ (z : Int), l = [some (.lst (ns.map .int)), some (nD n), some (nD ne), some (.lst (bs.map Bx.D)), some (nD k), some (.int z), none, none, none, none, none, none, none, none, none] ∧ 1 ≤ z ∧ z ≤ 10 ^ 30) ?_ ?_
        · rw [W_sSeq]; simp (disch := omega) [mixed ns hn, -W_sIf]
          refine W_ifD (decide (mx ns 2 (44 + (k : Int)) % 6 = 0)) (by simp (disch := omega) [mixed ns hn] <;> omega) ?_
          split
          · simp [cell_at]
            have h3 := Int.emod_nonneg (cel ns 2) (show (1000000000000000000000000000000 : Int) ≠ 0 by omega)
            have h4 := Int.emod_lt_of_pos (cel ns 2) (show (0 : Int) < 1000000000000000000000000000000 by omega)
            omega
          · rw [W_sNil]
            exact ⟨rfl, _, rfl, by omega, by omega⟩
        rintro l s' ⟨rfl, z, rfl, z1, z2⟩
        obtain ⟨qn, hqn, _⟩ := celm ns 2 (m := 991) (by omega)
        simp (disch := omega) [cell_at, mixed ns hn]
        rw [hqn, name]
        simp
        refine ⟨by omega, by omega, bs ++ [⟨nameS k qn, z, (mx ns 2 (40 + (k : Int)) : Int) % z⟩], by simp [Bx.D], by simp [hbl], fun b hb => ?_⟩
        rcases List.mem_append.mp hb with hb | hb
        · exact hbs b hb
        · rw [List.mem_singleton.mp hb]
          exact ⟨nameS_w _ _, z1, z2, Int.emod_nonneg _ (by omega), Int.emod_lt_of_pos _ (by omega)⟩
      · intro l s' h
        exact I l s' h
    rintro l s' ⟨rfl, bs, a4, a5, rfl, hbl, hbs⟩
    rw [W_sSeq]; refine W_cut (fun l s' => s = s' ∧ l = [some (.lst (ns.map .int)), some (nD n), some (nD ne), some (.lst (bs.map Bx.D)), a4, a5, some (.lst ((bs.map Bx.sz).map .int)), none, none, none, none, none, none, none, none]) ?_ ?_
    · simp
      refine W_compM bs Bx.D (fun b => .int b.sz) (by omega) ?_ ?_
      · intro b hb
        simp [wipeD]
      · simp [Function.comp_def]
    rintro l s' ⟨rfl, rfl⟩
    have hsz : szsOk (bs.map Bx.sz) := ⟨by simp; omega, fun x hx => by
      obtain ⟨b, hb, rfl⟩ := List.mem_map.mp hx
      exact ⟨(hbs b hb).lo, (hbs b hb).hi⟩⟩
    generalize hZ : bs.map Bx.sz = zs at hsz
    have hzl : zs.length = bs.length := by rw [← hZ]; simp
    obtain ⟨qe, hqe, _⟩ := celm ns 3 (m := 983) (by omega)
    generalize hE : (List.range ne).map (fun k => nameS k qe) = es
    have hel : es.length = ne := by rw [← hE]; simp
    have hew : ∀ e ∈ es, IsW e := fun e he => by
      rw [← hE] at he
      obtain ⟨k, _, rfl⟩ := List.mem_map.mp he
      exact nameS_w _ _
    rw [W_sSeq]; refine W_cut (fun l s' => s = s' ∧ l = [some (.lst (ns.map .int)), some (nD n), some (nD ne), some (.lst (bs.map Bx.D)), a4, a5, some (.lst (zs.map .int)), none, some (.tup (es.map .str)), none, none, none, none, none, none]) ?_ ?_
    · simp
      refine ⟨by omega, W_compR ne (fun k => .str (nameS k qe)) (fun _ => true) (by omega) ?_ ?_⟩
      · intro k hk
        simp [wipeD, cell_at]
        rw [hqe, name]
        simp
      · rw [List.filter_eq_self.mpr (by simp), ← hE, List.map_map]
        simp [Function.comp_def]
    rintro l s' ⟨rfl, rfl⟩
    obtain ⟨ds, hd1, T, hd2, hd3⟩ := depths hn n1 (by omega) s
    obtain ⟨rs, qr, hr1, R⟩ := rooms hn (show ds.length ≤ 40 by omega) hsz (ne := ne) s
    have hrl : rs.length = n := by
      have := congrArg List.length R.map
      simp at this
      omega
    have hrm : rs.map Rm.d = ds := by rw [R.map, List.take_length]
    rw [W_sSeq]; simp [-W_sSeq, hd1, hr1]
    rw [W_sSeq]; refine W_cut (fun l s' => s = s' ∧ ∃ m : Nat, l = [some (.lst (ns.map .int)), some (nD n), some (nD ne), some (.lst (bs.map Bx.D)), a4, a5, some (.lst (zs.map .int)), none, some (.tup (es.map .str)), some (.tup (rs.map Rm.D)), some (nD m), none, none, none, none] ∧ m ≤ 10) ?_ ?_
    · simp (disch := omega) [mixed ns hn]
      refine getI_nats (xs := [4, 5, 6, 7, 8, 9, 10, 6, 7, 8, 2, 0]) (by omega) (by simp; omega) ?_
      intro x hx
      exact ⟨x, rfl, by simp at hx; omega⟩
    rintro l s' ⟨rfl, m, rfl, hm⟩
    obtain ⟨xs, hx1, hx2, hx3⟩ := doors hn (show m ≤ 60 by omega) (rs := rs) (by omega) (by omega) hsz (ne := ne) s
    rw [W_sSeq]; simp [-W_sSeq, hx1]
    rw [W_sSeq]; refine W_cut (fun l s' => s = s' ∧ ∃ w : Str, l = [some (.lst (ns.map .int)), some (nD n), some (nD ne), some (.lst (bs.map Bx.D)), a4, a5, some (.lst (zs.map .int)), none, some (.tup (es.map .str)), some (.tup (rs.map Rm.D)), some (nD m), some (.tup (xs.map Dr.D)), some (.str w), none, none] ∧ (w = "inner" ∨ w = "outer")) ?_ ?_
    · simp (disch := omega) [mixed ns hn]
      refine getI_mem (by omega) (by simp; omega) ?_
      intro w hw
      simp at hw
      rcases hw with rfl | rfl
      · exact ⟨_, rfl, .inl rfl⟩
      · exact ⟨_, rfl, .inr rfl⟩
    rintro l s' ⟨rfl, w, rfl, hw⟩
    rw [W_sSeq]; refine W_cut (fun l s' => s = s' ∧ ∃ q : Nat, l = [some (.lst (ns.map .int)), some (nD n), some (nD ne), some (.lst (bs.map Bx.D)), a4, a5, some (.lst (zs.map .int)), none, some (.tup (es.map .str)), some (.tup (rs.map Rm.D)), some (nD m), some (.tup (xs.map Dr.D)), some (.str w), some (nD q), none] ∧ q ≤ 12) ?_ ?_
    · simp (disch := omega) [mixed ns hn]
      refine getI_nats (xs := [0, 1, 2, 3, 2, 4, 3, 5]) (by omega) (by simp; omega) ?_
      intro x hx
      exact ⟨x, rfl, by simp at hx; omega⟩
    rintro l s' ⟨rfl, q, rfl, hq⟩
    rw [W_sSeq]; refine W_cut (fun l s' => s = s' ∧ ∃ t : Nat, l = [some (.lst (ns.map .int)), some (nD n), some (nD ne), some (.lst (bs.map Bx.D)), a4, a5, some (.lst (zs.map .int)), none, some (.tup (es.map .str)), some (.tup (rs.map Rm.D)), some (nD m), some (.tup (xs.map Dr.D)), some (.str w), some (nD q), some (nD t)] ∧ 1 ≤ t ∧ t ≤ 20) ?_ ?_
    · simp (disch := omega) [mixed ns hn]
      refine getI_nats (xs := [1, 2, 3, 4, 3, 4, 2, 4]) (by omega) (by simp; omega) ?_
      intro x hx
      exact ⟨x, rfl, by simp at hx; omega⟩
    rintro l s' ⟨rfl, t, rfl, ht⟩
    simp
    refine ⟨⟨w, q, t, bs, es, rs, xs⟩, by simp [Ch.D], hw, hq, ht, ⟨by show bs.length ≤ 6; omega, hbs⟩, ⟨by show es.length ≤ 8; omega, hew⟩, ?_, fun r hr => ?_, ?_, fun r hr => ?_, ?_⟩
    · show Tree (rs.map Rm.d)
      rw [hrm]; exact T
    · have : r.d ∈ ds := by rw [← hrm]; exact List.mem_map_of_mem hr
      have := hd3 _ this
      omega
    · show ∀ i, i < (rs.map Rm.d).length → Kd (rs.map Rm.d) i (rk rs i)
      rw [hrm]
      intro i hi
      exact R.kd i (by omega)
    · show RmOk (bs.map Bx.sz) es.length r
      rw [hZ, hel]
      exact R.ok r hr
    · show xs.length ≤ 60 ∧ ∀ d ∈ xs, DrOk bs.length es.length (bs.map Bx.sz) rs d
      rw [hZ, hel, ← hzl]
      exact ⟨by omega, hx3⟩
  obtain ⟨d, s', h1, rfl, c, rfl, hc⟩ := h.ok
  exact ⟨c, h1, hc⟩
end Law

namespace Law
open PySem Vx
/-- what is open beneath r, r too -/
structure Sub (rs : List Rm) (ds : List Nat) (r : Nat) (os : List Nat) : Prop where
  hd : ∃ t, os = r :: t
  rise : os.Pairwise (· < ·)
  lt : ∀ k ∈ os, k < ds.length
  met : ∀ k ∈ os, k = r ∨ Met ds k r
  up : ∀ k ∈ os, k ≠ r → par ds k ∈ os
  all : ∀ p ∈ os, rk rs p = "all" → ∀ k ∈ kidsL ds p, k ∈ os
  one : ∀ p ∈ os, rk rs p ≠ "all" → kidsL ds p ≠ [] → ∃ c ∈ kidsL ds p, c ∈ os ∧ ∀ k ∈ kidsL ds p, k ∈ os → k = c
section
variable {rs : List Rm} {ds : List Nat} (T : Tree ds) (K : KdAll rs ds)
theorem Sub.mem {r : Nat} {os : List Nat} (S : Sub rs ds r os) : r ∈ os := by
  obtain ⟨t, rfl⟩ := S.hd
  exact List.mem_cons_self
include T
theorem Sub.range {r : Nat} {os : List Nat} (S : Sub rs ds r os) {k : Nat} (hk : k ∈ os) : r ≤ k ∧ k < eo ds r := by
  have hr := S.lt r S.mem
  have hkl := S.lt k hk
  obtain ⟨q1, q2, q3, q4⟩ := eo_spec hr
  rcases S.met k hk with e | m
  · subst e; exact ⟨Nat.le_refl _, q1⟩
  · have := (lies_met T hr k hkl).mpr m
    simp only [lies, Bool.and_eq_true, decide_eq_true_eq] at this
    omega
theorem kids_apart {r c d : Nat} (hc : c ∈ kidsL ds r) (hd : d ∈ kidsL ds r) (h : c < d) : eo ds c ≤ d := by
  obtain ⟨c1, c2, c3⟩ := kid_dep T hc
  obtain ⟨d1, d2, d3⟩ := kid_dep T hd
  obtain ⟨q1, q2, q3, q4⟩ := eo_spec c2
  have : ¬ d < eo ds c := fun z => by have := q3 d h z; omega
  omega
theorem kids_in {r c : Nat} (hc : c ∈ kidsL ds r) : r < c ∧ eo ds c ≤ eo ds r := by
  obtain ⟨c1, c2, c3⟩ := kid_dep T hc
  obtain ⟨h1, h2, h3⟩ := mem_kids.mp hc
  have hr : r < ds.length := by omega
  have hp := par_out T hr h2 h1 h3
  obtain ⟨q1, q2, q3, q4⟩ := eo_spec c2
  obtain ⟨p1, p2, p3, p4⟩ := eo_spec hr
  refine ⟨c1, ?_⟩
  have : ¬ eo ds r < eo ds c := fun z => by
    have a1 := q3 (eo ds r) (by omega) z
    have a2 := p4 (by omega)
    omega
  omega
theorem kid_met' {r c : Nat} (hc : c ∈ kidsL ds r) : Met ds c r := by
  obtain ⟨h1, h2, h3⟩ := mem_kids.mp hc
  have := Met.here (ds := ds) h2
  rw [h3] at this
  exact this
theorem met_tr {a b c : Nat} (h : Met ds a b) (h' : Met ds b c) : Met ds a c := by
  induction h with
  | here h => exact .up h h'
  | up h m ih => exact .up h (ih h')
/-- kids together -/
theorem Sub.make {r : Nat} (hr : r < ds.length) {cs : List Nat} (hcs : cs.Pairwise (· < ·)) (hck : ∀ c ∈ cs, c ∈ kidsL ds r) {O : Nat → List Nat} (hO : ∀ c ∈ cs, Sub rs ds c (O c))
    (hall : rk rs r = "all" → ∀ c ∈ kidsL ds r, c ∈ cs) (hone : rk rs r ≠ "all" → kidsL ds r ≠ [] → ∃ c, cs = [c]) : Sub rs ds r (r :: cs.flatMap O) := by
  have inO : ∀ k, k ∈ cs.flatMap O ↔ ∃ c ∈ cs, k ∈ O c := fun k => List.mem_flatMap
  have mr : r ∈ r :: cs.flatMap O := List.mem_cons_self
  have mO : ∀ {k c}, c ∈ cs → k ∈ O c → k ∈ r :: cs.flatMap O := fun hc hk => List.mem_cons_of_mem _ ((inO _).mpr ⟨_, hc, hk⟩)
  have gt : ∀ {k c}, c ∈ cs → k ∈ O c → r < k := fun hc hk => by
    have := (Sub.range T (hO _ hc) hk).1
    have := (kids_in T (hck _ hc)).1
    omega
  refine ⟨⟨_, rfl⟩, ?_, fun k hk => ?_, fun k hk => ?_, fun k hk hne => ?_, fun p hp ha k hk => ?_, fun p hp ha hne => ?_⟩
  · rw [List.pairwise_cons]
    refine ⟨fun k hk => ?_, ?_⟩
    · obtain ⟨c, hc, hk⟩ := (inO k).mp hk
      exact gt hc hk
    · clear inO mr mO gt hall hone
      induction cs with
      | nil => simp
      | cons c cs ih =>
        rw [List.flatMap_cons, List.pairwise_append]
        have hcs' := List.pairwise_cons.mp hcs
        refine ⟨(hO c List.mem_cons_self).rise, ih hcs'.2 (fun d hd => hck d (List.mem_cons_of_mem _ hd)) (fun d hd => hO d (List.mem_cons_of_mem _ hd)), fun a ha b hb => ?_⟩
        obtain ⟨d, hd, hb⟩ := List.mem_flatMap.mp hb
        have a1 := (Sub.range T (hO c List.mem_cons_self) ha).2
        have b1 := (Sub.range T (hO d (List.mem_cons_of_mem _ hd)) hb).1
        have := kids_apart T (hck c List.mem_cons_self) (hck d (List.mem_cons_of_mem _ hd)) (hcs'.1 d hd)
        omega
  · rcases List.mem_cons.mp hk with e | hk
    · rw [e]; exact hr
    · obtain ⟨c, hc, hk⟩ := (inO k).mp hk
      exact (hO c hc).lt k hk
  · rcases List.mem_cons.mp hk with e | hk
    · exact .inl e
    · obtain ⟨c, hc, hk⟩ := (inO k).mp hk
      right
      rcases (hO c hc).met k hk with e | m
      · rw [e]; exact kid_met' T (hck c hc)
      · exact met_tr T m (kid_met' T (hck c hc))
  · rcases List.mem_cons.mp hk with e | hk
    · exact absurd e hne
    · obtain ⟨c, hc, hk⟩ := (inO k).mp hk
      by_cases e : k = c
      · subst e
        rw [(mem_kids.mp (hck k hc)).2.2]
        exact mr
      · exact mO hc ((hO c hc).up k hk e)
  · rcases List.mem_cons.mp hp with e | hp
    · subst e
      have := hall ha k hk
      exact mO this (hO k this).mem
    · obtain ⟨c, hc, hp⟩ := (inO p).mp hp
      exact mO hc ((hO c hc).all p hp ha k hk)
  · rcases List.mem_cons.mp hp with e | hp
    · subst e
      obtain ⟨c, rfl⟩ := hone ha hne
      have hc : c ∈ [c] := List.mem_singleton.mpr rfl
      refine ⟨c, hck c hc, mO hc (hO c hc).mem, fun k hk hko => ?_⟩
      obtain ⟨k1, k2, k3⟩ := kid_dep T hk
      obtain ⟨c1, c2, c3⟩ := kid_dep T (hck c hc)
      rcases List.mem_cons.mp hko with e | hko
      · omega
      · obtain ⟨d, hd, hko⟩ := (inO k).mp hko
        rw [List.mem_singleton.mp hd] at hko
        rcases (hO c hc).met k hko with e | m
        · exact e
        · exfalso
          have := (lies_iff c2 k2).mp ((lies_met T c2 k k2).mpr m)
          have := this.2 k (by omega) (Nat.le_refl _)
          omega
    · obtain ⟨c, hc, hp⟩ := (inO p).mp hp
      obtain ⟨d, hd1, hd2, hd3⟩ := (hO c hc).one p hp ha hne
      refine ⟨d, hd1, mO hc hd2, fun k hk hko => hd3 k hk ?_⟩
      obtain ⟨k1, k2, k3⟩ := mem_kids.mp hk
      have hpr := Sub.range T (hO c hc) hp
      have hcr := (kids_in T (hck c hc)).1
      have hpk := (par_spec T k2 k1).1
      rcases List.mem_cons.mp hko with e | hko
      · omega
      · obtain ⟨x, hx, hkx⟩ := (inO k).mp hko
        by_cases e : x = c
        · rw [← e]; exact hkx
        · exfalso
          have hkr := Sub.range T (hO x hx) hkx
          have hxr := (kids_in T (hck x hx)).1
          by_cases ekx : k = x
          · subst ekx
            have := (mem_kids.mp (hck k hx)).2.2
            omega
          · have hup := (hO x hx).up k hkx ekx
            rw [k3] at hup
            have hpx := Sub.range T (hO x hx) hup
            rcases Nat.lt_or_gt_of_ne e with h | h
            · have := kids_apart T (hck x hx) (hck c hc) h
              omega
            · have := kids_apart T (hck c hc) (hck x hx) h
              omega
theorem Sub.opn {os : List Nat} (S : Sub rs ds 0 os) : 0 ∈ os ∧ (∀ k ∈ os, 0 < k → par ds k ∈ os) := ⟨S.mem, fun k hk h => S.up k hk (by omega)⟩
theorem Sub.len {r : Nat} {os : List Nat} (S : Sub rs ds r os) : os.length ≤ ds.length := by
  have key : ∀ (n : Nat) (us : List Nat), us.Pairwise (· < ·) → (∀ x ∈ us, x < n) → us.length ≤ n := by
    intro n
    induction n with
    | zero =>
      intro us _ h
      cases us with
      | nil => simp
      | cons a t => exact absurd (h a List.mem_cons_self) (by omega)
    | succ n ih =>
      intro us hs h
      rcases List.eq_nil_or_concat us with rfl | ⟨t, a, rfl⟩
      · simp
      · rw [List.concat_eq_append] at *
        have hs' := List.pairwise_append.mp hs
        have ha := h a (by simp)
        have := ih t hs'.1 fun x hx => by
          have := hs'.2.2 x hx a (by simp)
          omega
        simp
        omega
  exact key _ _ S.rise S.lt
end
theorem opened_succ (n : Nat) : r__law_opened (n + 1) = mDef 8 4 (b__law_opened (r__law_opened n)) := rfl
set_option maxHeartbeats 2000000 in
theorem opened {ns : List Int} (hn : ns.length ≤ 63) {rs : List Rm} {ds : List Nat} (M : Rms rs ds) (T : Tree ds) (K : KdAll rs ds) {at' : Nat} (hat : at' < 1000000) :
    ∀ (f r : Nat), ds.length - r ≤ f → r < ds.length → ∃ os : List Nat, (∀ s, r__law_opened f [.tup (rs.map Rm.D), nD r, .lst (ns.map .int), nD at'] s = .ok (.lst (os.map nD)) s) ∧ Sub rs ds r os := by
  intro f
  have hle := T.le
  have hlen := M.len
  induction f with
  | zero => intro r h1 h2; omega
  | succ f ih =>
    intro r h1 h2
    obtain ⟨q1, q2, q3, q4⟩ := eo_spec h2
    have hkc := kd_kids T K h2
    have hkl := kids_len ds r
    have hks : (kidsL ds r).Pairwise (· < ·) := (List.pairwise_lt_range).filter _
    have hO : ∃ O : Nat → List Nat, ∀ c ∈ kidsL ds r, (∀ s, r__law_opened f [.tup (rs.map Rm.D), nD c, .lst (ns.map .int), nD at'] s = .ok (.lst ((O c).map nD)) s) ∧ Sub rs ds c (O c) := by
      have : ∀ c, ∃ o : List Nat, c ∈ kidsL ds r → (∀ s, r__law_opened f [.tup (rs.map Rm.D), nD c, .lst (ns.map .int), nD at'] s = .ok (.lst (o.map nD)) s) ∧ Sub rs ds c o := fun c => by
        by_cases h : c ∈ kidsL ds r
        · obtain ⟨c1, c2, c3⟩ := kid_dep T h
          obtain ⟨o, o1, o2⟩ := ih c (by omega) c2
          exact ⟨o, fun _ => ⟨o1, o2⟩⟩
        · exact ⟨[], fun z => absurd z h⟩
      exact ⟨fun c => Classical.choose (this c), fun c hc => Classical.choose_spec (this c) hc⟩
    obtain ⟨O, hO⟩ := hO
    -- what is chosen
    have hC : ∃ cs : List Nat, cs.Pairwise (· < ·) ∧ (∀ c ∈ cs, c ∈ kidsL ds r) ∧ (rk rs r = "all" → cs = kidsL ds r) ∧ (rk rs r ≠ "all" → kidsL ds r ≠ [] → ∃ c, cs = [c]) ∧ (kidsL ds r = [] → cs = []) ∧
        (rk rs r = "one" → kidsL ds r ≠ [] → cs = [att (kidsL ds r) (mx ns ((at' : Int) + r) 8 % (kidsL ds r).length)]) := by
      by_cases hk : kidsL ds r = []
      · exact ⟨[], by simp, by simp, fun _ => hk.symm, fun _ h => absurd hk h, fun _ => rfl, fun _ h => absurd hk h⟩
      · by_cases ha : rk rs r = "all"
        · exact ⟨kidsL ds r, hks, fun c h => h, fun _ => rfl, fun h => absurd ha h, fun h => h, fun h => by rw [ha] at h; exact absurd h (by decide)⟩
        · have hm := Nat.mod_lt (mx ns ((at' : Int) + r) 8) (List.length_pos_iff.mpr hk)
          refine ⟨[att (kidsL ds r) (mx ns ((at' : Int) + r) 8 % (kidsL ds r).length)], by simp, fun c hc => ?_, fun h => absurd h ha, fun _ _ => ⟨_, rfl⟩, fun h => absurd h hk, fun _ _ => rfl⟩
          rw [List.mem_singleton.mp hc, ← att_get _ _ hm]
          exact List.getElem_mem _
    obtain ⟨cs, hcs, hck, hc1, hc2, hc3, hc4⟩ := hC
    have S : Sub rs ds r (r :: cs.flatMap O) := Sub.make T h2 hcs hck (fun c hc => (hO c (hck c hc)).2) (fun h c hc => by rw [hc1 h]; exact hc) hc2
    refine ⟨_, fun s => ?_, S⟩
    have hSl := Sub.len T S
    have h : (r__law_opened (f + 1) [.tup (rs.map Rm.D), nD r, .lst (ns.map .int), nD at'] s).S (fun d s' => s = s' ∧ d = .lst ((r :: cs.flatMap O).map nD)) NoE := by
      rw [opened_succ]
      unfold b__law_opened
      simp only [w_mDef, startD]
      refine ⟨rfl, ?_⟩
      rw [W_sSeq]; simp [-W_sSeq, -W_sIf]
      rw [W_sSeq]; refine W_ifD (decide (rk rs r = "plain")) ?_ ?_
      · simp
        rw [getI_r (by omega)]
        simp [rk_get]
        try exact Bool.eq_iff_iff.mpr (by simp)
      split
      · rename_i h
        have h := of_decide_eq_true h
        have hk0 : kidsL ds r = [] := Classical.byContradiction fun z => by
          rcases hkc.1 z with e | e
          · rw [h] at e; exact absurd e (by decide)
          · rw [h] at e; exact absurd e (by decide)
        simp [hc3 hk0]
      rename_i hnp
      have hnp : rk rs r ≠ "plain" := fun z => hnp (decide_eq_true z)
      have hkn : kidsL ds r ≠ [] := fun z => hnp (hkc.2 z)
      rw [W_sNil]
      rw [W_sSeq]; simp [-W_sSeq, -W_sIf]
      rw [W_sSeq]; simp [-W_sSeq, -W_sIf]
      rw [W_sSeq]; refine W_cut (fun l s' => s = s' ∧ ∃ a, l = [some (.tup (rs.map Rm.D)), some (nD r), some (.lst (ns.map .int)), some (nD at'), some (.lst [nD r]), some (.lst ((kidsL ds r).map nD)), a, none]) ?_ ?_
      · rw [W_sWhile]
        refine W_while (fun m l s' => s = s' ∧ ∃ k : Nat, m = ds.length - k ∧ l = [some (.tup (rs.map Rm.D)), some (nD r), some (.lst (ns.map .int)), some (nD at'), some (.lst [nD r]), some (.lst (((List.range k).filter fun j => decide (0 < j) && decide (par ds j = r)).map nD)), some (nD k), none] ∧ r < k ∧ k ≤ eo ds r) ?_ _ (ds.length - (r + 1)) _ _ (by unfold bigN; omega) ?_
        · rintro m l s' ⟨rfl, k, rfl, rfl, k1, k2⟩
          have hll := List.length_filter_le (fun j => decide (0 < j) && decide (par ds j = r)) (List.range k)
          rw [List.length_range] at hll
          by_cases hke : k < eo ds r
          · have hp := par_iff T h2 (j := k) k1 hke
            have hq := q3 k k1 hke
            have hadd : ((List.range (k + 1)).filter fun j => decide (0 < j) && decide (par ds j = r)) = ((List.range k).filter fun j => decide (0 < j) && decide (par ds j = r)) ++ (if att ds k = att ds r + 1 then [k] else []) := by
              rw [List.range_succ, List.filter_append]
              congr 1
              have : 0 < k := by omega
              by_cases e : att ds k = att ds r + 1
              · have e2 := hp.mpr e
                rw [if_pos e, List.filter_cons, e2]
                simp [this]
              · have e2 : ¬ par ds k = r := fun h => e (hp.mp h)
                rw [if_neg e, List.filter_cons]
                simp [e2]
            simp [-W_sSeq, -W_sIf]
            have hkr : k < rs.length := by omega
            rw [if_pos hkr, getI_r hkr, getI_r (by omega), M.get, M.get, if_pos hq]
            rw [W_sSeq]; refine W_cut (fun l s' => s = s' ∧ l = [some (.tup (rs.map Rm.D)), some (nD r), some (.lst (ns.map .int)), some (nD at'), some (.lst [nD r]), some (.lst (((List.range (k + 1)).filter fun j => decide (0 < j) && decide (par ds j = r)).map nD)), some (nD k), none]) ?_ ?_
            · rw [hadd]
              generalize ((List.range k).filter fun j => decide (0 < j) && decide (par ds j = r)) = us at hll ⊢
              refine W_ifD (decide (att ds k = att ds r + 1)) ?_ ?_
              · simp
                rw [getI_r hkr, getI_r (by omega), M.get, M.get]
                omega
              · split
                · rename_i h
                  rw [if_pos (of_decide_eq_true h)]
                  simp
                  omega
                · rename_i h
                  rw [if_neg (fun z => h (decide_eq_true z)), W_sNil]
                  simp
            rintro l s' ⟨rfl, rfl⟩
            simp
            exact ⟨ds.length - (k + 1), by omega, k + 1, rfl, by simp, by omega, by omega⟩
          · have hke : k = eo ds r := by omega
            have hend : ((List.range k).filter fun j => decide (0 < j) && decide (par ds j = r)) = kidsL ds r := by
              unfold kidsL
              have e1 : List.range ds.length = List.range k ++ (List.range (ds.length - k)).map (k + ·) := by
                rw [← List.range_add]
                congr 1
                omega
              rw [e1, List.filter_append]
              have e2 : ((List.range (ds.length - k)).map (k + ·)).filter (fun j => decide (0 < j) && decide (par ds j = r)) = [] := by
                rw [List.filter_eq_nil_iff]
                intro j hj
                obtain ⟨i, hi, rfl⟩ := List.mem_map.mp hj
                simp at hi
                intro hc
                simp at hc
                have := par_out T h2 (j := k + i) hc.1 (by omega) hc.2
                omega
              rw [e2, List.append_nil]
            rw [hend]
            simp [-W_sSeq, -W_sIf]
            intro hkr
            rw [getI_r hkr, getI_r (by omega), M.get, M.get]
            intro hc
            exfalso
            have := q4 (by omega)
            rw [hke] at hc
            omega
        · refine ⟨rfl, r + 1, rfl, ?_, by omega, by omega⟩
          have e : ((List.range (r + 1)).filter fun j => decide (0 < j) && decide (par ds j = r)) = [] := by
            rw [List.filter_eq_nil_iff]
            intro j hj
            simp at hj
            by_cases h0 : 0 < j
            · have := (par_spec T h0 (by omega)).1
              simp [h0]
              omega
            · simp [h0]
          rw [e]
          simp
      rintro l s' ⟨rfl, a, rfl⟩
      rw [W_sSeq]; refine W_cut (fun l s' => s = s' ∧ l = [some (.tup (rs.map Rm.D)), some (nD r), some (.lst (ns.map .int)), some (nD at'), some (.lst [nD r]), some (.lst (cs.map nD)), a, none]) ?_ ?_
      · refine W_ifD (decide (rk rs r = "one")) ?_ ?_
        · simp
          rw [getI_r (by omega)]
          simp [rk_get]
          try exact Bool.eq_iff_iff.mpr (by simp)
        split
        · rename_i h
          have h := of_decide_eq_true h
          have hm := Nat.mod_lt (mx ns ((at' : Int) + r) 8) (List.length_pos_iff.mpr hkn)
          simp (disch := omega) [mixed ns hn]
          refine ⟨List.length_pos_iff.mpr hkn, ?_⟩
          rw [getI_i (k := mx ns ((at' : Int) + r) 8 % (kidsL ds r).length) (by push_cast; rfl) hm]
          rw [hc4 h hkn]
          simp
        · rename_i h
          have h : rk rs r ≠ "one" := fun z => h (decide_eq_true z)
          rw [W_sNil]
          have ha : rk rs r = "all" := (hkc.1 hkn).resolve_left h
          rw [hc1 ha]
          exact ⟨rfl, rfl⟩
      rintro l s' ⟨rfl, rfl⟩
      rw [W_sSeq]; rw [W_sFor]; simp
      refine W_forM nD cs (fun dn l s' => s = s' ∧ ∃ b, l = [some (.tup (rs.map Rm.D)), some (nD r), some (.lst (ns.map .int)), some (nD at'), some (.lst ((r :: dn.flatMap O).map nD)), some (.lst (cs.map nD)), a, b]) ?_ ?_ ?_
      · exact ⟨rfl, none, by simp⟩
      · rintro dn c rest l s' he ⟨rfl, b, rfl⟩
        have hcm : c ∈ cs := by rw [he]; simp
        have hrec := (hO c (hck c hcm)).1 s
        have hl1 : (r :: dn.flatMap O).length + (O c).length ≤ ds.length := by
          have : (r :: cs.flatMap O).length = (r :: dn.flatMap O).length + (O c).length + (rest.flatMap O).length := by
            rw [he]
            simp
            omega
          omega
        simp [hrec]
        simp at hl1
        try simp
        omega
      · rintro l s' ⟨rfl, b, rfl⟩
        simp
    obtain ⟨d, s', e1, rfl, rfl⟩ := h.ok
    exact e1
end Law

namespace Law
open PySem Vx
def plainB (rs : List Rm) (y : Nat) : Bool := rk rs y == Str.ofString "plain"
/-- what may be kept of a room -/
def KpOk (rs : List Rm) (ds : List Nat) (r : Nat) (q : List Nat) : Prop :=
  q = [] ∨ kpAt rs r = "near" ∧ (∃ c ∈ kidsL ds r, q = [c]) ∨ kpAt rs r = "deep" ∧ ∃ os, Sub rs ds r os ∧ q = os.tail.filter (plainB rs)
structure StOk (c : Ch) (st : St) : Prop where
  op : Sub c.rooms c.ds 0 st.op
  hl : st.held.length = c.boxes.length
  held : ∀ i (h : i < c.boxes.length), ∃ h' : i < st.held.length, 0 ≤ st.held[i] ∧ st.held[i] < c.boxes[i].sz
  kl : st.kept.length = c.ds.length
  kept : ∀ r (h : r < c.ds.length), ∃ h' : r < st.kept.length, KpOk c.rooms c.ds r st.kept[r]
section
variable {rs : List Rm} {ds : List Nat}
theorem Sub.first (T : Tree ds) {r x : Nat} {t : List Nat} (S : Sub rs ds r (r :: x :: t)) : x ∈ kidsL ds r := by
  have hx : x ∈ r :: x :: t := by simp
  have hs := List.pairwise_cons.mp S.rise
  have hrx := hs.1 x (by simp)
  have hxl := S.lt x hx
  have hp := (par_spec T (k := x) (by omega) hxl).1
  have hu := S.up x hx (by omega)
  refine mem_kids.mpr ⟨hxl, by omega, ?_⟩
  rcases List.mem_cons.mp hu with e | hu
  · exact e
  · rcases List.mem_cons.mp hu with e | hu
    · omega
    · have := (List.pairwise_cons.mp hs.2).1 _ hu
      omega
theorem Sub.tail_lies (T : Tree ds) {r : Nat} {os : List Nat} (S : Sub rs ds r os) {x : Nat} (hx : x ∈ os.tail) : x ∈ os ∧ Met ds x r := by
  obtain ⟨t, rfl⟩ := S.hd
  have hx' : x ∈ r :: t := List.mem_cons_of_mem _ hx
  refine ⟨hx', ?_⟩
  rcases S.met x hx' with e | m
  · have := (List.pairwise_cons.mp S.rise).1 x hx
    omega
  · exact m
end
set_option maxHeartbeats 4000000 in
theorem stand {ns : List Int} (hn : ns.length ≤ 63) {c : Ch} (C : ChOk c) {at' : Nat} (hat : at' < 10000) (s : Sto) : ∃ st : St, m__law_stand [Ch.D c, .lst (ns.map .int), nD at'] s = .ok st.D s ∧ StOk c st := by
  have T := C.tree
  have hle := T.le
  have hpos := T.pos
  have M : Rms c.rooms c.ds := ⟨rfl⟩
  have hlen : c.rooms.length = c.ds.length := M.len
  have K : KdAll c.rooms c.ds := C.kd
  have hbl := C.boxes.1
  have h : (m__law_stand [Ch.D c, .lst (ns.map .int), nD at'] s).S (fun d s' => s = s' ∧ ∃ st : St, d = st.D ∧ StOk c st) NoE := by
    unfold m__law_stand b__law_stand
    simp only [w_mDef, startD]
    refine ⟨rfl, ?_⟩
    rw [W_sSeq]; simp [-W_sSeq]
    rw [W_sSeq]; simp [-W_sSeq]
    rw [W_sSeq]; refine W_cut (fun l s' => s = s' ∧ ∃ (qs : List (List Nat)) (a5 a6 a7 a8 : Option D), l = [some (Ch.D c), some (.lst (ns.map .int)), some (nD at'), some (.tup (c.rooms.map Rm.D)), some (.lst (qs.map tupN)), a5, a6, a7, a8] ∧ qs.length = c.ds.length ∧ ∀ r (h : r < qs.length), KpOk c.rooms c.ds r qs[r]) ?_ ?_
    · rw [W_sFor]
      simp [-W_sSeq, -W_sIf]
      refine ⟨by omega, W_rg _ _ (fun k l s' => s = s' ∧ ∃ (qs : List (List Nat)) (a5 a6 a7 a8 : Option D), l = [some (Ch.D c), some (.lst (ns.map .int)), some (nD at'), some (.tup (c.rooms.map Rm.D)), some (.lst (qs.map tupN)), a5, a6, a7, a8] ∧ qs.length = k ∧ ∀ r (h : r < qs.length), KpOk c.rooms c.ds r qs[r]) ?_ ?_ ?_⟩
      · exact ⟨rfl, [], _, _, _, _, rfl, rfl, fun r h => by simp at h⟩
      · rintro k l s' hk ⟨rfl, qs, a5, a6, a7, a8, rfl, hql, hqs⟩
        have hkd : k < c.ds.length := by omega
        have hkr : k < c.rooms.length := by omega
        obtain ⟨os, ho, S⟩ := opened hn M T K (at' := at' + 7 * k) (by omega) 50 k (by omega) hkd
        have hSl := Sub.len T S
        have ho' : m__law_opened [.tup (c.rooms.map Rm.D), nD k, .lst (ns.map .int), .int ((at' : Int) + 7 * (k : Int))] s = .ok (.lst (os.map nD)) s := by
          have e : ((at' : Int) + 7 * (k : Int)) = ((at' + 7 * k : Nat) : Int) := by omega
          rw [e]; exact ho s
        have hR := C.rooms _ (List.getElem_mem hkr)
        have hkp := hR.kp
        rw [rk_get] at hkp
        rw [W_sSeq]; simp [-W_sSeq, -W_sIf, ho']
        obtain ⟨t, rfl⟩ := S.hd
        have ecut : cutD (k :: t) (some 1) none = t := by
          rw [cut_from _ _ (by omega)]
          rfl
        rw [ecut]
        have htl : t.length ≤ 40 := by simp at hSl; omega
        have hkpa := kpAt_get hkr
        rw [W_sSeq]; refine W_cut (fun l s' => s = s' ∧ ∃ (q : List Nat), l = [some (Ch.D c), some (.lst (ns.map .int)), some (nD at'), some (.tup (c.rooms.map Rm.D)), some (.lst (qs.map tupN)), some (nD k), some (.lst (q.map nD)), a7, a8] ∧ (q = [] ∨ q = t ∧ c.rooms[k].kp ≠ "")) ?_ ?_
        · refine W_ifD (decide (c.rooms[k].kp = "" ∨ mx ns ((at' : Int) + k) 9 % 3 = 0)) ?_ ?_
          · simp
            rw [getI_r hkr]
            try simp
            split
            · rename_i h
              simp [h]
            · rename_i h
              simp (disch := omega) [h, mixed ns hn]
              omega
          · split
            · simp
            · rename_i h
              have h : ¬ (c.rooms[k].kp = "" ∨ mx ns ((at' : Int) + k) 9 % 3 = 0) := fun z => h (decide_eq_true z)
              rw [W_sNil]
              exact ⟨rfl, t, rfl, .inr ⟨rfl, fun z => h (.inl z)⟩⟩
        rintro l s' ⟨rfl, q, rfl, hq⟩
        have hql40 : q.length ≤ 40 := by
          rcases hq with h | h
          · rw [h]; simp
          · rw [h.1]; exact htl
        have hqin : ∀ x ∈ q, x < c.rooms.length := fun x hx => by
          rcases hq with h | h
          · rw [h] at hx; simp at hx
          · rw [h.1] at hx
            have := S.lt x (List.mem_cons_of_mem _ hx)
            omega
        refine W_seq2 (fun l s' => s = s' ∧ ∃ (q' : List Nat) (a7 : Option D), l = [some (Ch.D c), some (.lst (ns.map .int)), some (nD at'), some (.tup (c.rooms.map Rm.D)), some (.lst (qs.map tupN)), some (nD k), some (.lst (q'.map nD)), a7, a8] ∧ KpOk c.rooms c.ds k q') ?_ ?_
        · rw [W_sSeq]; refine W_cut (fun l s' => s = s' ∧ l = [some (Ch.D c), some (.lst (ns.map .int)), some (nD at'), some (.tup (c.rooms.map Rm.D)), some (.lst (qs.map tupN)), some (nD k), some (.lst ((if c.rooms[k].kp = "near" then q.take 1 else q).map nD)), a7, a8]) ?_ ?_
          · refine W_ifD (decide (c.rooms[k].kp = "near")) ?_ ?_
            · simp
              rw [getI_r hkr]
              try simp
              try exact Bool.eq_iff_iff.mpr (by simp)
            · split
              · rename_i h
                rw [if_pos (of_decide_eq_true h)]
                simp
                rw [cut_to _ _ (by omega)]
                simp [List.map_take]
              · rename_i h
                rw [if_neg (fun z => h (decide_eq_true z)), W_sNil]
                exact ⟨rfl, rfl⟩
          rintro l s' ⟨rfl, rfl⟩
          refine W_ifD (decide (c.rooms[k].kp = "deep")) ?_ ?_
          · simp
            rw [getI_r hkr]
            try simp
            try exact Bool.eq_iff_iff.mpr (by simp)
          split
          · rename_i h
            have h := of_decide_eq_true h
            have hnn : c.rooms[k].kp ≠ "near" := by rw [h]; decide
            simp
            rw [if_neg hnn]
            refine W_compG q nD nD (plainB c.rooms) (by omega) ?_ ?_
            · intro y hy
              have hyl := hqin y hy
              simp [wipeD]
              rw [getI_r hyl]
              simp [rk_get, plainB]
            · refine ⟨rfl, q.filter (plainB c.rooms), rfl, ?_⟩
              rcases hq with e | e
              · left; rw [e]; rfl
              · right; right
                exact ⟨by rw [hkpa]; exact h, _, S, by rw [e.1]; rfl⟩
          · rename_i h
            have h : c.rooms[k].kp ≠ "deep" := fun z => h (decide_eq_true z)
            rw [W_sNil]
            refine ⟨rfl, _, _, rfl, ?_⟩
            rcases hq with e | e
            · left
              rw [e]
              split <;> rfl
            · obtain ⟨e, hne⟩ := e
              rcases hkp with h1 | h1 | h1
              · exact absurd h1 hne
              · rw [if_pos h1.2, e]
                cases t with
                | nil => left; rfl
                | cons x t =>
                  right; left
                  exact ⟨by rw [hkpa]; exact h1.2, x, S.first T, rfl⟩
              · exact absurd h1.2 h
        rintro l s' ⟨rfl, q', a7, rfl, hq'⟩
        simp
        refine ⟨by omega, qs ++ [q'], by simp [tupN], by simp [hql], fun r hr => ?_⟩
        rw [List.getElem_append]
        split
        · rename_i h
          exact hqs r h
        · rename_i h
          have : r = k := by simp at hr; omega
          subst this
          simp
          exact hq'
      · rintro l s' ⟨rfl, qs, a5, a6, a7, a8, rfl, hql, hqs⟩
        exact ⟨rfl, qs, ⟨_, _, _, _, rfl⟩, by omega, hqs⟩
    rintro l s' ⟨rfl, qs, a5, a6, a7, a8, rfl, hql, hqs⟩
    rw [W_sSeq]; simp [-W_sSeq]
    rw [W_sSeq]; refine W_cut (fun l s' => s = s' ∧ ∃ (hs : List Int) (a5 : Option D), l = [some (Ch.D c), some (.lst (ns.map .int)), some (nD at'), some (.tup (c.rooms.map Rm.D)), some (.lst (qs.map tupN)), a5, a6, a7, some (.lst (hs.map .int))] ∧ hs.length = c.boxes.length ∧ ∀ i (h : i < c.boxes.length), ∃ h' : i < hs.length, 0 ≤ hs[i] ∧ hs[i] < c.boxes[i].sz) ?_ ?_
    · rw [W_sFor]
      simp [-W_sSeq, -W_sIf]
      refine ⟨by omega, W_rg _ _ (fun k l s' => s = s' ∧ ∃ (hs : List Int) (a5 : Option D), l = [some (Ch.D c), some (.lst (ns.map .int)), some (nD at'), some (.tup (c.rooms.map Rm.D)), some (.lst (qs.map tupN)), a5, a6, a7, some (.lst (hs.map .int))] ∧ hs.length = k ∧ ∀ i (h : i < c.boxes.length), i < k → ∃ h' : i < hs.length, 0 ≤ hs[i] ∧ hs[i] < c.boxes[i].sz) ?_ ?_ ?_⟩
      · exact ⟨rfl, [], _, rfl, rfl, fun i h h2 => by omega⟩
      · rintro k l s' hk ⟨rfl, hs, a5, rfl, hhl, hhs⟩
        have hk : k < c.boxes.length := by simpa using hk
        have hB := C.boxes.2 _ (List.getElem_mem hk)
        have b1 := hB.lo
        simp (disch := omega) [mixed ns hn]
        rw [getI_g hk]
        try simp
        refine ⟨by omega, by omega, hs ++ [(mx ns ((at' : Int) + k) 11 : Int) % c.boxes[k].sz], by simp, by simp [hhl], fun i h h2 => ⟨by simp; omega, ?_⟩⟩
        rw [List.getElem_append]
        split
        · rename_i h3
          exact (hhs i h (by omega)).2
        · rename_i h3
          have : i = k := by omega
          subst this
          simp
          exact ⟨Int.emod_nonneg _ (by omega), Int.emod_lt_of_pos _ (by omega)⟩
      · rintro l s' ⟨rfl, hs, a5, rfl, hhl, hhs⟩
        exact ⟨rfl, hs, ⟨_, rfl⟩, by simpa using hhl, fun i h => hhs i h (by simpa using h)⟩
    rintro l s' ⟨rfl, hs, a5, rfl, hhl, hhs⟩
    obtain ⟨os, ho, S⟩ := opened hn M T K (at' := at' + 90) (by omega) 50 0 (by omega) hpos
    have ho' : m__law_opened [.tup (c.rooms.map Rm.D), .int 0, .lst (ns.map .int), .int ((at' : Int) + 90)] s = .ok (.lst (os.map nD)) s := by
      have e : ((at' : Int) + 90) = ((at' + 90 : Nat) : Int) := by omega
      rw [e]; exact ho s
    simp [ho']
    refine ⟨⟨os, hs, qs⟩, by simp [St.D], S, hhl, hhs, hql, fun r h => ⟨by show r < qs.length; omega, hqs r _⟩⟩
  obtain ⟨d, s', h1, rfl, st, rfl, hst⟩ := h.ok
  exact ⟨st, h1, hst⟩
end Law

namespace Law
open PySem Vx
/-! a stand drawn is a stand for a run -/
theorem StOk.W {c : Ch} (C : ChOk c) {st : St} (h : StOk c st) : StW c st := by
  have T := C.tree
  have hle := T.le
  refine ⟨h.op.rise, h.op.lt, h.hl, h.kl, fun q hq => ?_⟩
  obtain ⟨r, hr, rfl⟩ := List.mem_iff_getElem.mp hq
  have hr2 : r < c.ds.length := by rw [← h.kl]; exact hr
  obtain ⟨h', k⟩ := h.kept r hr2
  rcases k with k | ⟨_, x, hx, k⟩ | ⟨_, os, S, k⟩
  · rw [k]; simp
  · rw [k]
    have := (mem_kids.mp hx).1
    simp
    exact this
  · rw [k]
    have hl := len_lt S.rise S.lt
    have hf := List.length_filter_le (plainB c.rooms) os.tail
    rw [List.length_tail] at hf
    exact ⟨by omega, fun x hx => S.lt x (List.mem_of_mem_tail (List.mem_filter.mp hx).1)⟩
end Law

namespace Law
open PySem Vx
/-! law 24: what a door opens, what it closes -/
theorem Sub.opn24 {rs : List Rm} {ds os : List Nat} (S : Sub rs ds 0 os) : Opn rs ds os := by
  refine ⟨S.mem, S.lt, fun k hk h0 => S.up k hk (by omega), S.all, S.one⟩
structure Wq where
  cur : List Nat
  outs : List Nat
  ins : List Nat
  th : Nat
def okOut (ds cur : List Nat) (r : Nat) : Prop := r ∈ cur ∧ ∀ j ∈ kidsL ds r, j ∉ cur
def okIn (rs : List Rm) (ds cur : List Nat) (r : Nat) : Prop := r ∉ cur ∧ (0 < r → par ds r ∈ cur ∧ (rk rs (par ds r) = "one" → ∀ j ∈ kidsL ds (par ds r), j ∉ cur))
inductive Stp (rs : List Rm) (ds : List Nat) (k : Nat) : Wq → En → Wq → Prop where
  | rc (s : Wq) (r : Rc) : Stp rs ds k s (.rc r) s
  | door (s : Wq) (n : Nat) : Stp rs ds k s (.mv "door" n) s
  | thr (s : Wq) (h : s.th = 0) : Stp rs ds k s (.mv "through" k) ⟨s.cur, s.outs, s.ins, 1⟩
  | out (s : Wq) (n : Nat) (h : s.th = 0) (hn : n < ds.length) (ho : okOut ds s.cur n) : Stp rs ds k s (.mv "out" n) ⟨s.cur.filter fun j => !decide (j = n), s.outs ++ [n], s.ins, 0⟩
  | inn (s : Wq) (n : Nat) (h : s.th = 1) (hn : n < ds.length) (ho : okIn rs ds s.cur n) : Stp rs ds k s (.mv "in" n) ⟨s.cur ++ [n], s.outs, s.ins ++ [n], 1⟩
def WQ (rs : List Rm) (ds : List Nat) (k : Nat) : List En → Wq → Wq → Prop
  | [], s, s' => s = s'
  | y :: ys, s, s' => ∃ s1, Stp rs ds k s y s1 ∧ WQ rs ds k ys s1 s'
section
variable {rs : List Rm} {ds : List Nat} {k : Nat}
theorem WQ.app : ∀ {xs ys : List En} {s s1 s' : Wq}, WQ rs ds k xs s s1 → WQ rs ds k ys s1 s' → WQ rs ds k (xs ++ ys) s s'
  | [], _, _, _, _, h, h' => by cases h; exact h'
  | _ :: _, _, _, _, _, ⟨s2, h1, h2⟩, h' => ⟨s2, h1, WQ.app h2 h'⟩
theorem WQ.rcs : ∀ (l : List Rc) (s : Wq), WQ rs ds k (l.map En.rc) s s
  | [], _ => rfl
  | r :: l, s => ⟨s, .rc s r, WQ.rcs l s⟩
theorem WQ.step (m : Nat) (zs : List Int) {x : Re} {w : Str} {n : Nat} (dd : List Dd) {s s1 s2 : Wq} (h : WQ rs ds k x.es s s1) (h' : Stp rs ds k s1 (.mv w n) s2) : WQ rs ds k (stepE m zs x w n dd).es s s2 := by
  have e : (stepE m zs x w n dd).es = x.es ++ ([En.mv w n] ++ (runR m zs dd ⟨x.bs, x.a, []⟩).rc.map En.rc) := by simp [stepE]
  rw [e]
  exact h.app (WQ.app (s1 := s2) ⟨s2, h', rfl⟩ (WQ.rcs _ _))
end
section
variable {c : Ch} (C : ChOk c) {st : St} (SO : StOk c st)
include C SO
theorem u_in {d : Dr} (hd : d ∈ c.doors) (hrm : d.rm ∈ st.op) : ∀ x, wayU c d = some x → x ∈ st.op := fun x hx => by
  have T := C.tree
  have D := C.doors.2 d hd
  have O := SO.op.opn24
  unfold wayU hallO at hx
  have h1 := (List.mem_filter.mp (List.mem_of_mem_head? hx)).1
  exact opn_up T O ((anc_met T d.rm x (O.lt _ hrm)).mp h1) hrm
theorem goals_lt {d : Dr} (hd : d ∈ c.doors) : ∀ g ∈ goalsD (keptL' c d st.op st.kept) d, g < c.ds.length := fun g hg => by
  have D := C.doors.2 d hd
  have S := SO.W C
  have hlen : c.rooms.length = c.ds.length := by simp [Ch.ds]
  have kq := kept_ok C S d
  unfold goalsD at hg
  rcases D.way with ⟨_, h⟩ | ⟨_, q, h, h'⟩ | ⟨_, q, h, h', _⟩
  · rw [h] at hg; simp at hg
  · rw [h] at hg
    simp only at hg
    split at hg
    · rcases e : (keptL' c d st.op st.kept)[q]? with _ | row
      · rw [e] at hg; simp at hg
      · rw [e] at hg
        exact (kq row (List.mem_of_getElem? e)).2 g hg
    · simp at hg; omega
  · rw [h] at hg
    simp only at hg
    split at hg
    · rcases e : (keptL' c d st.op st.kept)[q]? with _ | row
      · rw [e] at hg; simp at hg
      · rw [e] at hg
        exact (kq row (List.mem_of_getElem? e)).2 g hg
    · simp at hg; omega
theorem stay_rest {d : Dr} : stayL c.ds st.op (wayU c d) = restL c d st.op := by
  rw [rest_eq C]
  rfl
/-- the outs, from the greatest down -/
theorem WQ_outs (m k : Nat) {d : Dr} (hd : d ∈ c.doors) (hrm : d.rm ∈ st.op) {s0 : Wq} : ∀ (rest dn : List Nat) {x : Re}, leftL c d st.op = dn ++ rest →
    WQ c.rooms c.ds k x.es s0 ⟨st.op.filter fun j => !decide (j ∈ dn), dn, [], 0⟩ → WQ c.rooms c.ds k (outsE m c.szs c.rooms rest x).es s0 ⟨restL c d st.op, leftL c d st.op, [], 0⟩
  | [], dn, x, he, h => by
    rw [List.append_nil] at he
    rw [← he] at h
    exact h
  | r :: rest, dn, x, he, h => by
    have T := C.tree
    have O := SO.op.opn24
    have D := C.doors.2 d hd
    have hul := wayU_lt C D
    have hsort : (leftL c d st.op).Pairwise (· > ·) := by
      unfold leftL outL
      refine List.Pairwise.filter _ ?_
      rw [List.pairwise_reverse]
      exact SO.op.rise
    have hmem : ∀ j, j ∈ leftL c d st.op ↔ j ∈ st.op ∧ inP c.ds (wayU c d) j = true := fun j => by
      unfold leftL outL
      rw [List.mem_filter, List.mem_reverse]
    have hr := (hmem r).mp (by rw [he]; simp)
    have hrl := O.lt r hr.1
    rw [he] at hsort
    obtain ⟨hs1, hs2, hs3⟩ := List.pairwise_append.mp hsort
    have hrdn : r ∉ dn := fun h => by
      have := hs3 r h r (by simp)
      omega
    have ho : okOut c.ds (st.op.filter fun j => !decide (j ∈ dn)) r := by
      refine ⟨List.mem_filter.mpr ⟨hr.1, by simp [hrdn]⟩, fun j hj hjc => ?_⟩
      obtain ⟨j1, j2⟩ := List.mem_filter.mp hjc
      have hjr := (kid_dep T hj).1
      have hjl := (kid_dep T hj).2.1
      have hjm := kid_met T hj
      have hjin : j ∈ leftL c d st.op := (hmem j).mpr ⟨j1, by
        rw [inP_iff T hul hjl]
        rcases (inP_iff T hul hrl).mp hr.2 with h | ⟨x, hx, hm⟩
        · exact .inl h
        · exact .inr ⟨x, hx, hjm.trans hm⟩⟩
      rw [he] at hjin
      rcases List.mem_append.mp hjin with h | h
      · simp [h] at j2
      · rcases List.mem_cons.mp h with h | h
        · omega
        · have := (List.pairwise_cons.mp hs2).1 j h
          omega
    have hst := h.step m c.szs (rmOuts c.rooms r) (.out (k := k) (rs := c.rooms) ⟨st.op.filter fun j => !decide (j ∈ dn), dn, [], 0⟩ r rfl hrl ho)
    have e1 : ((st.op.filter fun j => !decide (j ∈ dn)).filter fun j => !decide (j = r)) = st.op.filter fun j => !decide (j ∈ dn ++ [r]) := by
      rw [List.filter_filter]
      apply List.filter_congr
      intro j _
      by_cases h1 : j ∈ dn <;> by_cases h2 : j = r <;> simp [h1, h2]
    rw [e1] at hst
    exact WQ_outs m k hd hrm rest (dn ++ [r]) (by rw [he]; simp) hst
/-- the ins -/
theorem WQ_ins (m k : Nat) {d : Dr} (hd : d ∈ c.doors) (hrm : d.rm ∈ st.op) {s0 : Wq} {us : List Nat} : ∀ (rest dn : List Nat) {x : Re}, goneL c d st.op st.kept = dn ++ rest →
    WQ c.rooms c.ds k x.es s0 ⟨restL c d st.op ++ dn, us, dn, 1⟩ → WQ c.rooms c.ds k (insE m c.szs c.rooms rest x).es s0 ⟨restL c d st.op ++ goneL c d st.op st.kept, us, goneL c d st.op st.kept, 1⟩
  | [], dn, x, he, h => by
    rw [List.append_nil] at he
    rw [← he] at h
    exact h
  | r :: rest, dn, x, he, h => by
    have T := C.tree
    have O := SO.op.opn24
    have D := C.doors.2 d hd
    have hul := wayU_lt C D
    have hg := go_step T O (u_in C SO hd hrm) (show goU c.rooms c.ds (goalsD (keptL' c d st.op st.kept) d) (wayU c d) = dn ++ r :: rest from he)
    rw [stay_rest C SO] at hg
    have hrl : r < c.ds.length := goU_in T hul r (show r ∈ goneL c d st.op st.kept by rw [he]; simp)
    have hst := h.step m c.szs (rmIns c.rooms r) (.inn (k := k) (rs := c.rooms) ⟨restL c d st.op ++ dn, us, dn, 1⟩ r rfl hrl hg)
    simp only [List.append_assoc] at hst
    exact WQ_ins m k hd hrm rest (dn ++ [r]) (by rw [he]; simp) hst
/-- a door's record -/
theorem WQ_pass (m k : Nat) {d : Dr} (hd : d ∈ c.doors) (hrm : d.rm ∈ st.op) (a : List Nat) :
    WQ c.rooms c.ds k (mvX c m k d (mvF c d st) ⟨st.held, a, []⟩).es ⟨st.op, [], [], 0⟩ ⟨(st.op.filter fun j => !decide (j ∈ (mvF c d st).us)) ++ (mvF c d st).vs, (mvF c d st).us, (mvF c d st).vs, 1⟩ := by
  have h0 : WQ c.rooms c.ds k (stepE m c.szs ⟨st.held, a, []⟩ "door" k []).es ⟨st.op, [], [], 0⟩ ⟨st.op, [], [], 0⟩ := WQ.step (x := ⟨st.held, a, []⟩) m c.szs [] rfl (.door _ k)
  unfold mvF
  split
  · have e : (st.op.filter fun j => !decide (j ∈ ([] : List Nat))) ++ [] = st.op := by simp
    simp only
    rw [e]
    exact WQ.step m c.szs d.dd h0 (.thr ⟨st.op, [], [], 0⟩ rfl)
  · have e : (st.op.filter fun j => !decide (j ∈ ([] : List Nat))) = st.op := by simp
    have h1 := WQ_outs C SO m k hd hrm (s0 := ⟨st.op, [], [], 0⟩) (leftL c d st.op) [] (x := stepE m c.szs ⟨st.held, a, []⟩ "door" k []) rfl (by rw [e]; exact h0)
    have h2 := WQ.step m c.szs d.dd h1 (.thr ⟨restL c d st.op, leftL c d st.op, [], 0⟩ rfl)
    have h3 := WQ_ins C SO m k hd hrm (us := leftL c d st.op) (goneL c d st.op st.kept) [] rfl (by rw [List.append_nil]; exact h2)
    exact h3
/-- what is open behind a door is an opening -/
theorem opn_pass {d : Dr} (hd : d ∈ c.doors) (hrm : d.rm ∈ st.op) (m k : Nat) (a : List Nat) : Opn c.rooms c.ds (passF c m k d st a).st.op := by
  have T := C.tree
  have O := SO.op.opn24
  unfold passF
  split
  · exact O
  · show Opn c.rooms c.ds (sortN (restL c d st.op ++ goneL c d st.op st.kept))
    have h := opn_next (gs := goalsD (keptL' c d st.op st.kept) d) T C.kd O (u_in C SO hd hrm) (goals_lt C SO hd)
    rw [stay_rest C SO] at h
    exact opn_perm h fun k => (sortN_perm _).mem_iff
/-! the goals are open -/
omit SO in
/-- each leaf of an opening beneath g stands among the goals: what is open there is gone into -/
theorem sub_gone {g : Nat} {A gs : List Nat} (S : Sub c.rooms c.ds g A) {u : Option Nat} (hul : ∀ x, u = some x → x < c.ds.length) (hgu : u = none ∨ ∃ x, u = some x ∧ Met c.ds g x) (hA : gs = A.tail.filter (plainB c.rooms)) (hne : gs ≠ []) : ∀ k ∈ A, k ∈ goU c.rooms c.ds gs u := by
  have T := C.tree
  have K : KdAll c.rooms c.ds := C.kd
  have hgl := S.lt g S.mem
  have hin : ∀ x, x ∈ gs ↔ x ∈ A ∧ x ≠ g ∧ rk c.rooms x = "plain" := fun x => by
    rw [hA, List.mem_filter]
    obtain ⟨t, ht⟩ := S.hd
    constructor
    · rintro ⟨h1, h2⟩
      obtain ⟨h3, h4⟩ := S.tail_lies T h1
      refine ⟨h3, fun e => ?_, by simpa [plainB] using h2⟩
      have := h4.lt T (S.lt x h3)
      omega
    · rintro ⟨h1, h2, h3⟩
      refine ⟨?_, by simpa [plainB] using h3⟩
      rw [ht] at h1 ⊢
      rcases List.mem_cons.mp h1 with h | h
      · exact absurd h h2
      · exact h
  have hgs : ∀ x ∈ gs, x < c.ds.length := fun x hx => S.lt x ((hin x).mp hx).1
  have hmet : ∀ x ∈ gs, Met c.ds x g := fun x hx => by
    rcases S.met x ((hin x).mp hx).1 with h | h
    · exact absurd h ((hin x).mp hx).2.1
    · exact h
  have hg0 : g ∈ goU c.rooms c.ds gs u := way_in T hgs hul hgl hne hmet g (.inl rfl) hgu
  -- beneath each room of A stands a leaf of A
  have leaf : ∀ (m p : Nat), c.ds.length - p ≤ m → p ∈ A → rk c.rooms p = "plain" ∨ ∃ x ∈ A, Met c.ds x p ∧ rk c.rooms x = "plain" := by
    intro m
    induction m with
    | zero => intro p h hp; have := S.lt p hp; omega
    | succ m ih =>
      intro p h hp
      have hpl := S.lt p hp
      by_cases hk : kidsL c.ds p = []
      · exact .inl ((kd_kids T K hpl).2 hk)
      · right
        have hkid : ∃ j ∈ kidsL c.ds p, j ∈ A := by
          by_cases ha : rk c.rooms p = "all"
          · obtain ⟨j, hj⟩ := List.exists_mem_of_ne_nil _ hk
            exact ⟨j, hj, S.all p hp ha j hj⟩
          · obtain ⟨j, h1, h2, _⟩ := S.one p hp ha hk
            exact ⟨j, h1, h2⟩
        obtain ⟨j, hj, hjA⟩ := hkid
        have hjd := kid_dep T hj
        rcases ih j (by omega) hjA with h | ⟨x, x1, x2, x3⟩
        · exact ⟨j, hjA, kid_met T hj, h⟩
        · exact ⟨x, x1, x2.trans (kid_met T hj), x3⟩
  -- what lies above a room of A, beneath g, is of A
  have above : ∀ x b, Met c.ds x b → x ∈ A → (b = g ∨ Met c.ds b g) → b ∈ A := by
    intro x b h
    induction h with
    | here h0 =>
      rename_i x
      intro hx hb
      refine S.up x hx fun e => ?_
      rw [e] at h0 hb
      have := (par_spec T h0 hgl).1
      rcases hb with h | h
      · omega
      · have := h.lt T (by omega)
        omega
    | up h0 m ih =>
      rename_i x b
      intro hx hb
      have hxg : x ≠ g := fun e => by
        rw [e] at m h0
        have p1 := (par_spec T h0 hgl).1
        have p2 := m.lt T (by omega)
        rcases hb with h | h
        · omega
        · have := h.lt T (by omega)
          omega
      exact ih (S.up x hx hxg) hb
  intro k
  induction k using Nat.strongRecOn with
  | ind k ih =>
    intro hk
    by_cases hkg : k = g
    · rw [hkg]; exact hg0
    · have hkl := S.lt k hk
      have hkm : Met c.ds k g := by
        rcases S.met k hk with h | h
        · exact absurd h hkg
        · exact h
      have h0 := hkm.pos
      have hp := (par_spec T h0 hkl).1
      have hpA := S.up k hk hkg
      rw [go_iff T hul hkl]
      refine .inr ⟨h0, .inr (ih _ hp hpA), fun hone => ?_⟩
      symm
      refine pick_one T hgs (mem_kids.mpr ⟨hkl, h0, rfl⟩) ?_ ?_
      · rcases leaf _ k (Nat.le_refl _) hk with h | ⟨x, x1, x2, x3⟩
        · exact ⟨k, (hin k).mpr ⟨hk, hkg, h⟩, .inl rfl⟩
        · refine ⟨x, (hin x).mpr ⟨x1, fun e => ?_, x3⟩, .inr x2⟩
          have h1 := x2.lt T (S.lt x x1)
          have h2 := hkm.lt T hkl
          omega
      · rintro j hj ⟨x, hx, hxj⟩
        obtain ⟨xA, _, _⟩ := (hin x).mp hx
        have hjd := kid_dep T hj
        have hjg : j = g ∨ Met c.ds j g := by
          right
          have h1 := kid_met T hj
          rcases (met_cases h0).mp hkm with e | e
          · rw [← e] at h1; exact h1
          · exact h1.trans e
        have hjA : j ∈ A := by
          rcases hxj with h | h
          · rw [← h]; exact xA
          · exact above x j h xA hjg
        have hna : rk c.rooms (par c.ds k) ≠ "all" := by rw [hone]; decide
        have hkk : k ∈ kidsL c.ds (par c.ds k) := mem_kids.mpr ⟨hkl, h0, rfl⟩
        obtain ⟨q, _, _, q3⟩ := S.one _ hpA hna (fun e => by rw [e] at hkk; cases hkk)
        rw [q3 j hj hjA, q3 k hkk hk]
omit SO in
/-- a single goal is gone into -/
theorem one_gone {g : Nat} (hg : g < c.ds.length) {u : Option Nat} (hul : ∀ x, u = some x → x < c.ds.length) (hgu : u = none ∨ ∃ x, u = some x ∧ Met c.ds g x) : g ∈ goU c.rooms c.ds [g] u := by
  have T := C.tree
  have hgs : ∀ x ∈ [g], x < c.ds.length := by simp [hg]
  rw [go_iff T hul hg]
  by_cases h0 : g = 0
  · rcases hgu with h | ⟨x, _, h⟩
    · exact .inl ⟨h0, h⟩
    · rw [h0] at h
      exact (met_zero h).elim
  · have h0 : 0 < g := by omega
    have hp := (par_spec T h0 hg).1
    refine .inr ⟨h0, ?_, fun _ => ?_⟩
    · rcases hgu with h | ⟨x, hx, h⟩
      · exact .inr (way_in T hgs hul (r := par c.ds g) (by omega) (by simp) (by simp; exact .here h0) _ (.inl rfl) (.inl h))
      · rcases (met_cases h0).mp h with e | e
        · exact .inl (by rw [hx, e])
        · exact .inr (way_in T hgs hul (r := par c.ds g) (by omega) (by simp) (by simp; exact .here h0) _ (.inl rfl) (.inr ⟨x, hx, e⟩))
    · symm
      refine pick_one T hgs (mem_kids.mpr ⟨hg, h0, rfl⟩) ⟨g, by simp, .inl rfl⟩ ?_
      rintro j hj ⟨x, hx, hxj⟩
      rw [List.mem_singleton.mp hx] at hxj
      rcases hxj with h | h
      · exact h.symm
      · obtain ⟨j1, j2, j3⟩ := mem_kids.mp hj
        rcases (met_cases h0).mp h with e | e
        · have := (kid_dep T hj).1
          omega
        · have := e.lt T (by omega)
          have := (kid_dep T hj).1
          omega
/-- what may be kept behind a door -/
theorem kp_pass {d : Dr} {g : Nat} (hg : g < c.ds.length) : KpOk c.rooms c.ds g ((keptL' c d st.op st.kept)[g]?.getD []) := by
  have T := C.tree
  have K : KdAll c.rooms c.ds := C.kd
  have O := SO.op.opn24
  have hlen : c.rooms.length = c.ds.length := by simp [Ch.ds]
  have hgr : g < c.rooms.length := by omega
  have RO := C.rooms _ (List.getElem_mem hgr)
  have hkpA : kpAt c.rooms g = c.rooms[g].kp := kpAt_get hgr
  obtain ⟨hk1, hk2⟩ := SO.kept g hg
  have hold : (st.kept[g]?).getD [] = st.kept[g] := by rw [List.getElem?_eq_getElem hk1]; rfl
  have e : (keptL' c d st.op st.kept)[g]?.getD [] = if g ∈ leftL c d st.op then keptL c.rooms c.ds st.op g c.rooms[g].kp st.kept[g] else st.kept[g] := by
    unfold keptL' keptN
    rw [List.getElem?_map, List.getElem?_range hg]
    simp [hold, hgr]
  rw [e]
  split
  · rename_i hgl
    have hgo : g ∈ st.op := by
      unfold leftL outL at hgl
      simpa using (List.mem_filter.mp hgl).1
    unfold keptL
    split
    · rename_i hn
      -- near
      right; left
      refine ⟨by rw [hkpA]; exact hn, ?_⟩
      have hkd : c.rooms[g].kd = "one" := by
        rcases RO.kp with h | h | h
        · rw [h] at hn; exact absurd hn (by decide)
        · exact h.1
        · rw [h.2] at hn; exact absurd hn (by decide)
      have hone : rk c.rooms g = "one" := by rw [← rk_get _ _ hgr]; exact hkd
      have hkids : kidsL c.ds g ≠ [] := fun h => by
        have := (kd_kids T K hg).2 h
        rw [hone] at this
        exact absurd this (by decide)
      obtain ⟨x, x1, x2, x3⟩ := O.one g hgo (by rw [hone]; decide) hkids
      refine ⟨x, x1, ?_⟩
      have hmem : ∀ j, j ∈ nearL c.ds st.op g ↔ j = x := fun j => by
        rw [← near_eq SO.op.rise SO.op.lt g]
        rw [List.mem_filter]
        constructor
        · rintro ⟨j1, j2⟩
          exact x3 j j1 (by simpa using j2)
        · rintro rfl
          exact ⟨x1, by simpa using x2⟩
      have hsort : (nearL c.ds st.op g).Pairwise (· < ·) := by
        rw [← near_eq SO.op.rise SO.op.lt g]
        unfold kidsL
        exact ((List.pairwise_lt_range).filter _).filter _
      exact sorted_ext hsort (by simp) fun j => by rw [hmem]; simp
    · split
      · rename_i hn hdp
        -- deep
        right; right
        refine ⟨by rw [hkpA]; exact hdp, st.op.filter (fun j => decide (j = g) || lies c.ds j g), ?_, ?_⟩
        · have hm : ∀ j, j ∈ st.op.filter (fun j => decide (j = g) || lies c.ds j g) ↔ j ∈ st.op ∧ (j = g ∨ Met c.ds j g) := fun j => by
            rw [List.mem_filter]
            constructor
            · rintro ⟨j1, j2⟩
              refine ⟨j1, ?_⟩
              simp at j2
              exact j2.imp id (lies_met T hg j (O.lt j j1)).mp
            · rintro ⟨j1, j2⟩
              refine ⟨j1, ?_⟩
              simp
              exact j2.imp id (lies_met T hg j (O.lt j j1)).mpr
          have hgm := (hm g).mpr ⟨hgo, .inl rfl⟩
          have hrise : (st.op.filter (fun j => decide (j = g) || lies c.ds j g)).Pairwise (· < ·) := SO.op.rise.filter _
          refine ⟨?_, hrise, fun j hj => O.lt j ((hm j).mp hj).1, fun j hj => ((hm j).mp hj).2, fun j hj hne => ?_, fun p hp ha j hj => ?_, fun p hp ha hne => ?_⟩
          · generalize st.op.filter (fun j => decide (j = g) || lies c.ds j g) = F at hm hgm hrise
            cases F with
            | nil => cases hgm
            | cons x t =>
              have hx := (hm x).mp (by simp)
              rcases List.mem_cons.mp hgm with h | h
              · exact ⟨t, by rw [h]⟩
              · have h1 := (List.pairwise_cons.mp hrise).1 g h
                rcases hx.2 with h2 | h2
                · omega
                · have := h2.lt T (O.lt x hx.1)
                  omega
          · obtain ⟨j1, j2⟩ := (hm j).mp hj
            have jm : Met c.ds j g := j2.resolve_left hne
            have h0 := jm.pos
            refine (hm _).mpr ⟨O.up j j1 h0, ?_⟩
            rcases (met_cases h0).mp jm with h | h
            · exact .inl h.symm
            · exact .inr h
          · obtain ⟨p1, p2⟩ := (hm p).mp hp
            refine (hm j).mpr ⟨O.all p p1 ha j hj, .inr ?_⟩
            have := kid_met T hj
            rcases p2 with h | h
            · rw [h] at this; exact this
            · exact this.trans h
          · obtain ⟨p1, p2⟩ := (hm p).mp hp
            obtain ⟨x, x1, x2, x3⟩ := O.one p p1 ha hne
            refine ⟨x, x1, (hm x).mpr ⟨x2, .inr ?_⟩, fun j hj hjF => x3 j hj ((hm j).mp hjF).1⟩
            have := kid_met T x1
            rcases p2 with h | h
            · rw [h] at this; exact this
            · exact this.trans h
        · have hrise : (st.op.filter (fun j => decide (j = g) || lies c.ds j g)).Pairwise (· < ·) := SO.op.rise.filter _
          have hm : ∀ j, j ∈ st.op.filter (fun j => decide (j = g) || lies c.ds j g) ↔ j ∈ st.op ∧ (j = g ∨ lies c.ds j g = true) := fun j => by
            rw [List.mem_filter]
            simp
          have hgm := (hm g).mpr ⟨hgo, .inl rfl⟩
          have hlt : ∀ j, lies c.ds j g = true → g < j := fun j hj => by
            unfold lies at hj
            simp at hj
            exact hj.1
          unfold deepL
          apply sorted_ext
          · exact SO.op.rise.filter _
          · refine List.Pairwise.filter _ ?_
            generalize st.op.filter (fun j => decide (j = g) || lies c.ds j g) = F at hrise
            cases F with
            | nil => exact .nil
            | cons x t => exact (List.pairwise_cons.mp hrise).2
          · intro j
            generalize hFF : st.op.filter (fun j => decide (j = g) || lies c.ds j g) = F at hm hgm hrise
            rw [List.mem_filter, List.mem_filter]
            have htail : j ∈ F.tail ↔ j ∈ F ∧ j ≠ g := by
              cases F with
              | nil => cases hgm
              | cons x t =>
                have hx : x = g := by
                  rcases List.mem_cons.mp hgm with h | h
                  · exact h.symm
                  · have h1 := (List.pairwise_cons.mp hrise).1 g h
                    rcases ((hm x).mp (by simp)).2 with h2 | h2
                    · exact h2
                    · have := hlt x h2
                      omega
                subst hx
                simp only [List.tail_cons, List.mem_cons]
                constructor
                · intro h
                  have := (List.pairwise_cons.mp hrise).1 j h
                  exact ⟨.inr h, by omega⟩
                · rintro ⟨h | h, h'⟩
                  · exact absurd h h'
                  · exact h
            rw [htail, hm]
            simp only [plainP, plainB, Bool.and_eq_true]
            constructor
            · rintro ⟨h1, h2, h3⟩
              refine ⟨⟨⟨h1, .inr h3⟩, ?_⟩, h2⟩
              have := hlt j h3
              omega
            · rintro ⟨⟨⟨h1, h2⟩, h3⟩, h4⟩
              exact ⟨h1, h4, h2.resolve_left h3⟩
      · exact hk2
  · exact hk2
/-- the goal, and what was kept of it, is open behind the door -/
theorem goal_open {d : Dr} (hd : d ∈ c.doors) (hw : d.way ≠ "stay") (m k : Nat) (a : List Nat) {g : Nat} (hg : d.goal = some g) :
    g ∈ (passF c m k d st a).st.op ∧ (d.way = "back" → ∀ x ∈ (keptL' c d st.op st.kept)[g]?.getD [], x ∈ (passF c m k d st a).st.op) := by
  have T := C.tree
  have D := C.doors.2 d hd
  have hul := wayU_lt C D
  have hlen : c.rooms.length = c.ds.length := by simp [Ch.ds]
  have hgl : g < c.ds.length := by
    rcases D.way with ⟨h, _⟩ | ⟨_, q, h, h'⟩ | ⟨_, q, h, h', _⟩
    · exact absurd h hw
    · rw [hg] at h; cases h; omega
    · rw [hg] at h; cases h; omega
  have hgu : wayU c d = none ∨ ∃ x, wayU c d = some x ∧ Met c.ds g x := by
    cases hu : wayU c d with
    | none => exact .inl rfl
    | some u =>
      right
      refine ⟨u, rfl, ?_⟩
      have hul := hul u hu
      unfold wayU hallO at hu
      have h1 := (List.mem_filter.mp (List.mem_of_mem_head? hu)).2
      unfold hallP at h1
      rw [hg] at h1
      simp at h1
      exact (lies_met T hul g hgl).mp h1.2
  have hop : ∀ x, x ∈ goneL c d st.op st.kept → x ∈ (passF c m k d st a).st.op := fun x hx => by
    unfold passF
    rw [if_neg hw]
    show x ∈ sortN _
    rw [(sortN_perm _).mem_iff]
    exact List.mem_append.mpr (.inr hx)
  have hkp := kp_pass C SO (d := d) hgl
  obtain ⟨q, hq⟩ : ∃ q, q = (keptL' c d st.op st.kept)[g]?.getD [] := ⟨_, rfl⟩
  rw [← hq] at hkp ⊢
  have hgone : goneL c d st.op st.kept = goU c.rooms c.ds (if d.way = "back" ∧ q ≠ [] then q else [g]) (wayU c d) := by
    unfold goneL goalsD
    rw [hg]
    simp only
    rw [← hq]
  by_cases hb : d.way = "back" ∧ q ≠ []
  · rw [if_pos hb] at hgone
    have key : g ∈ goneL c d st.op st.kept ∧ ∀ x ∈ q, x ∈ goneL c d st.op st.kept := by
      rw [hgone]
      rcases hkp with h | ⟨_, x, hx, h⟩ | ⟨_, A, S, h⟩
      · exact absurd h hb.2
      · rw [h]
        have hxd := kid_dep T hx
        have hxm := kid_met T hx
        have hgs : ∀ y ∈ [x], y < c.ds.length := by simp; exact hxd.2.1
        have h1 : g ∈ goU c.rooms c.ds [x] (wayU c d) := way_in T hgs hul hgl (by simp) (by simp; exact hxm) g (.inl rfl) hgu
        refine ⟨h1, fun y hy => ?_⟩
        rw [List.mem_singleton.mp hy]
        exact one_gone C hxd.2.1 hul (hgu.imp id fun ⟨u, u1, u2⟩ => ⟨u, u1, hxm.trans u2⟩)
      · have h1 := sub_gone C S hul hgu h hb.2
        refine ⟨h1 g S.mem, fun y hy => h1 y ?_⟩
        rw [h] at hy
        exact List.mem_of_mem_tail (List.mem_filter.mp hy).1
    exact ⟨hop g key.1, fun _ x hx => hop x (key.2 x hx)⟩
  · rw [if_neg hb] at hgone
    have h1 : g ∈ goneL c d st.op st.kept := by rw [hgone]; exact one_gone C hgl hul hgu
    refine ⟨hop g h1, fun hbk x hx => ?_⟩
    have : q = [] := by
      by_cases h : q = []
      · exact h
      · exact absurd ⟨hbk, h⟩ hb
    rw [this] at hx
    cases hx
end
end Law

namespace Law
open PySem Vx
/-! law 24: parents, openings, steps told by the law -/
def parO (ds : List Nat) (k : Nat) : Option Nat := if k = 0 then none else some (par ds k)
def prD (ds : List Nat) : List D := (List.range ds.length).map fun k => uD (parO ds k)
def opB (n : Nat) (cur : List Nat) : List D := (List.range n).map fun k => D.bl (decide (k ∈ cur))
theorem pr_get {ds : List Nat} {k : Nat} (h : k < ds.length) {Q : D → Prop} : OW (getI (prD ds) (k : Int)) Q ↔ Q (uD (parO ds k)) := by
  unfold prD
  rw [getI_g (by simpa using h)]
  simp
theorem op_get {n k : Nat} {cur : List Nat} (h : k < n) {Q : D → Prop} : OW (getI (opB n cur) (k : Int)) Q ↔ Q (.bl (decide (k ∈ cur))) := by
  unfold opB
  rw [getI_g (by simpa using h)]
  simp
theorem o_eqU (o : Option Nat) (r : Nat) {P : D → Prop} : OW (gEq (uD o) (nD r)) P ↔ P (.bl (decide (o = some r))) := by
  cases o with
  | none => simp [uD]
  | some x =>
    have e : ((x : Int) = (r : Int)) ↔ x = r := by omega
    simp [uD, e]
theorem kids_par (ds : List Nat) (r : Nat) : ((List.range ds.length).filter fun j => decide (parO ds j = some r)) = kidsL ds r := by
  unfold kidsL
  apply List.filter_congr
  intro j _
  unfold parO
  by_cases h0 : j = 0
  · simp [h0]
  · have : 0 < j := by omega
    simp [h0, this]
section
variable {rs : List Rm} {ds : List Nat} (M : Rms rs ds) (T : Tree ds)
include M T
theorem law_parents (s : Sto) : m__law_parents [.tup (rs.map Rm.D)] s = .ok (.lst (prD ds)) s := by
  have hlen := M.len
  have hle := T.le
  have hpos := T.pos
  have h : (m__law_parents [.tup (rs.map Rm.D)] s).S (fun d s' => s = s' ∧ d = .lst (prD ds)) NoE := by
    unfold m__law_parents b__law_parents
    simp only [w_mDef, startD]
    refine ⟨rfl, ?_⟩
    rw [W_sSeq]; simp [-W_sSeq]
    obtain ⟨I, hI⟩ : ∃ I : Nat → Sl → Sto → Prop, I = (fun k l s' => s = s' ∧ ∃ z2 z3, l = [some (.tup (rs.map Rm.D)), some (.lst ((List.range (1 + k)).map fun k => uD (parO ds k))), z2, z3]) := ⟨_, rfl⟩
    rw [W_sSeq, W_sFor]; simp [-W_sSeq]
    have en : ((rs.length : Int) - 1).toNat = rs.length - 1 := by omega
    try rw [en]
    refine ⟨by omega, W_rg 1 (rs.length - 1) I ?_ ?_ ?_⟩
    · rw [hI]
      exact ⟨rfl, none, none, rfl⟩
    · intro k l s' hk hi
      rw [hI] at hi
      obtain ⟨rfl, z2, z3, rfl⟩ := hi
      have hk2 : 1 + k < ds.length := by omega
      have ek : (1 : Int) + (k : Int) = ((1 + k : Nat) : Int) := by omega
      obtain ⟨p1, p2, p3⟩ := par_spec T (k := 1 + k) (by omega) hk2
      rw [ek]
      simp [-Int.natCast_add]
      refine ⟨by omega, W_compR (1 + k) nD (fun j => decide (att ds j < att ds (1 + k))) (by omega) ?_ ?_⟩
      · intro j hj
        simp [wipeD, -Int.natCast_add]
        rw [getI_r (by omega), M.get _ (by omega), getI_r (by omega), M.get _ (by omega)]
        try simp
      · rw [o_maxM (m := par ds (1 + k)) (List.mem_filter.mpr ⟨List.mem_range.mpr p1, decide_eq_true p2⟩) (fun x hx => by
          obtain ⟨x1, x2⟩ := List.mem_filter.mp hx
          have x1 := List.mem_range.mp x1
          have x2 := of_decide_eq_true x2
          by_cases h : x ≤ par ds (1 + k)
          · exact h
          · have := p3 x (by omega) x1
            omega)]
        simp
        refine ⟨by omega, ?_⟩
        rw [hI]
        have e : (List.range (1 + (k + 1))).map (fun k => uD (parO ds k)) = (List.range (1 + k)).map (fun k => uD (parO ds k)) ++ [nD (par ds (1 + k))] := by
          rw [show 1 + (k + 1) = (1 + k) + 1 by omega, List.range_succ, List.map_append]
          simp [parO, uD]
        rw [← e]
        exact ⟨rfl, _, _, rfl⟩
    · intro l s' hi
      rw [hI] at hi
      obtain ⟨rfl, z2, z3, rfl⟩ := hi
      simp
      unfold prD
      rw [show 1 + (rs.length - 1) = ds.length by omega]
  obtain ⟨d, s', h1, rfl, rfl⟩ := h.ok
  exact h1
theorem law_is_full {os : List Nat} (O : Opn rs ds os) (K : KdAll rs ds) (hol : os.length ≤ 100) (s : Sto) : m__law_is_full [.tup (rs.map Rm.D), .lst (prD ds), .tup (os.map nD)] s = .ok (.bl true) s := by
  have hlen := M.len
  have hle := T.le
  have h : (m__law_is_full [.tup (rs.map Rm.D), .lst (prD ds), .tup (os.map nD)] s).S (fun d s' => s = s' ∧ d = .bl true) NoE := by
    unfold m__law_is_full b__law_is_full
    simp only [w_mDef, startD]
    refine ⟨rfl, ?_⟩
    obtain ⟨I, hI⟩ : ∃ I : List Nat → Sl → Sto → Prop, I = (fun _ l s' => s = s' ∧ ∃ z3 z4 z5 z6, l = [some (.tup (rs.map Rm.D)), some (.lst (prD ds)), some (.tup (os.map nD)), z3, z4, z5, z6]) := ⟨_, rfl⟩
    rw [W_sSeq, W_sFor]; simp [-W_sSeq]
    refine W_forM nD os I ?_ ?_ ?_
    · rw [hI]
      exact ⟨rfl, none, none, none, none, rfl⟩
    · intro dn r rest l s' he hi
      rw [hI] at hi
      obtain ⟨rfl, z3, z4, z5, z6, rfl⟩ := hi
      have hr : r ∈ os := by rw [he]; simp
      have hrl := O.lt r hr
      have hkl := kids_len ds r
      rw [tg1W]
      obtain ⟨Z, hZ⟩ : ∃ Z : Sl → Sto → Prop, Z = (fun l s' => s = s' ∧ ∃ z5, l = [some (.tup (rs.map Rm.D)), some (.lst (prD ds)), some (.tup (os.map nD)), some (nD r), some (.lst ((kidsL ds r).map nD)), z5, z6]) := ⟨_, rfl⟩
      rw [W_sSeq]; refine W_cut Z ?_ ?_
      · simp
        refine ⟨by omega, W_compR rs.length nD (fun j => decide (parO ds j = some r)) (by omega) ?_ ?_⟩
        · intro j hj
          simp [wipeD]
          rw [pr_get (by omega), o_eqU]
          simp
        · rw [hlen, kids_par, hZ]
          exact ⟨rfl, _, rfl⟩
      intro l s' hz
      rw [hZ] at hz
      obtain ⟨rfl, z5, rfl⟩ := hz
      obtain ⟨N, hN⟩ : ∃ N, N = ((kidsL ds r).filter fun j => decide (j ∈ os)).length := ⟨_, rfl⟩
      obtain ⟨Z, hZ⟩ : ∃ Z : Sl → Sto → Prop, Z = (fun l s' => s = s' ∧ ∃ z5, l = [some (.tup (rs.map Rm.D)), some (.lst (prD ds)), some (.tup (os.map nD)), some (nD r), some (.lst ((kidsL ds r).map nD)), z5, some (nD N)]) := ⟨_, rfl⟩
      rw [W_sSeq]; refine W_cut Z ?_ ?_
      · simp
        refine W_compG (kidsL ds r) nD nD (fun j => decide (j ∈ os)) (by omega) ?_ ?_
        · intro j hj
          simp [wipeD]
          rw [o_inT]
          simp
        · simp
          rw [hZ, hN]
          exact ⟨rfl, _, rfl⟩
      intro l s' hz
      rw [hZ] at hz
      obtain ⟨rfl, z5, rfl⟩ := hz
      have hN1 : rk rs r = "one" → N = 1 := fun h => by
        have hne : kidsL ds r ≠ [] := fun e => by
          have := (kd_kids T K hrl).2 e
          rw [h] at this
          exact absurd this (by decide)
        obtain ⟨x, x1, x2, x3⟩ := O.one r hr (by rw [h]; decide) hne
        have e : (kidsL ds r).filter (fun j => decide (j ∈ os)) = [x] := by
          apply sorted_ext
          · unfold kidsL
            exact ((List.pairwise_lt_range).filter _).filter _
          · simp
          · intro j
            rw [List.mem_filter]
            simp
            constructor
            · rintro ⟨j1, j2⟩
              exact x3 j j1 j2
            · rintro rfl
              exact ⟨x1, x2⟩
        rw [hN, e]
        rfl
      have hN2 : rk rs r = "all" → N = (kidsL ds r).length := fun h => by
        rw [hN, List.filter_eq_self.mpr]
        intro j hj
        simpa using O.all r hr h j hj
      rw [W_sSeq]; refine W_ifD false ?_ ?_
      · simp
        rw [getI_r (by omega), rk_get]
        by_cases h : rk rs r = Str.ofString "one"
        · simp [h, hN1 h]
        · simp [h]
      rw [if_neg (by decide), W_sNil]
      rw [W_sSeq]; refine W_ifD false ?_ ?_
      · simp
        rw [getI_r (by omega), rk_get]
        by_cases h : rk rs r = Str.ofString "all"
        · simp [h, hN2 h]
        · simp [h]
      rw [if_neg (by decide), W_sNil]
      refine W_ifD false ?_ ?_
      · simp
        by_cases h : 0 < r
        · have hp := O.up r hr h
          simp [h]
          rw [pr_get hrl]
          have e : parO ds r = some (par ds r) := by unfold parO; rw [if_neg (by omega)]
          rw [e]
          show OW (gNotIn (nD (par ds r)) _) _
          rw [o_notin_of' (fun _ => o_inT (par ds r) os)]
          simp [hp]
        · simp [h]
      rw [if_neg (by decide), W_sNil, hI]
      exact ⟨rfl, _, _, _, _, rfl⟩
    · intro l s' hi
      rw [hI] at hi
      obtain ⟨rfl, z3, z4, z5, z6, rfl⟩ := hi
      simp
      show OW (gIn (nD 0) (.tup (os.map nD))) _
      rw [o_inT]
      have := O.zero
      simp [this]
  obtain ⟨d, s', h1, rfl, rfl⟩ := h.ok
  exact h1
omit M T in
theorem law_whole (i : Nat) (s : Sto) : m__law_whole [nD i] s = .ok (.bl true) s := by
  have h : (m__law_whole [nD i] s).S (fun d s' => s = s' ∧ d = .bl true) NoE := by
    unfold m__law_whole b__law_whole
    simp [startD]
  obtain ⟨d, s', h1, rfl, rfl⟩ := h.ok
  exact h1
omit M T in
theorem opB_out (n : Nat) (cur : List Nat) (r : Nat) : (opB n cur).set r (.bl false) = opB n (cur.filter fun j => !decide (j = r)) := by
  unfold opB
  apply List.ext_getElem
  · simp
  · intro i h1 h2
    rw [List.getElem_set]
    simp
    by_cases h : r = i
    · simp [h]
    · rw [if_neg h]
      have : ¬ i = r := fun e => h e.symm
      simp [this]
omit M T in
theorem opB_in (n : Nat) (cur : List Nat) (r : Nat) : (opB n cur).set r (.bl true) = opB n (cur ++ [r]) := by
  unfold opB
  apply List.ext_getElem
  · simp
  · intro i h1 h2
    rw [List.getElem_set]
    simp
    by_cases h : r = i
    · simp [h]
    · rw [if_neg h]
      have : ¬ i = r := fun e => h e.symm
      simp [this]
theorem step_out {cur : List Nat} {r b : Nat} {s : Sto} (hr : r < ds.length) (ok : okOut ds cur r) (hb : s[b]? = some (.lst (opB ds.length cur))) :
    m__law_step [.tup (rs.map Rm.D), .lst (prD ds), .obj b, .str "out", nD r] s = .ok (.bl true) (s.set b (.lst (opB ds.length (cur.filter fun j => !decide (j = r))))) := by
  have hlen := M.len
  have hle := T.le
  have h : (m__law_step [.tup (rs.map Rm.D), .lst (prD ds), .obj b, .str "out", nD r] s).S (fun d s' => s' = s.set b (.lst (opB ds.length (cur.filter fun j => !decide (j = r)))) ∧ d = .bl true) NoE := by
    unfold m__law_step b__law_step
    simp only [w_mDef, startD]
    refine ⟨rfl, ?_⟩
    obtain ⟨w, hw⟩ : ∃ w : Str, w = "out" := ⟨_, rfl⟩
    rw [← hw]
    rw [W_sSeq]; refine W_ifD false ?_ ?_
    · simp [law_whole]
      omega
    rw [if_neg (by decide), W_sNil]
    rw [W_sSeq]; refine W_ifD true (by simp [hw]) ?_
    rw [if_pos rfl]
    obtain ⟨Z, hZ⟩ : ∃ Z : Sl → Sto → Prop, Z = (fun l s' => s = s' ∧ ∃ z6, l = [some (.tup (rs.map Rm.D)), some (.lst (prD ds)), some (.obj b), some (.str w), some (nD r), some (.lst []), z6, none, none, none]) := ⟨_, rfl⟩
    rw [W_sSeq]; refine W_cut Z ?_ ?_
    · simp
      refine ⟨by omega, W_compR rs.length nD (fun j => decide (parO ds j = some r) && decide (j ∈ cur)) (by omega) ?_ ?_⟩
      · intro j hj
        simp [wipeD]
        rw [pr_get (by omega), o_eqU]
        by_cases h : parO ds j = some r
        · simp [h, drf_o hb]
          rw [op_get (by omega)]
          simp
        · simp [h]
      · have e : ((List.range rs.length).filter fun j => decide (parO ds j = some r) && decide (j ∈ cur)) = [] := by
          rw [List.filter_eq_nil_iff]
          intro j hj h
          simp at h
          have : j ∈ kidsL ds r := by
            rw [← kids_par]
            exact List.mem_filter.mpr ⟨by rw [← hlen]; exact hj, decide_eq_true h.1⟩
          exact ok.2 j this h.2
        rw [e, hZ]
        exact ⟨rfl, _, rfl⟩
    intro l s' hz
    rw [hZ] at hz
    obtain ⟨rfl, z6, rfl⟩ := hz
    have hl : (opB ds.length cur).length = ds.length := by simp [opB]
    have h1 := ok.1
    rw [W_sSeq]; simp [-W_sSeq, drf_o hb]
    rw [op_get hr]
    simp [-W_sSeq, h1]
    simp [lstAt_o hb, ixI_nat (show r < (opB ds.length cur).length by rw [hl]; exact hr)]
    rw [opB_out]
  obtain ⟨d, s', h1, rfl, rfl⟩ := h.ok
  exact h1
theorem step_in {cur : List Nat} {r b : Nat} {s : Sto} (hr : r < ds.length) (ok : okIn rs ds cur r) (hb : s[b]? = some (.lst (opB ds.length cur))) :
    m__law_step [.tup (rs.map Rm.D), .lst (prD ds), .obj b, .str "in", nD r] s = .ok (.bl true) (s.set b (.lst (opB ds.length (cur ++ [r])))) := by
  have hlen := M.len
  have hle := T.le
  have h : (m__law_step [.tup (rs.map Rm.D), .lst (prD ds), .obj b, .str "in", nD r] s).S (fun d s' => s' = s.set b (.lst (opB ds.length (cur ++ [r]))) ∧ d = .bl true) NoE := by
    unfold m__law_step b__law_step
    simp only [w_mDef, startD]
    refine ⟨rfl, ?_⟩
    obtain ⟨w, hw⟩ : ∃ w : Str, w = "in" := ⟨_, rfl⟩
    rw [← hw]
    rw [W_sSeq]; refine W_ifD false ?_ ?_
    · simp [law_whole]
      omega
    rw [if_neg (by decide), W_sNil]
    rw [W_sSeq]; refine W_ifD false (by simp [hw]) ?_
    rw [if_neg (by decide), W_sNil]
    rw [W_sSeq]; simp [-W_sSeq, -W_sIf]
    rw [pr_get hr]
    try simp [-W_sSeq, -W_sIf]
    have hl : (opB ds.length cur).length = ds.length := by simp [opB]
    obtain ⟨Z, hZ⟩ : ∃ Z : Sl → Sto → Prop, Z = (fun l s' => s = s' ∧ ∃ z6 z9, l = [some (.tup (rs.map Rm.D)), some (.lst (prD ds)), some (.obj b), some (.str w), some (nD r), none, z6, none, some (uD (parO ds r)), z9]) := ⟨_, rfl⟩
    rw [W_sSeq]; refine W_cut Z ?_ ?_
    · by_cases h0 : r = 0
      · have e : parO ds r = none := by unfold parO; rw [if_pos h0]
        rw [e]
        refine W_ifD false (by simp [uD, D.isNon]) ?_
        rw [if_neg (by decide), W_sNil, hZ, e]
        exact ⟨rfl, _, _, rfl⟩
      · have h0 : 0 < r := by omega
        have e : parO ds r = some (par ds r) := by unfold parO; rw [if_neg (by omega)]
        obtain ⟨ok1, ok2⟩ := ok.2 h0
        have hp := (par_spec T h0 hr).1
        have hkl := kids_len ds (par ds r)
        rw [e]
        refine W_ifD true (by simp [uD, D.isNon]) ?_
        rw [if_pos rfl]
        obtain ⟨Y, hY⟩ : ∃ Y : Sl → Sto → Prop, Y = (fun l s' => s = s' ∧ ∃ z6, l = [some (.tup (rs.map Rm.D)), some (.lst (prD ds)), some (.obj b), some (.str w), some (nD r), none, z6, none, some (uD (some (par ds r))), some (.lst (((kidsL ds (par ds r)).filter fun j => decide (j ∈ cur)).map nD))]) := ⟨_, rfl⟩
        rw [W_sSeq]; refine W_cut Y ?_ ?_
        · simp
          refine ⟨by omega, W_compR rs.length nD (fun j => decide (parO ds j = some (par ds r)) && decide (j ∈ cur)) (by omega) ?_ ?_⟩
          · intro j hj
            simp [wipeD]
            rw [pr_get (by omega)]
            show OW (gEq (uD (parO ds j)) (nD (par ds r))) _
            rw [o_eqU]
            by_cases h : parO ds j = some (par ds r)
            · simp [h, drf_o hb]
              rw [op_get (by omega)]
              simp
            · simp [h]
          · have e2 : ((List.range rs.length).filter fun j => decide (parO ds j = some (par ds r)) && decide (j ∈ cur)) = (kidsL ds (par ds r)).filter fun j => decide (j ∈ cur) := by
              rw [← kids_par, List.filter_filter, hlen]
              apply List.filter_congr
              intro j _
              rw [Bool.and_comm]
            rw [e2, hY]
            exact ⟨rfl, _, rfl⟩
        intro l s' hy
        rw [hY] at hy
        obtain ⟨rfl, z6, rfl⟩ := hy
        refine W_ifD false ?_ ?_
        · simp [uD, drf_o hb]
          rw [op_get (by omega)]
          simp [ok1]
          rw [getI_r (by omega), rk_get]
          by_cases h : rk rs (par ds r) = Str.ofString "one"
          · have hnil : ((kidsL ds (par ds r)).filter fun j => decide (j ∈ cur)) = [] := by
              rw [List.filter_eq_nil_iff]
              intro j hj
              simpa using ok2 h j hj
            simp [h, hnil]
            exact fun x hx => ok2 h x hx
          · simp [h]
        rw [if_neg (by decide), W_sNil, hZ, e]
        exact ⟨rfl, _, _, rfl⟩
    intro l s' hz
    rw [hZ] at hz
    obtain ⟨rfl, z6, z9, rfl⟩ := hz
    have h1 := ok.1
    rw [W_sSeq]; simp [-W_sSeq, drf_o hb]
    rw [op_get hr]
    simp [-W_sSeq, h1]
    simp [lstAt_o hb, ixI_nat (show r < (opB ds.length cur).length by rw [hl]; exact hr)]
    rw [opB_in]
  obtain ⟨d, s', h1, rfl, rfl⟩ := h.ok
  exact h1
end
end Law

namespace Law
open PySem Vx
/-! law 24: the walk along a record, the ways -/
section
variable {rs : List Rm} {ds : List Nat} (M : Rms rs ds) (T : Tree ds)
include M T
theorem law_walk {es : List En} {os : List Nat} {rr b k : Nat} {s : Sto} {F : Wq} (hr : s[rr]? = some (.lst (es.map En.D))) (hb : s[b]? = some (.lst (opB ds.length os))) (hne : rr ≠ b)
    (hq : WQ rs ds k es ⟨os, [], [], 0⟩ F) (hth : F.th = 1) (hl : es.length ≤ 10000) :
    m__law_walk [.tup (rs.map Rm.D), .lst (prD ds), .obj b, .obj rr, nD k] s = .ok (.tup [.lst (F.outs.map nD), .lst (F.ins.map nD)]) (s.set b (.lst (opB ds.length F.cur))) := by
  have hlen := M.len
  have hle := T.le
  have lb := (List.getElem?_eq_some_iff.mp hb).1
  have h : (m__law_walk [.tup (rs.map Rm.D), .lst (prD ds), .obj b, .obj rr, nD k] s).S (fun d s' => s' = s.set b (.lst (opB ds.length F.cur)) ∧ d = .tup [.lst (F.outs.map nD), .lst (F.ins.map nD)]) NoE := by
    unfold m__law_walk b__law_walk
    simp only [w_mDef, startD]
    refine ⟨rfl, ?_⟩
    rw [W_sSeq]; simp [-W_sSeq]
    rw [W_sSeq]; simp [-W_sSeq]
    rw [W_sSeq]; simp [-W_sSeq]
    obtain ⟨I, hI⟩ : ∃ I : List En → Sl → Sto → Prop, I = (fun dn l s2 => ∃ (q : Wq) (z8 : Option D), (∀ rest, es = dn ++ rest → WQ rs ds k rest q F) ∧ q.outs.length ≤ dn.length ∧ q.ins.length ≤ dn.length ∧ s2 = s.set b (.lst (opB ds.length q.cur)) ∧ l = [some (.tup (rs.map Rm.D)), some (.lst (prD ds)), some (.obj b), some (.obj rr), some (nD k), some (.lst (q.outs.map nD)), some (.lst (q.ins.map nD)), some (nD q.th), z8]) := ⟨_, rfl⟩
    rw [W_sSeq]; refine W_cut (I es) ?_ ?_
    · simp [-W_sSeq, -W_sIf]
      refine W_forO (m := rr) En.D es I (by omega) ?_ ?_ ?_ (fun _ _ h => h)
      · intro dn l s2 hi
        rw [hI] at hi
        obtain ⟨q, z8, _, _, _, rfl, _⟩ := hi
        exact lstAt_o (by rw [List.getElem?_set_ne (Ne.symm hne)]; exact hr)
      · rw [hI]
        refine ⟨⟨os, [], [], 0⟩, none, fun rest h => ?_, by simp, by simp, (set_same hb).symm, rfl⟩
        rw [List.nil_append] at h
        rw [← h]; exact hq
      · intro dn y rest l s2 he hi
        rw [hI] at hi
        obtain ⟨q, z8, hW, ho, hin, rfl, rfl⟩ := hi
        obtain ⟨q1, hst, hW1⟩ := hW _ he
        have hdn : dn.length ≤ 10000 := by
          have := congrArg List.length he
          simp at this
          omega
        have hW2 : ∀ rest', es = (dn ++ [y]) ++ rest' → WQ rs ds k rest' q1 F := fun rest' h => by
          rw [he, List.append_assoc] at h
          have := List.append_cancel_left h
          simp at this
          rw [← this]; exact hW1
        have hbq : (s.set b (.lst (opB ds.length q.cur)))[b]? = some (.lst (opB ds.length q.cur)) := by rw [List.getElem?_set, if_pos rfl, if_pos lb]
        rw [tg1W]
        rw [W_sSeq]; refine W_ifD false ?_ ?_
        · cases y with
          | rc r => cases r <;> simp [En.D, Rc.D]
          | mv w n => simp [En.D]
        rw [if_neg (by decide), W_sNil]
        cases hst with
        | rc r =>
          rw [W_sSeq]; refine W_ifD false (by cases r <;> simp [En.D, Rc.D]) ?_
          rw [if_neg (by decide), W_sNil]
          refine W_ifD false (by cases r <;> simp [En.D, Rc.D]) ?_
          rw [if_neg (by decide), W_sNil, hI]
          exact ⟨q, _, hW2, by rw [List.length_append]; omega, by rw [List.length_append]; omega, rfl, rfl⟩
        | door n =>
          rw [W_sSeq]; refine W_ifD false (by simp [En.D]) ?_; rw [if_neg (by decide), W_sNil]
          refine W_ifD false (by simp [En.D]) ?_
          rw [if_neg (by decide), W_sNil, hI]
          exact ⟨q, _, hW2, by rw [List.length_append]; omega, by rw [List.length_append]; omega, rfl, rfl⟩
        | thr h0 =>
          obtain ⟨Z, hZ⟩ : ∃ Z : Sl → Sto → Prop, Z = (fun l s' => s' = s.set b (.lst (opB ds.length q.cur)) ∧ l = [some (.tup (rs.map Rm.D)), some (.lst (prD ds)), some (.obj b), some (.obj rr), some (nD k), some (.lst (q.outs.map nD)), some (.lst (q.ins.map nD)), some (nD 1), some (En.mv "through" k).D]) := ⟨_, rfl⟩
          rw [W_sSeq]; refine W_cut Z ?_ ?_
          · refine W_ifD true (by simp [En.D]) ?_
            rw [if_pos rfl]
            rw [W_sSeq]; simp [-W_sSeq, -W_sIf, h0]
            refine W_ifD false ?_ ?_
            · simp [En.D, law_whole]
            rw [if_neg (by decide), W_sNil, hZ]
            exact ⟨rfl, rfl⟩
          intro l s' hz
          rw [hZ] at hz
          obtain ⟨rfl, rfl⟩ := hz
          refine W_ifD false (by simp [En.D]) ?_
          rw [if_neg (by decide), W_sNil, hI]
          exact ⟨⟨q.cur, q.outs, q.ins, 1⟩, _, hW2, by rw [List.length_append]; show q.outs.length ≤ _; omega, by rw [List.length_append]; show q.ins.length ≤ _; omega, rfl, rfl⟩
        | out n h0 hn hok =>
          have hstep := step_out M T hn hok hbq
          rw [List.set_set] at hstep
          rw [W_sSeq]; refine W_ifD false (by simp [En.D]) ?_; rw [if_neg (by decide), W_sNil]
          refine W_ifD true (by simp [En.D]) ?_
          rw [if_pos rfl]
          rw [W_sSeq]; simp [-W_sSeq, En.D, hstep]
          rw [W_sSeq]; refine W_ifD false (by simp [h0]) ?_
          rw [if_neg (by decide), W_sNil]
          refine W_ifD true (by simp) ?_
          rw [if_pos rfl]
          simp
          refine ⟨by omega, ?_⟩
          rw [hI]
          refine ⟨⟨q.cur.filter fun j => !decide (j = n), q.outs ++ [n], q.ins, 0⟩, some (En.mv "out" n).D, hW2, by simp; omega, by simp; omega, rfl, ?_⟩
          simp [h0, En.D]
        | inn n h0 hn hok =>
          have hstep := step_in M T hn hok hbq
          rw [List.set_set] at hstep
          rw [W_sSeq]; refine W_ifD false (by simp [En.D]) ?_; rw [if_neg (by decide), W_sNil]
          refine W_ifD true (by simp [En.D]) ?_
          rw [if_pos rfl]
          rw [W_sSeq]; simp [-W_sSeq, En.D, hstep]
          rw [W_sSeq]; refine W_ifD false (by simp [h0]) ?_
          rw [if_neg (by decide), W_sNil]
          refine W_ifD false (by simp) ?_
          rw [if_neg (by decide)]
          simp
          refine ⟨by omega, ?_⟩
          rw [hI]
          refine ⟨⟨q.cur ++ [n], q.outs, q.ins ++ [n], 1⟩, some (En.mv "in" n).D, hW2, by simp; omega, by simp; omega, rfl, ?_⟩
          simp [h0, En.D]
    intro l s2 hi
    rw [hI] at hi
    obtain ⟨q, z8, hW, ho, hin, rfl, rfl⟩ := hi
    have hF : q = F := hW [] (by simp)
    subst hF
    rw [W_sSeq]; refine W_ifD false (by simp [hth]) ?_
    rw [if_neg (by decide), W_sNil]
    simp
  obtain ⟨d, s', h1, rfl, rfl⟩ := h.ok
  exact h1
end
theorem eq_nil {P : D → Prop} : OW (gEq (.lst []) (.lst [])) P ↔ P (.bl true) := by
  have h := shp_nD []
  have h : D.shp (.lst []) = true := h
  rw [o_eq (eqOk_shp h h)]
  simp [D.eqv, D.eqvAll]
theorem ne_nD (us : List Nat) {P : D → Prop} : OW (gNe (.lst (us.map nD)) (.lst (us.map nD))) P ↔ P (.bl false) := by
  rw [o_ne (eqOk_shp (shp_nD us) (shp_nD us)), eqv_nD]
  rfl
theorem ne_tupN (us : List Nat) {P : D → Prop} : OW (gNe (.tup (us.map nD)) (.tup (us.map nD))) P ↔ P (.bl false) := by
  have h1 : D.shp (.tup (us.map nD)) = true := by
    have := shp_nD us
    unfold D.shp D.pl D.dep at this ⊢
    exact this
  have h2 : D.eqv (.tup (us.map nD)) (.tup (us.map nD)) = true := by
    have := eqv_nD us
    unfold D.eqv at this ⊢
    exact this
  rw [o_ne (eqOk_shp h1 h1), h2]
  rfl
theorem ne_door (k : Nat) {P : D → Prop} : OW (gNe (.tup [.str "door", nD k]) (.tup [.str "door", nD k])) P ↔ P (.bl false) := by
  have h0 : ((Str.ofString "door").cps.all fun c => decide (c < 128)) = true := by decide +kernel
  have hs : D.shp (.tup [.str "door", nD k]) = true := by
    simp [D.shp, D.pl, D.plAll, D.dep, D.depAll] at h0 ⊢
    exact h0
  rw [o_ne (eqOk_shp hs hs)]
  simp [D.eqv, D.eqvAll]
section
variable {c : Ch} (C : ChOk c) {st : St} (SO : StOk c st)
include C SO
theorem law_ways {k : Nat} (hk : k < c.doors.length) (m : Nat) (a : List Nat) (s : Sto) :
    m__law_ways [Ch.D c, st.D, nD k, .lst ((mvF c c.doors[k] st).us.map nD), .lst ((mvF c c.doors[k] st).vs.map nD), (passF c m k c.doors[k] st a).st.D] s = .ok (.bl true) s := by
  have T := C.tree
  have hle := T.le
  have M : Rms c.rooms c.ds := ⟨rfl⟩
  have hlen : c.rooms.length = c.ds.length := M.len
  have S := SO.W C
  have hol := S.len C
  have hdm := List.getElem_mem hk
  have DO := C.doors.2 _ hdm
  have hdl := C.doors.1
  have hul := wayU_lt C DO
  have hgo := fun (hw : c.doors[k].way ≠ "stay") g hg => goal_open C SO hdm hw m k a (g := g) hg
  have hps := (passF_ok C S (k := k) (m := m) hdm a).1
  generalize hd : c.doors[k] = d at DO hul hgo hps ⊢
  have hkp : d.way ≠ "stay" → (passF c m k d st a).st.kept = keptL' c d st.op st.kept := fun hw => by
    unfold passF
    rw [if_neg hw]
  generalize passF c m k d st a = p at hgo hps hkp
  have h : (m__law_ways [Ch.D c, st.D, nD k, .lst ((mvF c d st).us.map nD), .lst ((mvF c d st).vs.map nD), p.st.D] s).S (fun r s' => s = s' ∧ r = .bl true) NoE := by
    unfold m__law_ways b__law_ways
    simp only [w_mDef, startD]
    refine ⟨rfl, ?_⟩
    rw [W_sSeq]; simp [-W_sSeq, -W_sIf]
    rw [getI_g hk, hd]
    by_cases hw : d.way = "stay"
    · have e : mvF c d st = ⟨[], [], st.kept⟩ := by unfold mvF; rw [if_pos hw]
      rw [e]
      rw [W_sSeq]; refine W_ifD true (by simp [hw]) ?_
      rw [if_pos rfl]
      simp [eq_nil]
    have e : mvF c d st = ⟨leftL c d st.op, goneL c d st.op st.kept, keptL' c d st.op st.kept⟩ := by unfold mvF; rw [if_neg hw]
    rw [e]
    simp only
    rw [W_sSeq]; refine W_ifD false ?_ ?_
    · have hw : ¬ d.way = Str.ofString "stay" := hw
      simp [hw]
    rw [if_neg (by decide), W_sNil]
    obtain ⟨g, hg1, hg2⟩ : ∃ g, d.goal = some g ∧ g < c.rooms.length := by
      rcases DO.way with ⟨h, _⟩ | ⟨_, g, h1, h2⟩ | ⟨_, g, h1, h2, _⟩
      · exact absurd h hw
      · exact ⟨g, h1, h2⟩
      · exact ⟨g, h1, h2⟩
    obtain ⟨o1, o2⟩ := hgo hw g hg1
    have hu : wayU c d = hallO c.rooms c.ds d.rm g := by unfold wayU; rw [hg1]; rfl
    have hrm := DO.rm
    have hh := law_hall M T (a := d.rm) (b := g) (by omega) (by omega)
    rw [← hu] at hh
    have hdg : uD d.goal = nD g := by rw [hg1]; rfl
    rw [W_sSeq]; simp [-W_sSeq, -W_sIf, hdg, hh]
    obtain ⟨Y, hY⟩ : ∃ Y : Sl → Sto → Prop, Y = (fun l s' => s = s' ∧ ∃ z9, l = [some (Ch.D c), some st.D, some (nD k), some (.lst ((leftL c d st.op).map nD)), some (.lst ((goneL c d st.op st.kept).map nD)), some p.st.D, some d.D, some (uD (wayU c d)), some (.lst ((leftL c d st.op).map nD)), z9, none]) := ⟨_, rfl⟩
    rw [W_sSeq]; refine W_cut Y ?_ ?_
    · simp [← List.map_reverse]
      refine W_compG st.op.reverse nD nD (inP c.ds (wayU c d)) (by simp; omega) ?_ ?_
      · intro x hx
        have hx2 := S.lt x (by simpa using hx)
        cases hw : wayU c d with
        | none => simp [wipeD, uD, inP, D.isNon]
        | some u =>
          have hu2 := hul u hw
          simp [wipeD, uD, inP, D.isNon, law_lies M (show c.ds.length ≤ 100 by omega) hx2 hu2]
      · rw [hY]
        exact ⟨rfl, _, rfl⟩
    intro l s' hz
    rw [hY] at hz
    obtain ⟨rfl, z9, rfl⟩ := hz
    have hgl : (goneL c d st.op st.kept).length ≤ 41 := goU_len T hul
    have hgs : sortN (goneL c d st.op st.kept) = goneL c d st.op st.kept := sortN_id (goU_sorted T hul)
    rw [W_sSeq]; refine W_ifD false ?_ ?_
    · simp [ne_nD]
      rw [o_sorted, sortN_D, hgs, ne_nD]
      simp
      omega
    rw [if_neg (by decide), W_sNil]
    rw [W_sSeq]; simp [-W_sSeq, -W_sIf, hdg]
    obtain ⟨q, hq⟩ : ∃ q, q = (if d.way = "back" then (p.st.kept[g]?.getD []) else []) := ⟨_, rfl⟩
    obtain ⟨Y, hY⟩ : ∃ Y : Sl → Sto → Prop, Y = (fun l s' => s = s' ∧ l = [some (Ch.D c), some st.D, some (nD k), some (.lst ((leftL c d st.op).map nD)), some (.lst ((goneL c d st.op st.kept).map nD)), some p.st.D, some d.D, some (uD (wayU c d)), some (.lst ((leftL c d st.op).map nD)), z9, some (.lst ((g :: q).map nD))]) := ⟨_, rfl⟩
    rw [W_sSeq]; refine W_cut Y ?_ ?_
    · refine W_ifD (decide (d.way = "back")) (by simp; try exact Bool.eq_iff_iff.mpr (by simp)) ?_
      split
      · rename_i hb
        have hb := of_decide_eq_true hb
        have hgk : g < p.st.kept.length := by rw [hps.kl]; omega
        have e3 : p.st.kept[g]?.getD [] = p.st.kept[g] := by rw [List.getElem?_eq_getElem hgk]; rfl
        rw [if_pos hb, e3] at hq
        have := (hps.kq _ (List.getElem_mem hgk)).1
        simp [hdg]
        rw [getI_g hgk, ← hq]
        rw [← hq] at this
        simp [tupN]
        refine ⟨by omega, ?_⟩
        rw [hY]
        exact ⟨rfl, by simp⟩
      · rename_i hb
        have hb : ¬ d.way = "back" := fun z => hb (decide_eq_true z)
        rw [if_neg hb] at hq
        rw [W_sNil, hY, hq]
        exact ⟨rfl, rfl⟩
    intro l s' hy
    rw [hY] at hy
    obtain ⟨rfl, rfl⟩ := hy
    have hin : ∀ x ∈ g :: q, x ∈ p.st.op := fun x hx => by
      rcases List.mem_cons.mp hx with h | h
      · rw [h]; exact o1
      · rw [hq] at h
        split at h
        · rename_i hb
          rw [hkp hw] at h
          exact o2 hb x h
        · cases h
    obtain ⟨I, hI⟩ : ∃ I : List Nat → Sl → Sto → Prop, I = (fun _ l s' => s = s' ∧ ∃ z9, l = [some (Ch.D c), some st.D, some (nD k), some (.lst ((leftL c d st.op).map nD)), some (.lst ((goneL c d st.op st.kept).map nD)), some p.st.D, some d.D, some (uD (wayU c d)), some (.lst ((leftL c d st.op).map nD)), z9, some (.lst ((g :: q).map nD))]) := ⟨_, rfl⟩
    rw [W_sSeq, W_sFor]; simp only [w_itSeq, w_mV, atW_succ, atW_zero]
    show (forD _ _ ((g :: q).map nD) _ _).W _ _ _ _ _
    refine W_forM nD (g :: q) I ?_ ?_ ?_
    · rw [hI]
      exact ⟨rfl, _, rfl⟩
    · intro dn x rest l s' he hi
      rw [hI] at hi
      obtain ⟨rfl, z9, rfl⟩ := hi
      have hx := hin x (by rw [he]; simp)
      rw [tg1W]
      refine W_ifD false ?_ ?_
      · simp
        rw [o_notin_of' (fun _ => o_inT x p.st.op)]
        simp [hx]
      rw [if_neg (by decide), W_sNil, hI]
      exact ⟨rfl, _, rfl⟩
    · intro l s' hi
      rw [hI] at hi
      obtain ⟨rfl, z9, rfl⟩ := hi
      simp
  obtain ⟨r, s', h1, rfl, rfl⟩ := h.ok
  exact h1
end
end Law

namespace Law
open PySem Vx
/-! law 24: the law -/
theorem mvX_head (c : Ch) (m k : Nat) (d : Dr) (v : Mv) (bs : List Int) (a : List Nat) : ∃ ys, (mvX c m k d v ⟨bs, a, []⟩).es = .mv "door" k :: ys := by
  have st : ∀ (x : Re) (w : Str) (n : Nat) (ds : List Dd), (∃ ys, x.es = .mv "door" k :: ys) → ∃ ys, (stepE m c.szs x w n ds).es = .mv "door" k :: ys := fun x w n ds ⟨ys, h⟩ => by
    unfold stepE
    simp only
    rw [h]
    exact ⟨_, rfl⟩
  have ou : ∀ (us : List Nat) (x : Re), (∃ ys, x.es = .mv "door" k :: ys) → ∃ ys, (outsE m c.szs c.rooms us x).es = .mv "door" k :: ys := by
    intro us
    induction us with
    | nil => exact fun x h => h
    | cons r us ih => exact fun x h => ih _ (st x _ _ _ h)
  have ii : ∀ (us : List Nat) (x : Re), (∃ ys, x.es = .mv "door" k :: ys) → ∃ ys, (insE m c.szs c.rooms us x).es = .mv "door" k :: ys := by
    intro us
    induction us with
    | nil => exact fun x h => h
    | cons r us ih => exact fun x h => ih _ (st x _ _ _ h)
  unfold mvX
  refine ii _ _ (st _ _ _ _ (ou _ _ ?_))
  exact ⟨[], rfl⟩
theorem o_notT' (a : Nat) (xs : List Nat) {P : D → Prop} : OW (gNotIn (nD a) (.tup (xs.map nD))) P ↔ P (.bl (!decide (a ∈ xs))) := o_notin_of' fun _ => o_inT a xs
theorem law_true : ∀ ca : Nat → Nat, ∀ ns : List Int, ns.length ≤ 63 → ∃ st', m_law ca [.lst (ns.map .int)] [] = .ok (.bl true) st' := by
  intro ca ns hn
  obtain ⟨c, hc, C⟩ := chart hn []
  have T := C.tree
  have hle := T.le
  have hdl := C.doors.1
  have hlt := C.lett
  have hm : c.lett ≤ 1000 := by omega
  have M : Rms c.rooms c.ds := ⟨rfl⟩
  have hlen : c.rooms.length = c.ds.length := M.len
  have main : (m_law ca [.lst (ns.map .int)] []).S (fun d _ => d = .bl true) NoE := by
    unfold m_law b_law
    simp only [w_mDef, startD]
    refine ⟨rfl, ?_⟩
    rw [W_sSeq]; simp [-W_sSeq, hc]
    rw [W_sSeq]; simp [-W_sSeq]
    rw [W_sSeq]; simp [-W_sSeq, law_parents M T]
    obtain ⟨I, hI⟩ : ∃ I : Nat → Sl → Sto → Prop, I = (fun _ l _ => ∃ z4 z5 z6 z7 z8 z9 z10 z11 z12, l = [some (.lst (ns.map .int)), some (Ch.D c), some (.tup (c.rooms.map Rm.D)), some (.lst (prD c.ds)), z4, z5, z6, z7, z8, z9, z10, z11, z12]) := ⟨_, rfl⟩
    rw [W_sSeq, W_sFor]; simp [-W_sSeq]
    refine W_rg 0 2 I ?_ ?_ ?_
    · rw [hI]
      exact ⟨_, _, _, _, _, _, _, _, _, rfl⟩
    · intro lap l s hlap hi
      rw [hI] at hi
      obtain ⟨z4, z5, z6, z7, z8, z9, z10, z11, z12, rfl⟩ := hi
      obtain ⟨st, hst, SO⟩ := stand hn C (at' := 50 + 100 * lap) (by omega) s
      have hst : m__law_stand [Ch.D c, .lst (ns.map .int), .int (50 + 100 * (lap : Int))] s = .ok st.D s := by
        have e : (50 + 100 * (lap : Int)) = ((50 + 100 * lap : Nat) : Int) := by omega
        rw [e]; exact hst
      have S := SO.W C
      have hol := S.len C
      rw [W_sSeq]; simp [-W_sSeq, -W_sFor, hst]
      obtain ⟨J, hJ⟩ : ∃ J : Nat → Sl → Sto → Prop, J = (fun _ l _ => ∃ z4 z6 z7 z8 z9 z10 z11 z12, l = [some (.lst (ns.map .int)), some (Ch.D c), some (.tup (c.rooms.map Rm.D)), some (.lst (prD c.ds)), z4, some (St.D st), z6, z7, z8, z9, z10, z11, z12]) := ⟨_, rfl⟩
      rw [W_sFor]; simp [-W_sSeq, -W_sIf]
      refine ⟨by omega, W_rg 0 c.doors.length J ?_ ?_ ?_⟩
      · rw [hJ]
        exact ⟨_, _, _, _, _, _, _, _, rfl⟩
      · intro k l s hk hi
        rw [hJ] at hi
        obtain ⟨z4, z6, z7, z8, z9, z10, z11, z12, rfl⟩ := hi
        have hk : k < c.doors.length := by simpa using hk
        have hdm := List.getElem_mem hk
        have DO := C.doors.2 _ hdm
        rw [W_sSeq]; refine W_ifD (!decide (c.doors[k].rm ∈ st.op)) ?_ ?_
        · simp
          rw [getI_g hk]
          try simp
          rw [o_notT']
          simp
        split
        · rw [W_sCnt, hJ]
          exact ⟨_, _, _, _, _, _, _, _, rfl⟩
        rename_i hrm
        have hrm : c.doors[k].rm ∈ st.op := by simpa using hrm
        rw [W_sNil]
        -- letters, the door passed
        have L0 : LAt ca (s ++ [.ins (ca 0) [("most", nD c.lett), ("line", .obj (s.length + 1))], .lst []]) s.length (s.length + 1) c.lett [] := ⟨by simp, by simp⟩
        have hi := l_init ca s c.lett
        have hl1 : (s ++ [Ob.ins (ca 0) [("most", nD c.lett), ("line", .obj (s.length + 1))], .lst []]).length = s.length + 2 := by simp
        obtain ⟨ob, hp⟩ := passedP C S L0 hm hk
        have po := passF_ok C S (k := k) (m := c.lett) hdm []
        have hpe := passF_mv c c.lett k c.doors[k] S.rise []
        have hWQ := WQ_pass C SO c.lett k hdm hrm []
        have hopn := opn_pass C SO hdm hrm c.lett k []
        have hways := fun s => law_ways C SO hk c.lett [] s
        obtain ⟨ys, hhead⟩ := mvX_head c c.lett k c.doors[k] (mvF c c.doors[k] st) st.held []
        generalize mvF c c.doors[k] st = v at hpe hWQ hways hhead
        generalize mvX c c.lett k c.doors[k] v ⟨st.held, [], []⟩ = X at hpe hWQ hhead
        have q1 : (passF c c.lett k c.doors[k] st []).es = X.es := by rw [hpe]
        have q2 : (passF c c.lett k c.doors[k] st []).st.op = sortN ((st.op.filter fun k => !decide (k ∈ v.us)) ++ v.vs) := by rw [hpe]
        generalize passF c c.lett k c.doors[k] st [] = p at hp po q1 q2 hways hopn
        rw [q1] at hp
        obtain ⟨p1, p2, _⟩ := po
        rw [q1] at p2
        have hpl := p1.len C
        rw [hl1] at hp
        have hp : m_passed ca [Ch.D c, St.D st, .int (k : Int), .obj s.length] (s ++ [.ins (ca 0) [("most", nD c.lett), ("line", .obj (s.length + 1))], .lst []]) = _ := hp
        rw [W_sSeq]; simp [-W_sSeq, -W_sIf, hi, hp]
        rw [show s.length + 2 + 1 = s.length + 3 from rfl]
        have f3 : (s ++ [Ob.ins (ca 0) [("most", nD c.lett), ("line", .obj (s.length + 1))], .lst (p.a.map nD), ob, .lst (X.es.map En.D)])[s.length + 3]? = some (.lst (X.es.map En.D)) := by simp
        have hl2 : (s ++ [Ob.ins (ca 0) [("most", nD c.lett), ("line", .obj (s.length + 1))], .lst (p.a.map nD), ob, .lst (X.es.map En.D)]).length = s.length + 4 := by simp
        generalize s ++ [Ob.ins (ca 0) [("most", nD c.lett), ("line", .obj (s.length + 1))], .lst (p.a.map nD), ob, .lst (X.es.map En.D)] = s2 at f3 hl2 ⊢
        rw [W_sSeq]; refine W_ifD false ?_ ?_
        · simp [drf_o f3]
        rw [if_neg (by decide), W_sNil]
        obtain ⟨Z, hZ⟩ : ∃ Z : Sl → Sto → Prop, Z = (fun l s3 => s3 = s2 ++ [.lst (opB c.ds.length st.op)] ∧ ∃ z9, l = [some (.lst (ns.map .int)), some (Ch.D c), some (.tup (c.rooms.map Rm.D)), some (.lst (prD c.ds)), z4, some (St.D st), some (.int k), some (.tup [p.st.D, .obj (s.length + 3)]), some (.obj (s.length + 4)), z9, z10, z11, z12]) := ⟨_, rfl⟩
        rw [W_sSeq]; refine W_cut Z ?_ ?_
        · simp
          refine ⟨by omega, W_compR c.rooms.length (fun j => .bl (decide (j ∈ st.op))) (fun _ => true) (by omega) ?_ ?_⟩
          · intro j hj
            simp [wipeD]
            rw [o_inT]
          · rw [List.filter_eq_self.mpr (by simp), hlen]
            simp
            rw [hl2, hZ]
            exact ⟨rfl, _, rfl⟩
        intro l s3 hz
        rw [hZ] at hz
        obtain ⟨rfl, z9, rfl⟩ := hz
        have u3 : (s2 ++ [Ob.lst (opB c.ds.length st.op)])[s.length + 3]? = some (.lst (X.es.map En.D)) := by rw [List.getElem?_append_left (by omega)]; exact f3
        have u4 : (s2 ++ [Ob.lst (opB c.ds.length st.op)])[s.length + 4]? = some (.lst (opB c.ds.length st.op)) := by rw [← hl2]; simp
        have hw := law_walk M T u3 u4 (by omega) hWQ rfl (by omega)
        have hw : m__law_walk [.tup (c.rooms.map Rm.D), .lst (prD c.ds), .obj (s.length + 4), .obj (s.length + 3), .int (k : Int)] (s2 ++ [Ob.lst (opB c.ds.length st.op)]) = _ := hw
        rw [W_sSeq]; simp [-W_sSeq, -W_sIf, hw, -List.map_append, -List.set_append]
        have v3 : ((s2 ++ [Ob.lst (opB c.ds.length st.op)]).set (s.length + 4) (.lst (opB c.ds.length ((st.op.filter fun j => !decide (j ∈ v.us)) ++ v.vs))))[s.length + 3]? = some (.lst (X.es.map En.D)) := by rw [List.getElem?_set_ne (by omega)]; exact u3
        have v4 : ((s2 ++ [Ob.lst (opB c.ds.length st.op)]).set (s.length + 4) (.lst (opB c.ds.length ((st.op.filter fun j => !decide (j ∈ v.us)) ++ v.vs))))[s.length + 4]? = some (.lst (opB c.ds.length ((st.op.filter fun j => !decide (j ∈ v.us)) ++ v.vs))) := by
          rw [List.getElem?_set, if_pos rfl, if_pos (by rw [List.length_append, hl2]; simp)]
        generalize (s2 ++ [Ob.lst (opB c.ds.length st.op)]).set (s.length + 4) (.lst (opB c.ds.length ((st.op.filter fun j => !decide (j ∈ v.us)) ++ v.vs))) = s4 at v3 v4 ⊢
        generalize hcur : (st.op.filter fun j => !decide (j ∈ v.us)) ++ v.vs = cur at v4 q2
        rw [W_sSeq]; simp [-W_sSeq, -W_sIf]
        have h0 : 0 < X.es.length := by rw [hhead]; simp
        have e0 : X.es[0] = .mv "door" k := by
          have : X.es[0]? = some (.mv "door" k) := by rw [hhead]; rfl
          rw [List.getElem?_eq_getElem h0] at this
          exact Option.some.inj this
        rw [W_sSeq]; refine W_ifD false ?_ ?_
        · simp [drf_o v3, D.isNon]
          rw [show ((0 : Int)) = ((0 : Nat) : Int) from rfl]
          rw [getI_g h0, e0]
          simp [En.D, ne_door]
        rw [if_neg (by decide), W_sNil]
        rw [W_sSeq]; refine W_ifD false ?_ ?_
        · simp [St.D]
        rw [if_neg (by decide), W_sNil]
        have hopl : p.st.op = (List.range c.ds.length).filter fun j => decide (j ∈ cur) := by
          apply sorted_ext p1.rise (List.pairwise_lt_range.filter _)
          intro j
          rw [List.mem_filter, List.mem_range]
          have hj : j ∈ p.st.op ↔ j ∈ cur := by rw [q2, (sortN_perm _).mem_iff]
          rw [hj]
          constructor
          · intro h
            exact ⟨p1.lt j (hj.mpr h), decide_eq_true h⟩
          · rintro ⟨_, h⟩
            exact of_decide_eq_true h
        rw [W_sSeq]; refine W_ifD false ?_ ?_
        · simp
          refine ⟨by omega, W_compR c.rooms.length nD (fun j => decide (j ∈ cur)) (by omega) ?_ ?_⟩
          · intro j hj
            simp [wipeD, drf_o v4]
            rw [op_get (by omega)]
            simp
          · rw [hlen, ← hopl]
            simp
            rw [ne_tupN]
            simp
        rw [if_neg (by decide), W_sNil]
        have hfull := law_is_full M T hopn C.kd (by omega) s4
        rw [W_sSeq]; refine W_ifD false ?_ ?_
        · simp [hfull]
        rw [if_neg (by decide), W_sNil]
        have hways := hways s4
        have hways : m__law_ways [Ch.D c, St.D st, .int (k : Int), .lst (v.us.map nD), .lst (v.vs.map nD), p.st.D] s4 = _ := hways
        refine W_ifD false ?_ ?_
        · simp [hways]
        rw [if_neg (by decide), W_sNil, hJ]
        exact ⟨_, _, _, _, _, _, _, _, rfl⟩
      · intro l s hi
        rw [hJ] at hi
        obtain ⟨z4, z6, z7, z8, z9, z10, z11, z12, rfl⟩ := hi
        rw [hI]
        exact ⟨_, _, _, _, _, _, _, _, _, rfl⟩
    · intro l s hi
      simp
  obtain ⟨d, s', h1, rfl⟩ := main.ok
  exact ⟨s', h1⟩
end Law

namespace Law
open PySem PySem.Spec L2 Vx
def topS (i : Nat) : Stmt := PySem.Challenge.pw_nesthall_k24_a_door_closes_what_it_opene.main.body.getD i (.Pass ⟨0, 0, 0, 0⟩)
section
variable {P : Program} {w : World} {K : PySem.W.Frag} {mg : Str → Option Value} {base : Heap}
abbrev s_Letters___init__ : Stmt := inClass (topS 26) 0
abbrev n_Letters___init__ : List Str := ["self", "most"]
theorem sc_Letters___init__ : FnScope n_Letters___init__ ["self", "most"] (defScope s_Letters___init__) := ⟨rfl, rfl, rfl, by decide +kernel, rfl, by decide +kernel, by decide +kernel⟩
theorem c_Letters___init__ {ca : Nat → Nat} (F : IDfn K mg (ca 0) "Letters" "Letters.__init__" s_Letters___init__ ["self", "most"]) (cl_Letters : Cls K (ca 0)) (na_Letters_line : NoAttr K (ca 0) "line") (na_Letters_most : NoAttr K (ca 0) "most") : MkI P w K mg base 1 (ca 0) "Letters" false (m_Letters___init__ ca) :=
 mki_of (k := 0) (Γ0 := [false, false]) (Γ' := [false, false]) (ΓL := []) F sc_Letters___init__ fun q cdv A outer s H E hr =>
 (sss_cons (ss_fld cl_Letters na_Letters_most (se_var 0) (se_var 1))
 (sss_one (ss_fld cl_Letters na_Letters_line (se_var 0) (se_box (sf_lst sa_nil)))))
abbrev s__law_cell_at : Stmt := topS 28
abbrev n__law_cell_at : List Str := ["_law_script", "_law_k"]
theorem sc__law_cell_at : FnScope n__law_cell_at ["_law_script", "_law_k"] (defScope s__law_cell_at) := ⟨rfl, rfl, rfl, by decide +kernel, rfl, by decide +kernel, by decide +kernel⟩
theorem c__law_cell_at (F : Dfn K mg "_law_cell_at" s__law_cell_at ["_law_script", "_law_k"]) (z_len : mg "len" = none) : Cal P w K mg base 1 "_law_cell_at" false m__law_cell_at :=
 cal_of (k := 0) (Γ0 := [false, false]) (Γ' := [false, false]) (ΓL := []) F sc__law_cell_at fun q cdv A outer s H E hr =>
 (sss_cons (ss_if (st_cmp (opd_eq hr.units) (sb_se (se_callB calld_len z_len bv_len (sab_cons (sb_se (se_var 0)) sab_nil))) (sb_se se_int))
 (sss_one (ss_ret se_int))
 sss_nil)
 (sss_one (ss_ret (se_ix ixd (sb_se (se_var 0)) (sb_se (se_bin opd_mod (sb_se (se_var 1)) (sb_se (se_callB calld_len z_len bv_len (sab_cons (sb_se (se_var 0)) sab_nil)))))))))
abbrev s__law_mixed : Stmt := topS 29
abbrev n__law_mixed : List Str := ["_law_script", "_law_k", "_law_salt", "_law_cell", "_law_lap", "_law_near"]
theorem sc__law_mixed : FnScope n__law_mixed ["_law_script", "_law_k", "_law_salt"] (defScope s__law_mixed) := ⟨rfl, rfl, rfl, by decide +kernel, rfl, by decide +kernel, by decide +kernel⟩
theorem c__law_mixed (F : Dfn K mg "_law_mixed" s__law_mixed ["_law_script", "_law_k", "_law_salt"]) (C__law_cell_at : Cal P w K mg base 1 "_law_cell_at" false m__law_cell_at) (z_len : mg "len" = none) (z_max : mg "max" = none) : Cal P w K mg base 2 "_law_mixed" false m__law_mixed :=
 cal_of (k := 1) (Γ0 := [false, false, false, false, false, false]) (Γ' := [false, false, false, false, false, false]) (ΓL := []) F sc__law_mixed fun q cdv A outer s H E hr =>
 (sss_cons (ss_set 3 (se_c C__law_cell_at hr (sa_cons (se_var 0) (sa_cons (se_var 1) sa_nil))) sc__law_mixed.nd)
 (sss_cons (ss_set 4 (se_bin opd_div (sb_se (se_var 1)) (sb_se (se_callB (calld_max2 rfl) z_max bv_max (sab_cons (sb_se se_int) (sab_cons (sb_se (se_callB calld_len z_len bv_len (sab_cons (sb_se (se_var 0)) sab_nil))) sab_nil))))) sc__law_mixed.nd)
 (sss_cons (ss_set 5 (se_bin opd_add (sb_se (se_bin opd_add (sb_se (se_bin opd_add (sb_se (se_bin opd_mask (sb_se (se_var 3)) (sb_se se_int))) (sb_se (se_bin opd_mul (sb_se (se_bin opd_mul (sb_se se_int) (sb_se (se_var 1)))) (sb_se (se_var 1)))))) (sb_se (se_bin opd_mul (sb_se (se_bin opd_mul (sb_se se_int) (sb_se (se_var 2)))) (sb_se (se_var 2)))))) (sb_se se_int)) sc__law_mixed.nd)
 (sss_cons (ss_set 5 (se_bin opd_mod (sb_se (se_bin opd_mul (sb_se (se_var 5)) (sb_se se_int))) (sb_se se_int)) sc__law_mixed.nd)
 (sss_cons (ss_set 5 (se_bin opd_mod (sb_se (se_bin opd_mul (sb_se (se_var 5)) (sb_se (se_var 5)))) (sb_se se_int)) sc__law_mixed.nd)
 (sss_one (ss_ret (se_bin opd_mask (sb_se (se_bin opd_add (sb_se (se_bin opd_shr (sb_se (se_var 3)) (sb_se (se_bin opd_mul (sb_se se_int) (sb_se (se_bin opd_add (sb_se (se_var 2)) (sb_se (se_bin opd_mul (sb_se se_int) (sb_se (se_var 4)))))))))) (sb_se (se_var 5)))) (sb_se se_int)))))))))
abbrev s__law_depths : Stmt := topS 34
abbrev n__law_depths : List Str := ["_law_script", "_law_many", "_law_depths_here", "_law_k"]
theorem sc__law_depths : FnScope n__law_depths ["_law_script", "_law_many"] (defScope s__law_depths) := ⟨rfl, rfl, rfl, by decide +kernel, rfl, by decide +kernel, by decide +kernel⟩
theorem c__law_depths (F : Dfn K mg "_law_depths" s__law_depths ["_law_script", "_law_many"]) (C__law_mixed : Cal P w K mg base 2 "_law_mixed" false m__law_mixed) (z_min : mg "min" = none) (z_range : mg "range" = none) : Cal P w K mg base 3 "_law_depths" false m__law_depths :=
 cal_of (k := 2) (Γ0 := [false, false, false, false]) (Γ' := [false, false, false, false]) (ΓL := []) F sc__law_depths fun q cdv A outer s H E hr =>
 (sss_cons (ss_to [false, false, true, false] (ss_setF 2 (sf_lst (sa_cons se_int sa_nil)) sc__law_depths.nd))
 (sss_cons (ss_for PassesOwn.never rfl (si_rg2 z_range (sa_cons se_int (sa_cons (se_var 1) sa_nil))) (sg_name 3 sc__law_depths.nd)
 (sss_one (ss_app 2 (se_bin opd_add (sb_se se_int) (sb_se (se_bin opd_mod (sb_se (se_c C__law_mixed hr (sa_cons (se_var 0) (sa_cons (se_bin opd_add (sb_se se_int) (sb_se (se_var 3))) (sa_cons se_int sa_nil))))) (sb_se (se_bin opd_add (sb_se (se_callB (calld_min2 rfl) z_min bv_min (sab_cons (sb_se (se_ix ixd (sb_own 2) (sb_se (se_bin opd_sub (sb_se (se_var 3)) (sb_se se_int))))) (sab_cons (sb_se se_int) sab_nil)))) (sb_se se_int)))))))))
 (sss_one (ss_pre [false, false, false, false] (ss_ret (se_var 2))))))
abbrev s__law_name : Stmt := topS 30
abbrev n__law_name : List Str := ["_law_k", "_law_number", "_law_rest", "_law_at"]
theorem sc__law_name : FnScope n__law_name ["_law_k", "_law_number"] (defScope s__law_name) := ⟨rfl, rfl, rfl, by decide +kernel, rfl, by decide +kernel, by decide +kernel⟩
theorem c__law_name (F : Dfn K mg "_law_name" s__law_name ["_law_k", "_law_number"]) (z_len : mg "len" = none) : Cal P w K mg base 1 "_law_name" false m__law_name :=
 cal_of (k := 0) (Γ0 := [false, false, false, false]) (Γ' := [false, false, false, false]) (ΓL := []) F sc__law_name fun q cdv A outer s H E hr =>
 (sss_cons (ss_set 2 (se_ix ixd (sb_sf (sf_lst (sa_cons se_str (sa_cons se_str (sa_cons se_str (sa_cons se_str sa_nil)))))) (sb_se (se_bin opd_mod (sb_se (se_var 1)) (sb_se se_int)))) sc__law_name.nd)
 (sss_cons (ss_set 3 (se_bin opd_mod (sb_se (se_bin opd_div (sb_se (se_var 1)) (sb_se se_int))) (sb_se (se_bin opd_add (sb_se (se_callB calld_len z_len bv_len (sab_cons (sb_se (se_var 2)) sab_nil))) (sb_se se_int)))) sc__law_name.nd)
 (sss_one (ss_ret (se_bin opd_add (sb_se (se_bin opd_add (sb_se (se_cut cutd (sb_se (se_var 2)) so_none (so_some (se_var 3)))) (sb_se (se_ix ixd (sb_se se_str) (sb_se (se_bin opd_mod (sb_se (se_var 0)) (sb_se se_int))))))) (sb_se (se_cut cutd (sb_se (se_var 2)) (so_some (se_var 3)) so_none)))))))
abbrev s__law_deed : Stmt := topS 31
abbrev n__law_deed : List Str := ["_law_number", "_law_sizes", "_law_events", "_law_way", "_law_rest", "_law_b"]
theorem sc__law_deed : FnScope n__law_deed ["_law_number", "_law_sizes", "_law_events"] (defScope s__law_deed) := ⟨rfl, rfl, rfl, by decide +kernel, rfl, by decide +kernel, by decide +kernel⟩
theorem c__law_deed (F : Dfn K mg "_law_deed" s__law_deed ["_law_number", "_law_sizes", "_law_events"]) (C__law_name : Cal P w K mg base 1 "_law_name" false m__law_name) (z_len : mg "len" = none) : Cal P w K mg base 2 "_law_deed" false m__law_deed :=
 cal_of (k := 1) (Γ0 := [false, false, false, false, false, false]) (Γ' := [false, false, false, false, false, false]) (ΓL := []) F sc__law_deed fun q cdv A outer s H E hr =>
 (sss_cons (ss_set 3 (se_ix ixd (sb_sf (sf_lst (sa_cons se_int (sa_cons se_int (sa_cons se_int (sa_cons se_int (sa_cons se_int sa_nil))))))) (sb_se (se_bin opd_mod (sb_se (se_var 0)) (sb_se se_int)))) sc__law_deed.nd)
 (sss_cons (ss_set 4 (se_bin opd_div (sb_se (se_var 0)) (sb_se se_int)) sc__law_deed.nd)
 (sss_cons (ss_if (SW.st (sw_and (st_cmp (opd_eq hr.units) (sb_se (se_var 3)) (sb_se se_int)) (sw_and1 (st_cmp opd_gt (sb_se (se_var 2)) (sb_se se_int)))))
 (sss_one (ss_ret (se_tup (sa_cons se_str (sa_cons (se_bin opd_mod (sb_se (se_var 4)) (sb_se (se_var 2))) sa_nil)))))
 sss_nil)
 (sss_cons (ss_if (SW.st (sw_and (st_cmp (opd_eq hr.units) (sb_se (se_var 3)) (sb_se se_int)) (sw_and1 (st_cmp opd_gt (sb_se (se_callB calld_len z_len bv_len (sab_cons (sb_se (se_var 1)) sab_nil))) (sb_se se_int)))))
 (sss_cons (ss_set 5 (se_bin opd_mod (sb_se (se_var 4)) (sb_se (se_callB calld_len z_len bv_len (sab_cons (sb_se (se_var 1)) sab_nil)))) sc__law_deed.nd)
 (sss_one (ss_ret (se_tup (sa_cons se_str (sa_cons (se_var 5) (sa_cons (se_bin opd_mod (sb_se (se_bin opd_div (sb_se (se_var 4)) (sb_se se_int))) (sb_se (se_ix ixd (sb_se (se_var 1)) (sb_se (se_var 5))))) sa_nil)))))))
 sss_nil)
 (sss_cons (ss_if (SW.st (sw_and (st_cmp (opd_eq hr.units) (sb_se (se_var 3)) (sb_se se_int)) (sw_and (st_cmp opd_gt (sb_se (se_callB calld_len z_len bv_len (sab_cons (sb_se (se_var 1)) sab_nil))) (sb_se se_int)) (sw_and1 (st_cmp (opd_eq hr.units) (sb_se (se_bin opd_mod (sb_se (se_bin opd_div (sb_se (se_var 4)) (sb_se se_int))) (sb_se se_int))) (sb_se se_int))))))
 (sss_one (ss_ret (se_tup (sa_cons se_str (sa_cons (se_bin opd_mod (sb_se (se_var 4)) (sb_se (se_callB calld_len z_len bv_len (sab_cons (sb_se (se_var 1)) sab_nil)))) (sa_cons (se_bin opd_mul (sb_se (se_bin opd_add (sb_se (se_bin opd_mul (sb_se (se_var 4)) (sb_se (se_bin opd_pow (sb_se se_int) (sb_se se_int))))) (sb_se (se_var 4)))) (sb_se (se_bin opd_sub (sb_se se_int) (sb_se (se_bin opd_mul (sb_se se_int) (sb_se (se_bin opd_mod (sb_se (se_bin opd_div (sb_se (se_var 4)) (sb_se se_int))) (sb_se se_int)))))))) sa_nil))))))
 sss_nil)
 (sss_cons (ss_if (SW.st (sw_and (st_cmp (opd_eq hr.units) (sb_se (se_var 3)) (sb_se se_int)) (sw_and1 (st_cmp opd_gt (sb_se (se_callB calld_len z_len bv_len (sab_cons (sb_se (se_var 1)) sab_nil))) (sb_se se_int)))))
 (sss_one (ss_ret (se_tup (sa_cons se_str (sa_cons (se_bin opd_mod (sb_se (se_var 4)) (sb_se (se_callB calld_len z_len bv_len (sab_cons (sb_se (se_var 1)) sab_nil)))) (sa_cons (se_bin opd_sub (sb_se (se_bin opd_mod (sb_se (se_bin opd_div (sb_se (se_var 4)) (sb_se se_int))) (sb_se se_int))) (sb_se se_int)) sa_nil))))))
 sss_nil)
 (sss_cons (ss_if (st_cmp (opd_eq hr.units) (sb_se (se_bin opd_mod (sb_se (se_var 4)) (sb_se se_int))) (sb_se se_int))
 (sss_one (ss_ret (se_tup (sa_cons se_str (sa_cons se_str sa_nil)))))
 sss_nil)
 (sss_one (ss_ret (se_tup (sa_cons se_str (sa_cons (se_c C__law_name hr (sa_cons (se_bin opd_mod (sb_se (se_bin opd_div (sb_se (se_var 4)) (sb_se se_int))) (sb_se se_int)) (sa_cons (se_bin opd_div (sb_se (se_var 4)) (sb_se se_int)) sa_nil))) sa_nil))))))))))))
abbrev s__law_deeds : Stmt := topS 32
abbrev n__law_deeds : List Str := ["_law_script", "_law_k", "_law_salt", "_law_sizes", "_law_events", "_law_number", "_law_many", "_law_deeds_here", "_law_j"]
theorem sc__law_deeds : FnScope n__law_deeds ["_law_script", "_law_k", "_law_salt", "_law_sizes", "_law_events"] (defScope s__law_deeds) := ⟨rfl, rfl, rfl, by decide +kernel, rfl, by decide +kernel, by decide +kernel⟩
theorem c__law_deeds (F : Dfn K mg "_law_deeds" s__law_deeds ["_law_script", "_law_k", "_law_salt", "_law_sizes", "_law_events"]) (C__law_deed : Cal P w K mg base 2 "_law_deed" false m__law_deed) (C__law_mixed : Cal P w K mg base 2 "_law_mixed" false m__law_mixed) (z_range : mg "range" = none) (z_tuple : mg "tuple" = none) : Cal P w K mg base 3 "_law_deeds" false m__law_deeds :=
 cal_of (k := 2) (Γ0 := [false, false, false, false, false, false, false, false, false]) (Γ' := [false, false, false, false, false, false, false, false, false]) (ΓL := []) F sc__law_deeds fun q cdv A outer s H E hr =>
 (sss_cons (ss_set 5 (se_c C__law_mixed hr (sa_cons (se_var 0) (sa_cons (se_var 1) (sa_cons (se_var 2) sa_nil)))) sc__law_deeds.nd)
 (sss_cons (ss_set 6 (se_ix ixd (sb_sf (sf_lst (sa_cons se_int (sa_cons se_int (sa_cons se_int (sa_cons se_int (sa_cons se_int (sa_cons se_int (sa_cons se_int (sa_cons se_int sa_nil)))))))))) (sb_se (se_bin opd_mod (sb_se (se_var 5)) (sb_se se_int)))) sc__law_deeds.nd)
 (sss_cons (ss_to [false, false, false, false, false, false, false, true, false] (ss_setF 7 (sf_lst sa_nil) sc__law_deeds.nd))
 (sss_cons (ss_for PassesOwn.never rfl (si_rg1 z_range (sa_cons (se_var 6) sa_nil)) (sg_name 8 sc__law_deeds.nd)
 (sss_one (ss_app 7 (se_c C__law_deed hr (sa_cons (se_c C__law_mixed hr (sa_cons (se_var 0) (sa_cons (se_var 1) (sa_cons (se_bin opd_add (sb_se (se_bin opd_add (sb_se (se_var 2)) (sb_se se_int))) (sb_se (se_var 8))) sa_nil)))) (sa_cons (se_var 3) (sa_cons (se_var 4) sa_nil)))))))
 (sss_one (ss_ret (se_callTy calld_tuple z_tuple bv_tuple (sab_cons (sb_own 7) sab_nil))))))))
abbrev s__law_guard : Stmt := topS 33
abbrev n__law_guard : List Str := ["_law_number", "_law_rooms_here", "_law_boxes", "_law_high", "_law_way", "_law_rest"]
theorem sc__law_guard : FnScope n__law_guard ["_law_number", "_law_rooms_here", "_law_boxes", "_law_high"] (defScope s__law_guard) := ⟨rfl, rfl, rfl, by decide +kernel, rfl, by decide +kernel, by decide +kernel⟩
theorem cr__law_guard (F : Dfn K mg "_law_guard" s__law_guard ["_law_number", "_law_rooms_here", "_law_boxes", "_law_high"]) : ∀ n : Nat, Cal P w K mg base (0 + n) "_law_guard" false (r__law_guard n)
 | 0 => cal_zero F
 | n + 1 => have C_rec := cr__law_guard F n
  cal_of (k := 0 + n) (Γ0 := [false, false, false, false, false, false]) (Γ' := [false, false, false, false, false, false]) (ΓL := []) F sc__law_guard fun q cdv A outer s H E hr =>
 (sss_cons (ss_set 4 (se_bin opd_mod (sb_se (se_var 0)) (sb_se se_int)) sc__law_guard.nd)
 (sss_cons (ss_set 5 (se_bin opd_div (sb_se (se_var 0)) (sb_se se_int)) sc__law_guard.nd)
 (sss_cons (ss_if (SW.st (sw_and (st_cmp opd_gt (sb_se (se_var 3)) (sb_se se_int)) (sw_and1 (st_cmp (opd_eq hr.units) (sb_se (se_var 4)) (sb_se se_int)))))
 (sss_one (ss_ret (se_tup (sa_cons se_str (sa_cons (se_c C_rec hr (sa_cons (se_var 5) (sa_cons (se_var 1) (sa_cons (se_var 2) (sa_cons (se_bin opd_sub (sb_se (se_var 3)) (sb_se se_int)) sa_nil))))) sa_nil)))))
 sss_nil)
 (sss_cons (ss_if (SW.st (sw_and (st_cmp opd_gt (sb_se (se_var 3)) (sb_se se_int)) (sw_and1 (st_cmp (opd_eq hr.units) (sb_se (se_var 4)) (sb_se se_int)))))
 (sss_one (ss_ret (se_tup (sa_cons se_str (sa_cons (se_c C_rec hr (sa_cons (se_var 5) (sa_cons (se_var 1) (sa_cons (se_var 2) (sa_cons (se_bin opd_sub (sb_se (se_var 3)) (sb_se se_int)) sa_nil))))) (sa_cons (se_c C_rec hr (sa_cons (se_bin opd_div (sb_se (se_var 5)) (sb_se se_int)) (sa_cons (se_var 1) (sa_cons (se_var 2) (sa_cons (se_bin opd_sub (sb_se (se_var 3)) (sb_se se_int)) sa_nil))))) sa_nil))))))
 sss_nil)
 (sss_cons (ss_if (SW.st (sw_and (st_cmp opd_gt (sb_se (se_var 3)) (sb_se se_int)) (sw_and1 (st_cmp (opd_eq hr.units) (sb_se (se_var 4)) (sb_se se_int)))))
 (sss_one (ss_ret (se_tup (sa_cons se_str (sa_cons (se_c C_rec hr (sa_cons (se_var 5) (sa_cons (se_var 1) (sa_cons (se_var 2) (sa_cons (se_bin opd_sub (sb_se (se_var 3)) (sb_se se_int)) sa_nil))))) (sa_cons (se_c C_rec hr (sa_cons (se_bin opd_div (sb_se (se_var 5)) (sb_se se_int)) (sa_cons (se_var 1) (sa_cons (se_var 2) (sa_cons (se_bin opd_sub (sb_se (se_var 3)) (sb_se se_int)) sa_nil))))) sa_nil))))))
 sss_nil)
 (sss_cons (ss_if (SW.st (sw_or (st_cmp (opd_eq hr.units) (sb_se (se_var 4)) (sb_se se_int)) (sw_or1 (st_cmp (opd_eq hr.units) (sb_se (se_var 4)) (sb_se se_int)))))
 (sss_one (ss_ret (se_tup (sa_cons se_str (sa_cons (se_bin opd_mod (sb_se (se_var 5)) (sb_se (se_var 1))) sa_nil)))))
 sss_nil)
 (sss_cons (ss_if (SW.st (sw_and (st_cmp (opd_eq hr.units) (sb_se (se_var 4)) (sb_se se_int)) (sw_and1 (st_cmp opd_gt (sb_se (se_var 2)) (sb_se se_int)))))
 (sss_one (ss_ret (se_tup (sa_cons se_str (sa_cons (se_bin opd_mod (sb_se (se_var 5)) (sb_se (se_var 2))) (sa_cons (se_bin opd_mod (sb_se (se_bin opd_div (sb_se (se_var 5)) (sb_se se_int))) (sb_se se_int)) sa_nil))))))
 sss_nil)
 (sss_cons (ss_if (SW.st (sw_and (st_cmp (opd_eq hr.units) (sb_se (se_var 4)) (sb_se se_int)) (sw_and1 (st_cmp opd_gt (sb_se (se_var 2)) (sb_se se_int)))))
 (sss_one (ss_ret (se_tup (sa_cons se_str (sa_cons (se_bin opd_mod (sb_se (se_var 5)) (sb_se (se_var 2))) (sa_cons (se_bin opd_mod (sb_se (se_bin opd_div (sb_se (se_var 5)) (sb_se se_int))) (sb_se se_int)) sa_nil))))))
 sss_nil)
 (sss_one (ss_ret (se_tup (sa_cons se_str sa_nil))))))))))))
theorem c__law_guard (F : Dfn K mg "_law_guard" s__law_guard ["_law_number", "_law_rooms_here", "_law_boxes", "_law_high"]) : Cal P w K mg base 50 "_law_guard" false m__law_guard := cr__law_guard F 50
abbrev s__law_doors : Stmt := topS 36
abbrev n__law_doors : List Str := ["_law_script", "_law_many", "_law_rooms_here", "_law_sizes", "_law_events", "_law_doors_here", "_law_k", "_law_number", "_law_goal", "_law_way", "_law_keepers", "_law_r", "_law_guard_here", "_law_deeds_here"]
theorem sc__law_doors : FnScope n__law_doors ["_law_script", "_law_many", "_law_rooms_here", "_law_sizes", "_law_events"] (defScope s__law_doors) := ⟨rfl, rfl, rfl, by decide +kernel, rfl, by decide +kernel, by decide +kernel⟩
theorem c__law_doors (F : Dfn K mg "_law_doors" s__law_doors ["_law_script", "_law_many", "_law_rooms_here", "_law_sizes", "_law_events"]) (C__law_deeds : Cal P w K mg base 3 "_law_deeds" false m__law_deeds) (C__law_guard : Cal P w K mg base 50 "_law_guard" false m__law_guard) (C__law_mixed : Cal P w K mg base 2 "_law_mixed" false m__law_mixed) (z_int : mg "int" = none) (z_len : mg "len" = none) (z_range : mg "range" = none) (z_tuple : mg "tuple" = none) : Cal P w K mg base 51 "_law_doors" false m__law_doors :=
 cal_of (k := 50) (Γ0 := [false, false, false, false, false, false, false, false, false, false, false, false, false, false]) (Γ' := [false, false, false, false, false, false, false, false, false, false, false, false, false, false]) (ΓL := []) F sc__law_doors fun q cdv A outer s H E hr =>
 (sss_cons (ss_to [false, false, false, false, false, true, false, false, false, false, false, false, false, false] (ss_setF 5 (sf_lst sa_nil) sc__law_doors.nd))
 (sss_cons (ss_for PassesOwn.never rfl (si_rg1 z_range (sa_cons (se_bin opd_mul (sb_se (se_var 1)) (sb_se (se_callTy calld_int1 z_int bv_int (sab_cons (sb_se (se_cmp opd_gt (sb_se (se_var 4)) (sb_se se_int))) sab_nil)))) sa_nil)) (sg_name 6 sc__law_doors.nd)
 (sss_cons (ss_set 7 (se_c C__law_mixed hr (sa_cons (se_var 0) (sa_cons (se_bin opd_add (sb_se se_int) (sb_se (se_var 6))) (sa_cons se_int sa_nil)))) sc__law_doors.nd)
 (sss_cons (ss_set 8 (se_bin opd_mod (sb_se (se_bin opd_div (sb_se (se_var 7)) (sb_se se_int))) (sb_se (se_callB calld_len z_len bv_len (sab_cons (sb_se (se_var 2)) sab_nil)))) sc__law_doors.nd)
 (sss_cons (ss_set 9 (se_ix ixd (sb_sf (sf_lst (sa_cons se_str (sa_cons se_str (sa_cons se_str (sa_cons se_str (sa_cons se_str sa_nil))))))) (sb_se (se_bin opd_mod (sb_se (se_var 7)) (sb_se se_int)))) sc__law_doors.nd)
 (sss_cons (ss_post [false, false, false, false, false, true, false, false, false, false, false, false, false, false] [false, false, false, false, false, true, false, false, false, false, true, false, false, false] (ss_to [false, false, false, false, false, true, false, false, false, false, true, false, false, false] (ss_setLc 10 rfl sc__law_doors.nd rfl rfl (sw_true rfl rfl rfl (by decide +kernel)) (si_rg1 z_range (sa_cons (se_callB calld_len z_len bv_len (sab_cons (sb_se (se_var 2)) sab_nil)) sa_nil)) (blkOk_by (N := n__law_doors) (sc := defScope s__law_doors) (own := [("_law_r", 11)]) (by decide +kernel)) (fun _ _ _ _ _ => (sg_name 11 sc__law_doors.nd)) (tg1_ok 11) (by decide) (fun _ _ _ _ _ => (sts_one (st_cmp (opd_ne hr.units) (sb_se (se_ix ixd (sb_se (se_ix ixd (sb_se (se_var 2)) (sb_se (se_var 11)))) (sb_se se_int))) (sb_se se_str)))) (fun _ _ _ _ _ => (se_var 11)) (by decide))))
 (sss_cons (ss_if (SW.st (sw_and (st_cmp (opd_eq hr.units) (sb_se (se_var 9)) (sb_se se_str)) (sw_and1 (st_cmp (opd_eq hr.units) (sb_se (se_callB calld_len z_len bv_len (sab_cons (sb_se (se_var 10)) sab_nil))) (sb_se se_int)))))
 (sss_one (ss_set 9 se_str sc__law_doors.nd))
 sss_nil)
 (sss_cons (ss_if (st_cmp (opd_eq hr.units) (sb_se (se_var 9)) (sb_se se_str))
 (sss_one (ss_set 8 (se_ix ixd (sb_se (se_var 10)) (sb_se (se_bin opd_mod (sb_se (se_var 8)) (sb_se (se_callB calld_len z_len bv_len (sab_cons (sb_se (se_var 10)) sab_nil)))))) sc__law_doors.nd))
 sss_nil)
 (sss_cons (ss_if (st_cmp (opd_eq hr.units) (sb_se (se_var 9)) (sb_se se_str))
 (sss_one (ss_set 8 se_non sc__law_doors.nd))
 sss_nil)
 (sss_cons (ss_set 12 (se_tup (sa_cons se_str sa_nil)) sc__law_doors.nd)
 (sss_cons (ss_if (st_cmp (opd_eq hr.units) (sb_se (se_bin opd_mod (sb_se (se_bin opd_div (sb_se (se_var 7)) (sb_se se_int))) (sb_se se_int))) (sb_se se_int))
 (sss_one (ss_set 12 (se_c C__law_guard hr (sa_cons (se_c C__law_mixed hr (sa_cons (se_var 0) (sa_cons (se_bin opd_add (sb_se se_int) (sb_se (se_var 6))) (sa_cons se_int sa_nil)))) (sa_cons (se_callB calld_len z_len bv_len (sab_cons (sb_se (se_var 2)) sab_nil)) (sa_cons (se_callB calld_len z_len bv_len (sab_cons (sb_se (se_var 3)) sab_nil)) (sa_cons se_int sa_nil))))) sc__law_doors.nd))
 sss_nil)
 (sss_cons (ss_set 13 (se_c C__law_deeds hr (sa_cons (se_var 0) (sa_cons (se_bin opd_add (sb_se se_int) (sb_se (se_var 6))) (sa_cons se_int (sa_cons (se_var 3) (sa_cons (se_var 4) sa_nil)))))) sc__law_doors.nd)
 (sss_one (ss_app 5 (se_tup (sa_cons (se_bin opd_mod (sb_se (se_c C__law_mixed hr (sa_cons (se_var 0) (sa_cons (se_bin opd_add (sb_se se_int) (sb_se (se_var 6))) (sa_cons se_int sa_nil))))) (sb_se (se_callB calld_len z_len bv_len (sab_cons (sb_se (se_var 2)) sab_nil)))) (sa_cons (se_bin opd_mod (sb_se (se_bin opd_mod (sb_se (se_bin opd_div (sb_se (se_var 7)) (sb_se se_int))) (sb_se se_int))) (sb_se (se_var 4))) (sa_cons (se_var 12) (sa_cons (se_var 13) (sa_cons (se_var 9) (sa_cons (se_var 8) sa_nil))))))))))))))))))))
 (sss_one (ss_ret (se_callTy calld_tuple z_tuple bv_tuple (sab_cons (sb_own 5) sab_nil))))))
abbrev s__law_rooms : Stmt := topS 35
abbrev n__law_rooms : List Str := ["_law_script", "_law_depths_here", "_law_sizes", "_law_events", "_law_rooms_here", "_law_k", "_law_number", "_law_kind", "_law_keeps", "_law_lamp", "_law_ins", "_law_outs"]
theorem sc__law_rooms : FnScope n__law_rooms ["_law_script", "_law_depths_here", "_law_sizes", "_law_events"] (defScope s__law_rooms) := ⟨rfl, rfl, rfl, by decide +kernel, rfl, by decide +kernel, by decide +kernel⟩
theorem c__law_rooms (F : Dfn K mg "_law_rooms" s__law_rooms ["_law_script", "_law_depths_here", "_law_sizes", "_law_events"]) (C__law_cell_at : Cal P w K mg base 1 "_law_cell_at" false m__law_cell_at) (C__law_deeds : Cal P w K mg base 3 "_law_deeds" false m__law_deeds) (C__law_mixed : Cal P w K mg base 2 "_law_mixed" false m__law_mixed) (C__law_name : Cal P w K mg base 1 "_law_name" false m__law_name) (z_len : mg "len" = none) (z_range : mg "range" = none) (z_tuple : mg "tuple" = none) : Cal P w K mg base 4 "_law_rooms" false m__law_rooms :=
 cal_of (k := 3) (Γ0 := [false, false, false, false, false, false, false, false, false, false, false, false]) (Γ' := [false, false, false, false, false, false, false, false, false, false, false, false]) (ΓL := []) F sc__law_rooms fun q cdv A outer s H E hr =>
 (sss_cons (ss_to [false, false, false, false, true, false, false, false, false, false, false, false] (ss_setF 4 (sf_lst sa_nil) sc__law_rooms.nd))
 (sss_cons (ss_for PassesOwn.never rfl (si_rg1 z_range (sa_cons (se_callB calld_len z_len bv_len (sab_cons (sb_se (se_var 1)) sab_nil)) sa_nil)) (sg_name 5 sc__law_rooms.nd)
 (sss_cons (ss_set 6 (se_c C__law_mixed hr (sa_cons (se_var 0) (sa_cons (se_bin opd_add (sb_se se_int) (sb_se (se_var 5))) (sa_cons se_int sa_nil)))) sc__law_rooms.nd)
 (sss_cons (ss_set 7 se_str sc__law_rooms.nd)
 (sss_cons (ss_set 8 se_str sc__law_rooms.nd)
 (sss_cons (ss_if (SW.st (sw_and (st_cmp opd_lt (sb_se (se_bin opd_add (sb_se (se_var 5)) (sb_se se_int))) (sb_se (se_callB calld_len z_len bv_len (sab_cons (sb_se (se_var 1)) sab_nil)))) (sw_and1 (st_cmp opd_gt (sb_se (se_ix ixd (sb_se (se_var 1)) (sb_se (se_bin opd_add (sb_se (se_var 5)) (sb_se se_int))))) (sb_se (se_ix ixd (sb_se (se_var 1)) (sb_se (se_var 5))))))))
 (sss_cons (ss_set 7 (se_ix ixd (sb_sf (sf_lst (sa_cons se_str (sa_cons se_str (sa_cons se_str sa_nil))))) (sb_se (se_bin opd_mod (sb_se (se_var 6)) (sb_se se_int)))) sc__law_rooms.nd)
 (sss_one (ss_set 8 (se_ix ixd (sb_sf (sf_lst (sa_cons se_str (sa_cons se_str (sa_cons se_str sa_nil))))) (sb_se (se_bin opd_mod (sb_se (se_bin opd_div (sb_se (se_var 6)) (sb_se se_int))) (sb_se se_int)))) sc__law_rooms.nd)))
 sss_nil)
 (sss_cons (ss_if (SW.st (sw_and (st_cmp (opd_eq hr.units) (sb_se (se_var 7)) (sb_se se_str)) (sw_and1 (st_cmp (opd_eq hr.units) (sb_se (se_var 8)) (sb_se se_str)))))
 (sss_one (ss_set 8 se_str sc__law_rooms.nd))
 sss_nil)
 (sss_cons (ss_set 9 se_str sc__law_rooms.nd)
 (sss_cons (ss_if (st_cmp (opd_eq hr.units) (sb_se (se_bin opd_mod (sb_se (se_bin opd_div (sb_se (se_var 6)) (sb_se se_int))) (sb_se se_int))) (sb_se se_int))
 (sss_one (ss_set 9 (se_c C__law_name hr (sa_cons (se_bin opd_mod (sb_se (se_bin opd_div (sb_se (se_var 6)) (sb_se se_int))) (sb_se se_int)) (sa_cons (se_bin opd_div (sb_se (se_var 6)) (sb_se se_int)) sa_nil))) sc__law_rooms.nd))
 sss_nil)
 (sss_cons (ss_set 10 (se_c C__law_deeds hr (sa_cons (se_var 0) (sa_cons (se_bin opd_add (sb_se se_int) (sb_se (se_var 5))) (sa_cons se_int (sa_cons (se_var 2) (sa_cons (se_var 3) sa_nil)))))) sc__law_rooms.nd)
 (sss_cons (ss_set 11 (se_c C__law_deeds hr (sa_cons (se_var 0) (sa_cons (se_bin opd_add (sb_se se_int) (sb_se (se_var 5))) (sa_cons se_int (sa_cons (se_var 2) (sa_cons (se_var 3) sa_nil)))))) sc__law_rooms.nd)
 (sss_one (ss_app 4 (se_tup (sa_cons (se_c C__law_name hr (sa_cons (se_var 5) (sa_cons (se_bin opd_mod (sb_se (se_c C__law_cell_at hr (sa_cons (se_var 0) (sa_cons se_int sa_nil)))) (sb_se se_int)) sa_nil))) (sa_cons (se_var 7) (sa_cons (se_ix ixd (sb_se (se_var 1)) (sb_se (se_var 5))) (sa_cons (se_var 8) (sa_cons (se_var 9) (sa_cons (se_var 10) (sa_cons (se_var 11) sa_nil))))))))))))))))))))
 (sss_one (ss_ret (se_callTy calld_tuple z_tuple bv_tuple (sab_cons (sb_own 4) sab_nil))))))
abbrev s__law_chart : Stmt := topS 37
abbrev n__law_chart : List Str := ["_law_script", "_law_many", "_law_events", "_law_boxes", "_law_k", "_law_size", "_law_sizes", "_law_box", "_law_names", "_law_rooms_here", "_law_count", "_law_doors_here", "_law_order", "_law_letters", "_law_turns"]
theorem sc__law_chart : FnScope n__law_chart ["_law_script"] (defScope s__law_chart) := ⟨rfl, rfl, rfl, by decide +kernel, rfl, by decide +kernel, by decide +kernel⟩
theorem c__law_chart (F : Dfn K mg "_law_chart" s__law_chart ["_law_script"]) (C__law_cell_at : Cal P w K mg base 1 "_law_cell_at" false m__law_cell_at) (C__law_depths : Cal P w K mg base 3 "_law_depths" false m__law_depths) (C__law_doors : Cal P w K mg base 51 "_law_doors" false m__law_doors) (C__law_mixed : Cal P w K mg base 2 "_law_mixed" false m__law_mixed) (C__law_name : Cal P w K mg base 1 "_law_name" false m__law_name) (C__law_rooms : Cal P w K mg base 4 "_law_rooms" false m__law_rooms) (z_range : mg "range" = none) (z_tuple : mg "tuple" = none) : Cal P w K mg base 52 "_law_chart" false m__law_chart :=
 cal_of (k := 51) (Γ0 := [false, false, false, false, false, false, false, false, false, false, false, false, false, false, false]) (Γ' := [false, false, false, false, false, false, false, false, false, false, false, false, false, false, false]) (ΓL := []) F sc__law_chart fun q cdv A outer s H E hr =>
 (sss_cons (ss_set 1 (se_bin opd_add (sb_se se_int) (sb_se (se_bin opd_div (sb_se (se_bin opd_add (sb_se (se_bin opd_mul (sb_se (se_bin opd_mod (sb_se (se_c C__law_mixed hr (sa_cons (se_var 0) (sa_cons se_int (sa_cons se_int sa_nil))))) (sb_se se_int))) (sb_se se_int))) (sb_se se_int))) (sb_se se_int)))) sc__law_chart.nd)
 (sss_cons (ss_if (st_cmp (opd_eq hr.units) (sb_se (se_bin opd_mod (sb_se (se_c C__law_mixed hr (sa_cons (se_var 0) (sa_cons se_int (sa_cons se_int sa_nil))))) (sb_se se_int))) (sb_se se_int))
 (sss_one (ss_set 1 (se_bin opd_add (sb_se se_int) (sb_se (se_bin opd_mod (sb_se (se_c C__law_mixed hr (sa_cons (se_var 0) (sa_cons se_int (sa_cons se_int sa_nil))))) (sb_se se_int)))) sc__law_chart.nd))
 sss_nil)
 (sss_cons (ss_set 2 (se_ix ixd (sb_sf (sf_lst (sa_cons se_int (sa_cons se_int (sa_cons se_int (sa_cons se_int (sa_cons se_int (sa_cons se_int (sa_cons se_int (sa_cons se_int sa_nil)))))))))) (sb_se (se_bin opd_mod (sb_se (se_c C__law_mixed hr (sa_cons (se_var 0) (sa_cons se_int (sa_cons se_int sa_nil))))) (sb_se se_int)))) sc__law_chart.nd)
 (sss_cons (ss_to [false, false, false, true, false, false, false, false, false, false, false, false, false, false, false] (ss_setF 3 (sf_lst sa_nil) sc__law_chart.nd))
 (sss_cons (ss_for PassesOwn.never rfl (si_rg1 z_range (sa_cons (se_bin opd_mod (sb_se (se_c C__law_mixed hr (sa_cons (se_var 0) (sa_cons se_int (sa_cons se_int sa_nil))))) (sb_se se_int)) sa_nil)) (sg_name 4 sc__law_chart.nd)
 (sss_cons (ss_set 5 (se_bin opd_add (sb_se se_int) (sb_se (se_bin opd_mod (sb_se (se_c C__law_mixed hr (sa_cons (se_var 0) (sa_cons se_int (sa_cons (se_bin opd_add (sb_se se_int) (sb_se (se_var 4))) sa_nil))))) (sb_se se_int)))) sc__law_chart.nd)
 (sss_cons (ss_if (st_cmp (opd_eq hr.units) (sb_se (se_bin opd_mod (sb_se (se_c C__law_mixed hr (sa_cons (se_var 0) (sa_cons se_int (sa_cons (se_bin opd_add (sb_se se_int) (sb_se (se_var 4))) sa_nil))))) (sb_se se_int))) (sb_se se_int))
 (sss_one (ss_set 5 (se_bin opd_add (sb_se se_int) (sb_se (se_bin opd_mod (sb_se (se_c C__law_cell_at hr (sa_cons (se_var 0) (sa_cons se_int sa_nil)))) (sb_se (se_bin opd_pow (sb_se se_int) (sb_se se_int)))))) sc__law_chart.nd))
 sss_nil)
 (sss_one (ss_app 3 (se_tup (sa_cons (se_c C__law_name hr (sa_cons (se_var 4) (sa_cons (se_bin opd_mod (sb_se (se_c C__law_cell_at hr (sa_cons (se_var 0) (sa_cons se_int sa_nil)))) (sb_se se_int)) sa_nil))) (sa_cons (se_var 5) (sa_cons (se_bin opd_mod (sb_se (se_c C__law_mixed hr (sa_cons (se_var 0) (sa_cons se_int (sa_cons (se_bin opd_add (sb_se se_int) (sb_se (se_var 4))) sa_nil))))) (sb_se (se_var 5))) sa_nil)))))))))
 (sss_cons (ss_post [false, false, false, true, false, false, false, false, false, false, false, false, false, false, false] [false, false, false, true, false, false, true, false, false, false, false, false, false, false, false] (ss_to [false, false, false, true, false, false, true, false, false, false, false, false, false, false, false] (ss_setLc 6 rfl sc__law_chart.nd rfl rfl (sw_true rfl rfl rfl (by decide +kernel)) (si_seqB (sb_own 3)) (blkOk_by (N := n__law_chart) (sc := defScope s__law_chart) (own := [("_law_box", 7)]) (by decide +kernel)) (fun _ _ _ _ _ => (sg_name 7 sc__law_chart.nd)) (tg1_ok 7) (by decide) (fun _ _ _ _ _ => sts_nil) (fun _ _ _ _ _ => (se_ix ixd (sb_se (se_var 7)) (sb_se se_int))) (by decide))))
 (sss_cons (ss_set 8 (se_callTy calld_tuple z_tuple bv_tuple (sab_cons (sb_sf (sf_comp rfl sc__law_chart.nd (si_rg1 z_range (sa_cons (se_var 2) sa_nil)) (blkOk_by (N := n__law_chart) (sc := defScope s__law_chart) (own := [("_law_k", 4)]) (by decide +kernel)) (fun _ _ _ _ _ => (sg_name 4 sc__law_chart.nd)) (tg1_ok 4) (by decide) (fun _ _ _ _ _ => sts_nil) (fun _ _ _ _ _ => (se_c C__law_name hr (sa_cons (se_var 4) (sa_cons (se_bin opd_mod (sb_se (se_c C__law_cell_at hr (sa_cons (se_var 0) (sa_cons se_int sa_nil)))) (sb_se se_int)) sa_nil)))) (by decide))) sab_nil)) sc__law_chart.nd)
 (sss_cons (ss_set 9 (se_c C__law_rooms hr (sa_cons (se_var 0) (sa_cons (se_c C__law_depths hr (sa_cons (se_var 0) (sa_cons (se_var 1) sa_nil))) (sa_cons (se_var 6) (sa_cons (se_var 2) sa_nil))))) sc__law_chart.nd)
 (sss_cons (ss_set 10 (se_ix ixd (sb_sf (sf_lst (sa_cons se_int (sa_cons se_int (sa_cons se_int (sa_cons se_int (sa_cons se_int (sa_cons se_int (sa_cons se_int (sa_cons se_int (sa_cons se_int (sa_cons se_int (sa_cons se_int (sa_cons se_int sa_nil)))))))))))))) (sb_se (se_bin opd_mod (sb_se (se_c C__law_mixed hr (sa_cons (se_var 0) (sa_cons se_int (sa_cons se_int sa_nil))))) (sb_se se_int)))) sc__law_chart.nd)
 (sss_cons (ss_set 11 (se_c C__law_doors hr (sa_cons (se_var 0) (sa_cons (se_var 10) (sa_cons (se_var 9) (sa_cons (se_var 6) (sa_cons (se_var 2) sa_nil)))))) sc__law_chart.nd)
 (sss_cons (ss_set 12 (se_ix ixd (sb_sf (sf_lst (sa_cons se_str (sa_cons se_str sa_nil)))) (sb_se (se_bin opd_mod (sb_se (se_c C__law_mixed hr (sa_cons (se_var 0) (sa_cons se_int (sa_cons se_int sa_nil))))) (sb_se se_int)))) sc__law_chart.nd)
 (sss_cons (ss_set 13 (se_ix ixd (sb_sf (sf_lst (sa_cons se_int (sa_cons se_int (sa_cons se_int (sa_cons se_int (sa_cons se_int (sa_cons se_int (sa_cons se_int (sa_cons se_int sa_nil)))))))))) (sb_se (se_bin opd_mod (sb_se (se_c C__law_mixed hr (sa_cons (se_var 0) (sa_cons se_int (sa_cons se_int sa_nil))))) (sb_se se_int)))) sc__law_chart.nd)
 (sss_cons (ss_set 14 (se_ix ixd (sb_sf (sf_lst (sa_cons se_int (sa_cons se_int (sa_cons se_int (sa_cons se_int (sa_cons se_int (sa_cons se_int (sa_cons se_int (sa_cons se_int sa_nil)))))))))) (sb_se (se_bin opd_mod (sb_se (se_c C__law_mixed hr (sa_cons (se_var 0) (sa_cons se_int (sa_cons se_int sa_nil))))) (sb_se se_int)))) sc__law_chart.nd)
 (sss_one (ss_ret (se_tup (sa_cons (se_var 12) (sa_cons (se_var 13) (sa_cons (se_var 14) (sa_cons (se_callTy calld_tuple z_tuple bv_tuple (sab_cons (sb_own 3) sab_nil)) (sa_cons (se_var 8) (sa_cons (se_var 9) (sa_cons (se_var 11) sa_nil)))))))))))))))))))))))
abbrev s__law_is_full : Stmt := topS 44
abbrev n__law_is_full : List Str := ["_law_rooms_here", "_law_parents_here", "_law_opening", "_law_room", "_law_beneath", "_law_k", "_law_many"]
theorem sc__law_is_full : FnScope n__law_is_full ["_law_rooms_here", "_law_parents_here", "_law_opening"] (defScope s__law_is_full) := ⟨rfl, rfl, rfl, by decide +kernel, rfl, by decide +kernel, by decide +kernel⟩
theorem c__law_is_full (F : Dfn K mg "_law_is_full" s__law_is_full ["_law_rooms_here", "_law_parents_here", "_law_opening"]) (z_len : mg "len" = none) (z_range : mg "range" = none) : Cal P w K mg base 1 "_law_is_full" false m__law_is_full :=
 cal_of (k := 0) (Γ0 := [false, false, false, false, false, false, false]) (Γ' := [false, false, false, false, false, false, false]) (ΓL := []) F sc__law_is_full fun q cdv A outer s H E hr =>
 (sss_cons (ss_for PassesOwn.never rfl (si_seq (se_var 2)) (sg_name 3 sc__law_is_full.nd)
 (sss_cons (ss_post [false, false, false, false, false, false, false] [false, false, false, false, true, false, false] (ss_to [false, false, false, false, true, false, false] (ss_setLc 4 rfl sc__law_is_full.nd rfl rfl (sw_true rfl rfl rfl (by decide +kernel)) (si_rg1 z_range (sa_cons (se_callB calld_len z_len bv_len (sab_cons (sb_se (se_var 0)) sab_nil)) sa_nil)) (blkOk_by (N := n__law_is_full) (sc := defScope s__law_is_full) (own := [("_law_k", 5)]) (by decide +kernel)) (fun _ _ _ _ _ => (sg_name 5 sc__law_is_full.nd)) (tg1_ok 5) (by decide) (fun _ _ _ _ _ => (sts_one (st_cmp (opd_eq hr.units) (sb_se (se_ix ixd (sb_se (se_var 1)) (sb_se (se_var 5)))) (sb_se (se_var 3))))) (fun _ _ _ _ _ => (se_var 5)) (by decide))))
 (sss_cons (ss_set 6 (se_callB calld_len z_len bv_len (sab_cons (sb_sf (sf_comp rfl sc__law_is_full.nd (si_seq (se_var 4)) (blkOk_by (N := n__law_is_full) (sc := defScope s__law_is_full) (own := [("_law_k", 5)]) (by decide +kernel)) (fun _ _ _ _ _ => (sg_name 5 sc__law_is_full.nd)) (tg1_ok 5) (by decide) (fun _ _ _ _ _ => (sts_one (st_cmp (opd_in (room65 hr)) (sb_se (se_var 5)) (sb_se (se_var 2))))) (fun _ _ _ _ _ => (se_var 5)) (by decide))) sab_nil)) sc__law_is_full.nd)
 (sss_cons (ss_if (SW.st (sw_and (st_cmp (opd_eq hr.units) (sb_se (se_ix ixd (sb_se (se_ix ixd (sb_se (se_var 0)) (sb_se (se_var 3)))) (sb_se se_int))) (sb_se se_str)) (sw_and1 (st_cmp (opd_ne hr.units) (sb_se (se_var 6)) (sb_se se_int)))))
 (sss_one (ss_ret se_bl))
 sss_nil)
 (sss_cons (ss_if (SW.st (sw_and (st_cmp (opd_eq hr.units) (sb_se (se_ix ixd (sb_se (se_ix ixd (sb_se (se_var 0)) (sb_se (se_var 3)))) (sb_se se_int))) (sb_se se_str)) (sw_and1 (st_cmp (opd_ne hr.units) (sb_se (se_var 6)) (sb_se (se_callB calld_len z_len bv_len (sab_cons (sb_se (se_var 4)) sab_nil)))))))
 (sss_one (ss_ret se_bl))
 sss_nil)
 (sss_one (ss_if (SW.st (sw_and (st_cmp opd_gt (sb_se (se_var 3)) (sb_se se_int)) (sw_and1 (st_cmp (opd_notIn (room65 hr)) (sb_se (se_ix ixd (sb_se (se_var 1)) (sb_se (se_var 3)))) (sb_se (se_var 2))))))
 (sss_one (ss_ret se_bl))
 sss_nil)))))))
 (sss_one (ss_ret (se_cmp (opd_in (room65 hr)) (sb_se se_int) (sb_se (se_var 2))))))
abbrev s__law_parents : Stmt := topS 43
abbrev n__law_parents : List Str := ["_law_rooms_here", "_law_found", "_law_k", "_law_j"]
theorem sc__law_parents : FnScope n__law_parents ["_law_rooms_here"] (defScope s__law_parents) := ⟨rfl, rfl, rfl, by decide +kernel, rfl, by decide +kernel, by decide +kernel⟩
theorem c__law_parents (F : Dfn K mg "_law_parents" s__law_parents ["_law_rooms_here"]) (z_len : mg "len" = none) (z_max : mg "max" = none) (z_range : mg "range" = none) : Cal P w K mg base 1 "_law_parents" false m__law_parents :=
 cal_of (k := 0) (Γ0 := [false, false, false, false]) (Γ' := [false, false, false, false]) (ΓL := []) F sc__law_parents fun q cdv A outer s H E hr =>
 (sss_cons (ss_to [false, true, false, false] (ss_setF 1 (sf_lst (sa_cons se_non sa_nil)) sc__law_parents.nd))
 (sss_cons (ss_for PassesOwn.never rfl (si_rg2 z_range (sa_cons se_int (sa_cons (se_callB calld_len z_len bv_len (sab_cons (sb_se (se_var 0)) sab_nil)) sa_nil))) (sg_name 2 sc__law_parents.nd)
 (sss_one (ss_app 1 (se_callB (calld_max1 rfl) z_max bv_max (sab_cons (sb_sf (sf_comp rfl sc__law_parents.nd (si_rg1 z_range (sa_cons (se_var 2) sa_nil)) (blkOk_by (N := n__law_parents) (sc := defScope s__law_parents) (own := [("_law_j", 3)]) (by decide +kernel)) (fun _ _ _ _ _ => (sg_name 3 sc__law_parents.nd)) (tg1_ok 3) (by decide) (fun _ _ _ _ _ => (sts_one (st_cmp opd_lt (sb_se (se_ix ixd (sb_se (se_ix ixd (sb_se (se_var 0)) (sb_se (se_var 3)))) (sb_se se_int))) (sb_se (se_ix ixd (sb_se (se_ix ixd (sb_se (se_var 0)) (sb_se (se_var 2)))) (sb_se se_int)))))) (fun _ _ _ _ _ => (se_var 3)) (by decide))) sab_nil)))))
 (sss_one (ss_pre [false, false, false, false] (ss_ret (se_var 1))))))
abbrev s__law_opened : Stmt := topS 38
abbrev n__law_opened : List Str := ["_law_rooms_here", "_law_room", "_law_script", "_law_at", "_law_opened_here", "_law_inside", "_law_k", "_law_kid"]
theorem sc__law_opened : FnScope n__law_opened ["_law_rooms_here", "_law_room", "_law_script", "_law_at"] (defScope s__law_opened) := ⟨rfl, rfl, rfl, by decide +kernel, rfl, by decide +kernel, by decide +kernel⟩
theorem cr__law_opened (F : Dfn K mg "_law_opened" s__law_opened ["_law_rooms_here", "_law_room", "_law_script", "_law_at"]) (C__law_mixed : Cal P w K mg base 2 "_law_mixed" false m__law_mixed) (z_len : mg "len" = none) : ∀ n : Nat, Cal P w K mg base (2 + n) "_law_opened" false (r__law_opened n)
 | 0 => cal_zero F
 | n + 1 => have C_rec := cr__law_opened F C__law_mixed z_len n
  cal_of (k := 2 + n) (Γ0 := [false, false, false, false, false, false, false, false]) (Γ' := [false, false, false, false, false, false, false, false]) (ΓL := []) F sc__law_opened fun q cdv A outer s H E hr =>
 (sss_cons (ss_set 4 (se_sf (sf_lst (sa_cons (se_var 1) sa_nil))) sc__law_opened.nd)
 (sss_cons (ss_if (st_cmp (opd_eq hr.units) (sb_se (se_ix ixd (sb_se (se_ix ixd (sb_se (se_var 0)) (sb_se (se_var 1)))) (sb_se se_int))) (sb_se se_str))
 (sss_one (ss_ret (se_var 4)))
 sss_nil)
 (sss_cons (ss_to [false, false, false, false, false, true, false, false] (ss_setF 5 (sf_lst sa_nil) sc__law_opened.nd))
 (sss_cons (ss_set 6 (se_bin opd_add (sb_se (se_var 1)) (sb_se se_int)) sc__law_opened.nd)
 (sss_cons (ss_while bigN PassesOwn.never (SW.st (sw_and (st_cmp opd_lt (sb_se (se_var 6)) (sb_se (se_callB calld_len z_len bv_len (sab_cons (sb_se (se_var 0)) sab_nil)))) (sw_and1 (st_cmp opd_gt (sb_se (se_ix ixd (sb_se (se_ix ixd (sb_se (se_var 0)) (sb_se (se_var 6)))) (sb_se se_int))) (sb_se (se_ix ixd (sb_se (se_ix ixd (sb_se (se_var 0)) (sb_se (se_var 1)))) (sb_se se_int)))))))
 (sss_cons (ss_if (st_cmp (opd_eq hr.units) (sb_se (se_ix ixd (sb_se (se_ix ixd (sb_se (se_var 0)) (sb_se (se_var 6)))) (sb_se se_int))) (sb_se (se_bin opd_add (sb_se (se_ix ixd (sb_se (se_ix ixd (sb_se (se_var 0)) (sb_se (se_var 1)))) (sb_se se_int))) (sb_se se_int))))
 (sss_one (ss_app 5 (se_var 6)))
 sss_nil)
 (sss_one (ss_set 6 (se_bin opd_add (sb_se (se_var 6)) (sb_se se_int)) sc__law_opened.nd))))
 (sss_cons (ss_if (st_cmp (opd_eq hr.units) (sb_se (se_ix ixd (sb_se (se_ix ixd (sb_se (se_var 0)) (sb_se (se_var 1)))) (sb_se se_int))) (sb_se se_str))
 (sss_one (ss_to [false, false, false, false, false, true, false, false] (ss_setF 5 (sf_lst (sa_cons (se_ix ixd (sb_own 5) (sb_se (se_bin opd_mod (sb_se (se_c C__law_mixed hr (sa_cons (se_var 2) (sa_cons (se_bin opd_add (sb_se (se_var 3)) (sb_se (se_var 1))) (sa_cons se_int sa_nil))))) (sb_se (se_callB calld_len z_len bv_len (sab_cons (sb_own 5) sab_nil)))))) sa_nil)) sc__law_opened.nd)))
 sss_nil)
 (sss_cons (ss_pre [false, false, false, false, false, false, false, false] (ss_for PassesOwn.never rfl (si_seq (se_var 5)) (sg_name 7 sc__law_opened.nd)
 (sss_one (ss_set 4 (se_bin opd_add (sb_se (se_var 4)) (sb_se (se_c C_rec hr (sa_cons (se_var 0) (sa_cons (se_var 7) (sa_cons (se_var 2) (sa_cons (se_var 3) sa_nil))))))) sc__law_opened.nd))))
 (sss_one (ss_ret (se_var 4))))))))))
theorem c__law_opened (F : Dfn K mg "_law_opened" s__law_opened ["_law_rooms_here", "_law_room", "_law_script", "_law_at"]) (C__law_mixed : Cal P w K mg base 2 "_law_mixed" false m__law_mixed) (z_len : mg "len" = none) : Cal P w K mg base 52 "_law_opened" false m__law_opened := cr__law_opened F C__law_mixed z_len 50
abbrev s__law_stand : Stmt := topS 39
abbrev n__law_stand : List Str := ["_law_chart_here", "_law_script", "_law_at", "_law_rooms_here", "_law_kept", "_law_k", "_law_row", "_law_r", "_law_held"]
theorem sc__law_stand : FnScope n__law_stand ["_law_chart_here", "_law_script", "_law_at"] (defScope s__law_stand) := ⟨rfl, rfl, rfl, by decide +kernel, rfl, by decide +kernel, by decide +kernel⟩
theorem c__law_stand (F : Dfn K mg "_law_stand" s__law_stand ["_law_chart_here", "_law_script", "_law_at"]) (C__law_mixed : Cal P w K mg base 2 "_law_mixed" false m__law_mixed) (C__law_opened : Cal P w K mg base 52 "_law_opened" false m__law_opened) (z_len : mg "len" = none) (z_range : mg "range" = none) (z_tuple : mg "tuple" = none) : Cal P w K mg base 53 "_law_stand" false m__law_stand :=
 cal_of (k := 52) (Γ0 := [false, false, false, false, false, false, false, false, false]) (Γ' := [false, false, false, false, false, false, false, false, false]) (ΓL := []) F sc__law_stand fun q cdv A outer s H E hr =>
 (sss_cons (ss_set 3 (se_ix ixd (sb_se (se_var 0)) (sb_se se_int)) sc__law_stand.nd)
 (sss_cons (ss_to [false, false, false, false, true, false, false, false, false] (ss_setF 4 (sf_lst sa_nil) sc__law_stand.nd))
 (sss_cons (ss_for PassesOwn.never rfl (si_rg1 z_range (sa_cons (se_callB calld_len z_len bv_len (sab_cons (sb_se (se_var 3)) sab_nil)) sa_nil)) (sg_name 5 sc__law_stand.nd)
 (sss_cons (ss_set 6 (se_cut cutd (sb_se (se_c C__law_opened hr (sa_cons (se_var 3) (sa_cons (se_var 5) (sa_cons (se_var 1) (sa_cons (se_bin opd_add (sb_se (se_var 2)) (sb_se (se_bin opd_mul (sb_se se_int) (sb_se (se_var 5))))) sa_nil)))))) (so_some se_int) so_none) sc__law_stand.nd)
 (sss_cons (ss_if (SW.st (sw_or (st_cmp (opd_eq hr.units) (sb_se (se_ix ixd (sb_se (se_ix ixd (sb_se (se_var 3)) (sb_se (se_var 5)))) (sb_se se_int))) (sb_se se_str)) (sw_or1 (st_cmp (opd_eq hr.units) (sb_se (se_bin opd_mod (sb_se (se_c C__law_mixed hr (sa_cons (se_var 1) (sa_cons (se_bin opd_add (sb_se (se_var 2)) (sb_se (se_var 5))) (sa_cons se_int sa_nil))))) (sb_se se_int))) (sb_se se_int)))))
 (sss_one (ss_set 6 (se_sf (sf_lst sa_nil)) sc__law_stand.nd))
 sss_nil)
 (sss_cons (ss_if (st_cmp (opd_eq hr.units) (sb_se (se_ix ixd (sb_se (se_ix ixd (sb_se (se_var 3)) (sb_se (se_var 5)))) (sb_se se_int))) (sb_se se_str))
 (sss_one (ss_set 6 (se_cut cutd (sb_se (se_var 6)) so_none (so_some se_int)) sc__law_stand.nd))
 sss_nil)
 (sss_cons (ss_if (st_cmp (opd_eq hr.units) (sb_se (se_ix ixd (sb_se (se_ix ixd (sb_se (se_var 3)) (sb_se (se_var 5)))) (sb_se se_int))) (sb_se se_str))
 (sss_one (ss_post [false, false, false, false, true, false, false, false, false] [false, false, false, false, true, false, true, false, false] (ss_to [false, false, false, false, true, false, true, false, false] (ss_setLc 6 rfl sc__law_stand.nd rfl rfl (sw_true rfl rfl rfl (by decide +kernel)) (si_seq (se_var 6)) (blkOk_by (N := n__law_stand) (sc := defScope s__law_stand) (own := [("_law_r", 7)]) (by decide +kernel)) (fun _ _ _ _ _ => (sg_name 7 sc__law_stand.nd)) (tg1_ok 7) (by decide) (fun _ _ _ _ _ => (sts_one (st_cmp (opd_eq hr.units) (sb_se (se_ix ixd (sb_se (se_ix ixd (sb_se (se_var 3)) (sb_se (se_var 7)))) (sb_se se_int))) (sb_se se_str)))) (fun _ _ _ _ _ => (se_var 7)) (by decide)))))
 sss_nil)
 (sss_one (ss_app 4 (se_callTy calld_tuple z_tuple bv_tuple (sab_cons (sb_se (se_var 6)) sab_nil)))))))))
 (sss_cons (ss_to [false, false, false, false, true, false, false, false, true] (ss_setF 8 (sf_lst sa_nil) sc__law_stand.nd))
 (sss_cons (ss_for PassesOwn.never rfl (si_rg1 z_range (sa_cons (se_callB calld_len z_len bv_len (sab_cons (sb_se (se_ix ixd (sb_se (se_var 0)) (sb_se se_int))) sab_nil)) sa_nil)) (sg_name 5 sc__law_stand.nd)
 (sss_one (ss_app 8 (se_bin opd_mod (sb_se (se_c C__law_mixed hr (sa_cons (se_var 1) (sa_cons (se_bin opd_add (sb_se (se_var 2)) (sb_se (se_var 5))) (sa_cons se_int sa_nil))))) (sb_se (se_ix ixd (sb_se (se_ix ixd (sb_se (se_ix ixd (sb_se (se_var 0)) (sb_se se_int))) (sb_se (se_var 5)))) (sb_se se_int)))))))
 (sss_one (ss_ret (se_tup (sa_cons (se_callTy calld_tuple z_tuple bv_tuple (sab_cons (sb_se (se_c C__law_opened hr (sa_cons (se_var 3) (sa_cons se_int (sa_cons (se_var 1) (sa_cons (se_bin opd_add (sb_se (se_var 2)) (sb_se se_int)) sa_nil)))))) sab_nil)) (sa_cons (se_callTy calld_tuple z_tuple bv_tuple (sab_cons (sb_own 8) sab_nil)) (sa_cons (se_callTy calld_tuple z_tuple bv_tuple (sab_cons (sb_own 4) sab_nil)) sa_nil)))))))))))
abbrev s__law_whole : Stmt := topS 40
abbrev n__law_whole : List Str := ["_law_found"]
theorem sc__law_whole : FnScope n__law_whole ["_law_found"] (defScope s__law_whole) := ⟨rfl, rfl, rfl, by decide +kernel, rfl, by decide +kernel, by decide +kernel⟩
theorem c__law_whole (F : Dfn K mg "_law_whole" s__law_whole ["_law_found"]) (z_bool : mg "bool" = none) (z_int : mg "int" = none) (z_isinstance : mg "isinstance" = none) : Cal P w K mg base 1 "_law_whole" false m__law_whole :=
 cal_of (k := 0) (Γ0 := [false]) (Γ' := [false]) (ΓL := []) F sc__law_whole fun q cdv A outer s H E hr =>
 (sss_one (ss_ret (se_and (se_isi isi_int z_isinstance z_int (by decide +kernel) (sb_se (se_var 0))) (se_one (se_not (se_isi isi_bool z_isinstance z_bool (by decide +kernel) (sb_se (se_var 0))))))))
abbrev s__law_step : Stmt := topS 45
abbrev n__law_step : List Str := ["_law_rooms_here", "_law_parents_here", "_law_opened_here", "_law_word", "_law_room", "_law_inner", "_law_k", "_law_good", "_law_above", "_law_beside"]
theorem sc__law_step : FnScope n__law_step ["_law_rooms_here", "_law_parents_here", "_law_opened_here", "_law_word", "_law_room"] (defScope s__law_step) := ⟨rfl, rfl, rfl, by decide +kernel, rfl, by decide +kernel, by decide +kernel⟩
theorem c__law_step (F : Dfn K mg "_law_step" s__law_step ["_law_rooms_here", "_law_parents_here", "_law_opened_here", "_law_word", "_law_room"]) (C__law_whole : Cal P w K mg base 1 "_law_whole" false m__law_whole) (z_len : mg "len" = none) (z_range : mg "range" = none) : Cal P w K mg base 2 "_law_step" false m__law_step :=
 cal_of (k := 1) (Γ0 := [false, false, false, false, false, false, false, false, false, false]) (Γ' := [false, false, false, false, false, false, false, false, false, false]) (ΓL := []) F sc__law_step fun q cdv A outer s H E hr =>
 (sss_cons (ss_if (SW.st (sw_or (st_not (st_val (se_c C__law_whole hr (sa_cons (se_var 4) sa_nil)))) (sw_or1 (st_not (st_chain opd_le opd_lt (sb_se se_int) (sb_se (se_var 4)) (sb_se (se_callB calld_len z_len bv_len (sab_cons (sb_se (se_var 0)) sab_nil))))))))
 (sss_one (ss_ret se_bl))
 sss_nil)
 (sss_cons (ss_if (st_cmp (opd_eq hr.units) (sb_se (se_var 3)) (sb_se se_str))
 (sss_cons (ss_post [false, false, false, false, false, false, false, false, false, false] [false, false, false, false, false, true, false, false, false, false] (ss_to [false, false, false, false, false, true, false, false, false, false] (ss_setLc 5 rfl sc__law_step.nd rfl rfl (sw_true rfl rfl rfl (by decide +kernel)) (si_rg1 z_range (sa_cons (se_callB calld_len z_len bv_len (sab_cons (sb_se (se_var 0)) sab_nil)) sa_nil)) (blkOk_by (N := n__law_step) (sc := defScope s__law_step) (own := [("_law_k", 6)]) (by decide +kernel)) (fun _ _ _ _ _ => (sg_name 6 sc__law_step.nd)) (tg1_ok 6) (by decide) (fun _ _ _ _ _ => (sts_one (SW.st (sw_and (st_cmp (opd_eq hr.units) (sb_se (se_ix ixd (sb_se (se_var 1)) (sb_se (se_var 6)))) (sb_se (se_var 4))) (sw_and1 (st_val (se_ixO ixd (sb_se (se_var 2)) (sb_se (se_var 6))))))))) (fun _ _ _ _ _ => (se_var 6)) (by decide))))
 (sss_cons (ss_set 7 (se_and (se_ixO ixd (sb_se (se_var 2)) (sb_se (se_var 4))) (se_one (se_cmp (opd_eq hr.units) (sb_se (se_callB calld_len z_len bv_len (sab_cons (sb_se (se_var 5)) sab_nil))) (sb_se se_int)))) sc__law_step.nd)
 (sss_cons (ss_putO se_bl (se_var 2) (se_var 4))
 (sss_one (ss_ret (se_var 7))))))
 sss_nil)
 (sss_cons (ss_set 8 (se_ix ixd (sb_se (se_var 1)) (sb_se (se_var 4))) sc__law_step.nd)
 (sss_cons (ss_if (st_cmp opd_isNot (sb_se (se_var 8)) (sb_se se_non))
 (sss_cons (ss_post [false, false, false, false, false, false, false, false, false, false] [false, false, false, false, false, false, false, false, false, true] (ss_to [false, false, false, false, false, false, false, false, false, true] (ss_setLc 9 rfl sc__law_step.nd rfl rfl (sw_true rfl rfl rfl (by decide +kernel)) (si_rg1 z_range (sa_cons (se_callB calld_len z_len bv_len (sab_cons (sb_se (se_var 0)) sab_nil)) sa_nil)) (blkOk_by (N := n__law_step) (sc := defScope s__law_step) (own := [("_law_k", 6)]) (by decide +kernel)) (fun _ _ _ _ _ => (sg_name 6 sc__law_step.nd)) (tg1_ok 6) (by decide) (fun _ _ _ _ _ => (sts_one (SW.st (sw_and (st_cmp (opd_eq hr.units) (sb_se (se_ix ixd (sb_se (se_var 1)) (sb_se (se_var 6)))) (sb_se (se_var 8))) (sw_and1 (st_val (se_ixO ixd (sb_se (se_var 2)) (sb_se (se_var 6))))))))) (fun _ _ _ _ _ => (se_var 6)) (by decide))))
 (sss_one (ss_if (SW.st (sw_or (st_not (st_val (se_ixO ixd (sb_se (se_var 2)) (sb_se (se_var 8))))) (sw_or1 (SW.st (sw_and (st_cmp (opd_eq hr.units) (sb_se (se_ix ixd (sb_se (se_ix ixd (sb_se (se_var 0)) (sb_se (se_var 8)))) (sb_se se_int))) (sb_se se_str)) (sw_and1 (st_cmp opd_gt (sb_se (se_callB calld_len z_len bv_len (sab_cons (sb_se (se_var 9)) sab_nil))) (sb_se se_int))))))))
 (sss_one (ss_ret se_bl))
 sss_nil)))
 sss_nil)
 (sss_cons (ss_set 7 (se_not (se_ixO ixd (sb_se (se_var 2)) (sb_se (se_var 4)))) sc__law_step.nd)
 (sss_cons (ss_putO se_bl (se_var 2) (se_var 4))
 (sss_one (ss_ret (se_var 7)))))))))
abbrev s__law_walk : Stmt := topS 46
abbrev n__law_walk : List Str := ["_law_rooms_here", "_law_parents_here", "_law_opened_here", "_law_record", "_law_door", "_law_outs", "_law_ins", "_law_through", "_law_entry"]
theorem sc__law_walk : FnScope n__law_walk ["_law_rooms_here", "_law_parents_here", "_law_opened_here", "_law_record", "_law_door"] (defScope s__law_walk) := ⟨rfl, rfl, rfl, by decide +kernel, rfl, by decide +kernel, by decide +kernel⟩
theorem c__law_walk (F : Dfn K mg "_law_walk" s__law_walk ["_law_rooms_here", "_law_parents_here", "_law_opened_here", "_law_record", "_law_door"]) (C__law_step : Cal P w K mg base 2 "_law_step" false m__law_step) (C__law_whole : Cal P w K mg base 1 "_law_whole" false m__law_whole) (z_int : mg "int" = none) (z_isinstance : mg "isinstance" = none) (z_len : mg "len" = none) (z_str : mg "str" = none) (z_tuple : mg "tuple" = none) : Cal P w K mg base 3 "_law_walk" false m__law_walk :=
 cal_of (k := 2) (Γ0 := [false, false, false, false, false, false, false, false, false]) (Γ' := [false, false, false, false, false, false, false, false, false]) (ΓL := []) F sc__law_walk fun q cdv A outer s H E hr =>
 (sss_cons (ss_to [false, false, false, false, false, true, false, false, false] (ss_setF 5 (sf_lst sa_nil) sc__law_walk.nd))
 (sss_cons (ss_to [false, false, false, false, false, true, true, false, false] (ss_setF 6 (sf_lst sa_nil) sc__law_walk.nd))
 (sss_cons (ss_set 7 se_int sc__law_walk.nd)
 (sss_cons (ss_forO PassesOwn.never rfl (se_var 3) (sg_name 8 sc__law_walk.nd)
 (sss_cons (ss_if (SW.st (sw_or (st_not (st_val (se_isi isi_tuple z_isinstance z_tuple (by decide +kernel) (sb_se (se_var 8))))) (sw_or (st_cmp opd_lt (sb_se (se_callB calld_len z_len bv_len (sab_cons (sb_se (se_var 8)) sab_nil))) (sb_se se_int)) (sw_or1 (st_not (st_val (se_isi isi_str z_isinstance z_str (by decide +kernel) (sb_se (se_ix ixd (sb_se (se_var 8)) (sb_se se_int))))))))))
 (sss_one (ss_ret se_non))
 sss_nil)
 (sss_cons (ss_if (st_cmp (opd_eq hr.units) (sb_se (se_ix ixd (sb_se (se_var 8)) (sb_se se_int))) (sb_se se_str))
 (sss_cons (ss_set 7 (se_bin opd_add (sb_se (se_var 7)) (sb_se se_int)) sc__law_walk.nd)
 (sss_one (ss_if (SW.st (sw_or (st_not (st_val (se_c C__law_whole hr (sa_cons (se_ix ixd (sb_se (se_var 8)) (sb_se se_int)) sa_nil)))) (sw_or1 (st_cmp (opd_ne hr.units) (sb_se (se_ix ixd (sb_se (se_var 8)) (sb_se se_int))) (sb_se (se_var 4))))))
 (sss_one (ss_ret se_non))
 sss_nil)))
 sss_nil)
 (sss_one (ss_if (SW.st (sw_or (st_cmp (opd_eq hr.units) (sb_se (se_ix ixd (sb_se (se_var 8)) (sb_se se_int))) (sb_se se_str)) (sw_or1 (st_cmp (opd_eq hr.units) (sb_se (se_ix ixd (sb_se (se_var 8)) (sb_se se_int))) (sb_se se_str)))))
 (sss_cons (ss_if (st_not (st_val (se_c C__law_step hr (sa_cons (se_var 0) (sa_cons (se_var 1) (sa_cons (se_var 2) (sa_cons (se_ix ixd (sb_se (se_var 8)) (sb_se se_int)) (sa_cons (se_ix ixd (sb_se (se_var 8)) (sb_se se_int)) sa_nil))))))))
 (sss_one (ss_ret se_non))
 sss_nil)
 (sss_cons (ss_if (st_cmp (opd_ne hr.units) (sb_se (se_var 7)) (sb_se (se_callTy calld_int1 z_int bv_int (sab_cons (sb_se (se_cmp (opd_eq hr.units) (sb_se (se_ix ixd (sb_se (se_var 8)) (sb_se se_int))) (sb_se se_str))) sab_nil))))
 (sss_one (ss_ret se_non))
 sss_nil)
 (sss_one (ss_if (st_cmp (opd_eq hr.units) (sb_se (se_ix ixd (sb_se (se_var 8)) (sb_se se_int))) (sb_se se_str))
 (sss_one (ss_app 5 (se_ix ixd (sb_se (se_var 8)) (sb_se se_int))))
 (sss_one (ss_app 6 (se_ix ixd (sb_se (se_var 8)) (sb_se se_int))))))))
 sss_nil)))))
 (sss_cons (ss_if (st_cmp (opd_ne hr.units) (sb_se (se_var 7)) (sb_se se_int))
 (sss_one (ss_ret se_non))
 sss_nil)
 (sss_one (ss_pre [false, false, false, false, false, false, false, false, false] (ss_ret (se_tup (sa_cons (se_var 5) (sa_cons (se_var 6) sa_nil)))))))))))
abbrev s__law_lies : Stmt := topS 41
abbrev n__law_lies : List Str := ["_law_rooms_here", "_law_one", "_law_other", "_law_k"]
theorem sc__law_lies : FnScope n__law_lies ["_law_rooms_here", "_law_one", "_law_other"] (defScope s__law_lies) := ⟨rfl, rfl, rfl, by decide +kernel, rfl, by decide +kernel, by decide +kernel⟩
theorem c__law_lies (F : Dfn K mg "_law_lies" s__law_lies ["_law_rooms_here", "_law_one", "_law_other"]) (z_range : mg "range" = none) : Cal P w K mg base 1 "_law_lies" false m__law_lies :=
 cal_of (k := 0) (Γ0 := [false, false, false, false]) (Γ' := [false, false, false, false]) (ΓL := []) F sc__law_lies fun q cdv A outer s H E hr =>
 (sss_cons (ss_if (st_cmp opd_ge (sb_se (se_var 2)) (sb_se (se_var 1)))
 (sss_one (ss_ret se_bl))
 sss_nil)
 (sss_cons (ss_for PassesOwn.never rfl (si_rg2 z_range (sa_cons (se_bin opd_add (sb_se (se_var 2)) (sb_se se_int)) (sa_cons (se_bin opd_add (sb_se (se_var 1)) (sb_se se_int)) sa_nil))) (sg_name 3 sc__law_lies.nd)
 (sss_one (ss_if (st_cmp opd_le (sb_se (se_ix ixd (sb_se (se_ix ixd (sb_se (se_var 0)) (sb_se (se_var 3)))) (sb_se se_int))) (sb_se (se_ix ixd (sb_se (se_ix ixd (sb_se (se_var 0)) (sb_se (se_var 2)))) (sb_se se_int))))
 (sss_one (ss_ret se_bl))
 sss_nil)))
 (sss_one (ss_ret se_bl))))
abbrev s__law_hall : Stmt := topS 42
abbrev n__law_hall : List Str := ["_law_rooms_here", "_law_one", "_law_other", "_law_hall_here", "_law_k"]
theorem sc__law_hall : FnScope n__law_hall ["_law_rooms_here", "_law_one", "_law_other"] (defScope s__law_hall) := ⟨rfl, rfl, rfl, by decide +kernel, rfl, by decide +kernel, by decide +kernel⟩
theorem c__law_hall (F : Dfn K mg "_law_hall" s__law_hall ["_law_rooms_here", "_law_one", "_law_other"]) (C__law_lies : Cal P w K mg base 1 "_law_lies" false m__law_lies) (z_len : mg "len" = none) (z_range : mg "range" = none) : Cal P w K mg base 2 "_law_hall" false m__law_hall :=
 cal_of (k := 1) (Γ0 := [false, false, false, false, false]) (Γ' := [false, false, false, false, false]) (ΓL := []) F sc__law_hall fun q cdv A outer s H E hr =>
 (sss_cons (ss_set 3 se_non sc__law_hall.nd)
 (sss_cons (ss_for PassesOwn.never rfl (si_rg1 z_range (sa_cons (se_callB calld_len z_len bv_len (sab_cons (sb_se (se_var 0)) sab_nil)) sa_nil)) (sg_name 4 sc__law_hall.nd)
 (sss_one (ss_if (SW.st (sw_and (st_cmp (opd_eq hr.units) (sb_se (se_ix ixd (sb_se (se_ix ixd (sb_se (se_var 0)) (sb_se (se_var 4)))) (sb_se se_int))) (sb_se se_str)) (sw_and (st_val (se_c C__law_lies hr (sa_cons (se_var 0) (sa_cons (se_var 1) (sa_cons (se_var 4) sa_nil))))) (sw_and1 (st_val (se_c C__law_lies hr (sa_cons (se_var 0) (sa_cons (se_var 2) (sa_cons (se_var 4) sa_nil)))))))))
 (sss_one (ss_set 3 (se_var 4) sc__law_hall.nd))
 sss_nil)))
 (sss_one (ss_ret (se_var 3)))))
abbrev s__law_ways : Stmt := topS 47
abbrev n__law_ways : List Str := ["_law_chart_here", "_law_stand_here", "_law_k", "_law_outs", "_law_ins", "_law_behind", "_law_door", "_law_hall_here", "_law_left", "_law_room", "_law_goals"]
theorem sc__law_ways : FnScope n__law_ways ["_law_chart_here", "_law_stand_here", "_law_k", "_law_outs", "_law_ins", "_law_behind"] (defScope s__law_ways) := ⟨rfl, rfl, rfl, by decide +kernel, rfl, by decide +kernel, by decide +kernel⟩
theorem c__law_ways (F : Dfn K mg "_law_ways" s__law_ways ["_law_chart_here", "_law_stand_here", "_law_k", "_law_outs", "_law_ins", "_law_behind"]) (C__law_hall : Cal P w K mg base 2 "_law_hall" false m__law_hall) (C__law_lies : Cal P w K mg base 1 "_law_lies" false m__law_lies) (z_list : mg "list" = none) (z_reversed : mg "reversed" = none) (z_sorted : mg "sorted" = none) : Cal P w K mg base 3 "_law_ways" false m__law_ways :=
 cal_of (k := 2) (Γ0 := [false, false, false, false, false, false, false, false, false, false, false]) (Γ' := [false, false, false, false, false, false, false, false, false, false, false]) (ΓL := []) F sc__law_ways fun q cdv A outer s H E hr =>
 (sss_cons (ss_set 6 (se_ix ixd (sb_se (se_ix ixd (sb_se (se_var 0)) (sb_se se_int))) (sb_se (se_var 2))) sc__law_ways.nd)
 (sss_cons (ss_if (st_cmp (opd_eq hr.units) (sb_se (se_ix ixd (sb_se (se_var 6)) (sb_se se_int))) (sb_se se_str))
 (sss_one (ss_ret (se_and (se_cmp (opd_eq hr.units) (sb_se (se_var 3)) (sb_sf (sf_lst sa_nil))) (se_one (se_cmp (opd_eq hr.units) (sb_se (se_var 4)) (sb_sf (sf_lst sa_nil)))))))
 sss_nil)
 (sss_cons (ss_set 7 (se_c C__law_hall hr (sa_cons (se_ix ixd (sb_se (se_var 0)) (sb_se se_int)) (sa_cons (se_ix ixd (sb_se (se_var 6)) (sb_se se_int)) (sa_cons (se_ix ixd (sb_se (se_var 6)) (sb_se se_int)) sa_nil)))) sc__law_ways.nd)
 (sss_cons (ss_post [false, false, false, false, false, false, false, false, false, false, false] [false, false, false, false, false, false, false, false, true, false, false] (ss_to [false, false, false, false, false, false, false, false, true, false, false] (ss_setLc 8 rfl sc__law_ways.nd rfl rfl (sw_true rfl rfl rfl (by decide +kernel)) (si_revB z_reversed (sb_se (se_ix ixd (sb_se (se_var 1)) (sb_se se_int)))) (blkOk_by (N := n__law_ways) (sc := defScope s__law_ways) (own := [("_law_room", 9)]) (by decide +kernel)) (fun _ _ _ _ _ => (sg_name 9 sc__law_ways.nd)) (tg1_ok 9) (by decide) (fun _ _ _ _ _ => (sts_one (SW.st (sw_or (st_cmp opd_is (sb_se (se_var 7)) (sb_se se_non)) (sw_or1 (st_val (se_c C__law_lies hr (sa_cons (se_ix ixd (sb_se (se_var 0)) (sb_se se_int)) (sa_cons (se_var 9) (sa_cons (se_var 7) sa_nil)))))))))) (fun _ _ _ _ _ => (se_var 9)) (by decide))))
 (sss_cons (ss_if (SW.st (sw_or (st_cmp (opd_ne hr.units) (sb_se (se_var 3)) (sb_se (se_var 8))) (sw_or1 (st_cmp (opd_ne hr.units) (sb_se (se_var 4)) (sb_sf (sf_callB callf_sorted z_sorted bv_sorted (sab_cons (sb_se (se_var 4)) sab_nil)))))))
 (sss_one (ss_ret se_bl))
 sss_nil)
 (sss_cons (ss_set 10 (se_sf (sf_lst (sa_cons (se_ix ixd (sb_se (se_var 6)) (sb_se se_int)) sa_nil))) sc__law_ways.nd)
 (sss_cons (ss_if (st_cmp (opd_eq hr.units) (sb_se (se_ix ixd (sb_se (se_var 6)) (sb_se se_int))) (sb_se se_str))
 (sss_one (ss_set 10 (se_bin opd_add (sb_se (se_var 10)) (sb_sf (sf_callTy callf_list z_list bv_list (sab_cons (sb_se (se_ix ixd (sb_se (se_ix ixd (sb_se (se_var 5)) (sb_se se_int))) (sb_se (se_ix ixd (sb_se (se_var 6)) (sb_se se_int))))) sab_nil)))) sc__law_ways.nd))
 sss_nil)
 (sss_cons (ss_for PassesOwn.never rfl (si_seq (se_var 10)) (sg_name 9 sc__law_ways.nd)
 (sss_one (ss_if (st_cmp (opd_notIn (room65 hr)) (sb_se (se_var 9)) (sb_se (se_ix ixd (sb_se (se_var 5)) (sb_se se_int))))
 (sss_one (ss_ret se_bl))
 sss_nil)))
 (sss_one (ss_ret se_bl))))))))))
abbrev s_Road___init__ : Stmt := inClass (topS 23) 0
abbrev n_Road___init__ : List Str := ["self", "chart", "boxes", "letters", "box"]
theorem sc_Road___init__ : FnScope n_Road___init__ ["self", "chart", "boxes", "letters"] (defScope s_Road___init__) := ⟨rfl, rfl, rfl, by decide +kernel, rfl, by decide +kernel, by decide +kernel⟩
theorem c_Road___init__ {ca : Nat → Nat} (F : IDfn K mg (ca 1) "Road" "Road.__init__" s_Road___init__ ["self", "chart", "boxes", "letters"]) (z_tuple : mg "tuple" = none) (cl_Road : Cls K (ca 1)) (na_Road_boxes : NoAttr K (ca 1) "boxes") (na_Road_letters : NoAttr K (ca 1) "letters") (na_Road_record : NoAttr K (ca 1) "record") (na_Road_sizes : NoAttr K (ca 1) "sizes") : MkI P w K mg base 1 (ca 1) "Road" false (m_Road___init__ ca) :=
 mki_of (k := 0) (Γ0 := [false, false, false, false, false]) (Γ' := [false, false, false, false, false]) (ΓL := []) F sc_Road___init__ fun q cdv A outer s H E hr =>
 (sss_cons (ss_fld cl_Road na_Road_sizes (se_var 0) (se_callTy calld_tuple z_tuple bv_tuple (sab_cons (sb_sf (sf_comp rfl sc_Road___init__.nd (si_seq (se_ix ixd (sb_se (se_var 1)) (sb_se se_int))) (blkOk_by (N := n_Road___init__) (sc := defScope s_Road___init__) (own := [("box", 4)]) (by decide +kernel)) (fun _ _ _ _ _ => (sg_name 4 sc_Road___init__.nd)) (tg1_ok 4) (by decide) (fun _ _ _ _ _ => sts_nil) (fun _ _ _ _ _ => (se_ix ixd (sb_se (se_var 4)) (sb_se se_int))) (by decide))) sab_nil)))
 (sss_cons (ss_fld cl_Road na_Road_boxes (se_var 0) (se_var 2))
 (sss_cons (ss_fld cl_Road na_Road_letters (se_var 0) (se_var 3))
 (sss_one (ss_fld cl_Road na_Road_record (se_var 0) (se_box (sf_lst sa_nil)))))))
abbrev s_Letters_add : Stmt := inClass (topS 26) 1
abbrev n_Letters_add : List Str := ["self", "event"]
theorem sc_Letters_add : FnScope n_Letters_add ["self", "event"] (defScope s_Letters_add) := ⟨rfl, rfl, rfl, by decide +kernel, rfl, by decide +kernel, by decide +kernel⟩
theorem c_Letters_add {ca : Nat → Nat} (F : MDfn K (ca 0) "add" "Letters.add" s_Letters_add ["self", "event"]) (z_len : mg "len" = none) (cl_Letters : Cls K (ca 0)) (na_Letters_line : NoAttr K (ca 0) "line") (na_Letters_most : NoAttr K (ca 0) "most") : McalI P w K mg base 1 (ca 0) "add" false (m_Letters_add ca) :=
 mcal_of (k := 0) (Γ0 := [false, false]) (Γ' := [false, false]) (ΓL := []) F sc_Letters_add fun q cdv A outer s H E hr =>
 (sss_cons (ss_if (st_cmp opd_ge (sb_se (se_callBO calld_len z_len bv_len (sab_cons (sb_se (se_fld cl_Letters na_Letters_line (se_var 0))) sab_nil))) (sb_se (se_fld cl_Letters na_Letters_most (se_var 0))))
 (sss_one (ss_ret se_bl))
 sss_nil)
 (sss_cons (ss_exp (se_methO PySem.F.slot_list_append PySem.F.type_list_append methd_append (se_fld cl_Letters na_Letters_line (se_var 0)) (sa_cons (se_var 1) sa_nil)))
 (sss_one (ss_ret se_bl))))
abbrev s_changed : Stmt := topS 2
abbrev n_changed : List Str := ["deed", "boxes", "sizes", "at", "value"]
theorem sc_changed : FnScope n_changed ["deed", "boxes", "sizes"] (defScope s_changed) := ⟨rfl, rfl, rfl, by decide +kernel, rfl, by decide +kernel, by decide +kernel⟩
theorem c_changed (F : Dfn K mg "changed" s_changed ["deed", "boxes", "sizes"]) : Cal P w K mg base 1 "changed" false m_changed :=
 cal_of (k := 0) (Γ0 := [false, false, false, false, false]) (Γ' := [false, false, false, false, false]) (ΓL := []) F sc_changed fun q cdv A outer s H E hr =>
 (sss_cons (ss_if (SW.st (sw_or (st_cmp (opd_eq hr.units) (sb_se (se_ix ixd (sb_se (se_var 0)) (sb_se se_int))) (sb_se se_str)) (sw_or1 (st_cmp (opd_eq hr.units) (sb_se (se_ix ixd (sb_se (se_var 0)) (sb_se se_int))) (sb_se se_str)))))
 (sss_one (ss_ret (se_var 1)))
 sss_nil)
 (sss_cons (ss_set 3 (se_ix ixd (sb_se (se_var 0)) (sb_se se_int)) sc_changed.nd)
 (sss_cons (ss_set 4 (se_ix ixd (sb_se (se_var 0)) (sb_se se_int)) sc_changed.nd)
 (sss_cons (ss_if (st_cmp (opd_eq hr.units) (sb_se (se_ix ixd (sb_se (se_var 0)) (sb_se se_int))) (sb_se se_str))
 (sss_one (ss_set 4 (se_bin opd_mod (sb_se (se_bin opd_add (sb_se (se_ix ixd (sb_se (se_var 1)) (sb_se (se_var 3)))) (sb_se (se_var 4)))) (sb_se (se_ix ixd (sb_se (se_var 2)) (sb_se (se_var 3))))) sc_changed.nd))
 sss_nil)
 (sss_one (ss_ret (se_bin opd_add (sb_se (se_bin opd_add (sb_se (se_cut cutd (sb_se (se_var 1)) so_none (so_some (se_var 3)))) (sb_se (se_tup (sa_cons (se_var 4) sa_nil))))) (sb_se (se_cut cutd (sb_se (se_var 1)) (so_some (se_bin opd_add (sb_se (se_var 3)) (sb_se se_int))) so_none)))))))))
abbrev s_done : Stmt := topS 3
abbrev n_done : List Str := ["deeds", "boxes", "sizes", "letters", "record", "deed"]
theorem sc_done : FnScope n_done ["deeds", "boxes", "sizes", "letters"] (defScope s_done) := ⟨rfl, rfl, rfl, by decide +kernel, rfl, by decide +kernel, by decide +kernel⟩
theorem c_done {ca : Nat → Nat} (F : Dfn K mg "done" s_done ["deeds", "boxes", "sizes", "letters"]) (C_changed : Cal P w K mg base 1 "changed" false m_changed) (M_Letters_add : McalI P w K mg base 1 (ca 0) "add" false (m_Letters_add ca)) : Cal P w K mg base 2 "done" false (m_done ca) :=
 cal_of (k := 1) (Γ0 := [false, false, false, false, false, false]) (Γ' := [false, false, false, false, false, false]) (ΓL := []) F sc_done fun q cdv A outer s H E hr =>
 (sss_cons (ss_to [false, false, false, false, true, false] (ss_setF 4 (sf_lst sa_nil) sc_done.nd))
 (sss_cons (ss_for PassesOwn.never rfl (si_seq (se_var 0)) (sg_name 5 sc_done.nd)
 (sss_cons (ss_set 1 (se_c C_changed hr (sa_cons (se_var 5) (sa_cons (se_var 1) (sa_cons (se_var 2) sa_nil)))) sc_done.nd)
 (sss_one (ss_if (st_cmp (opd_eq hr.units) (sb_se (se_ix ixd (sb_se (se_var 5)) (sb_se se_int))) (sb_se se_str))
 (sss_one (ss_app 4 (se_tup (sa_cons se_str (sa_cons (se_ix ixd (sb_se (se_var 5)) (sb_se se_int)) sa_nil)))))
 (sss_one (ss_if (st_cmp (opd_eq hr.units) (sb_se (se_ix ixd (sb_se (se_var 5)) (sb_se se_int))) (sb_se se_str))
 (sss_one (ss_if (st_val (se_m M_Letters_add hr (se_var 3) (sa_cons (se_ix ixd (sb_se (se_var 5)) (sb_se se_int)) sa_nil)))
 (sss_one (ss_app 4 (se_tup (sa_cons se_str (sa_cons (se_ix ixd (sb_se (se_var 5)) (sb_se se_int)) sa_nil)))))
 (sss_one (ss_app 4 (se_tup (sa_cons se_str (sa_cons (se_ix ixd (sb_se (se_var 5)) (sb_se se_int)) sa_nil)))))))
 (sss_one (ss_app 4 (se_tup (sa_cons se_str (sa_cons (se_ix ixd (sb_se (se_var 5)) (sb_se se_int)) (sa_cons (se_ix ixd (sb_se (se_var 1)) (sb_se (se_ix ixd (sb_se (se_var 5)) (sb_se se_int)))) sa_nil))))))))))))
 (sss_one (ss_pre [false, false, false, false, false, false] (ss_ret (se_tup (sa_cons (se_var 1) (sa_cons (se_var 4) sa_nil))))))))
abbrev s_Road_step : Stmt := inClass (topS 23) 1
abbrev n_Road_step : List Str := ["self", "word", "number", "deeds", "found"]
theorem sc_Road_step : FnScope n_Road_step ["self", "word", "number", "deeds"] (defScope s_Road_step) := ⟨rfl, rfl, rfl, by decide +kernel, rfl, by decide +kernel, by decide +kernel⟩
theorem c_Road_step {ca : Nat → Nat} (F : MDfn K (ca 1) "step" "Road.step" s_Road_step ["self", "word", "number", "deeds"]) (C_done : Cal P w K mg base 2 "done" false (m_done ca)) (cl_Road : Cls K (ca 1)) (na_Road_boxes : NoAttr K (ca 1) "boxes") (na_Road_letters : NoAttr K (ca 1) "letters") (na_Road_record : NoAttr K (ca 1) "record") (na_Road_sizes : NoAttr K (ca 1) "sizes") : McalI P w K mg base 3 (ca 1) "step" false (m_Road_step ca) :=
 mcal_of (k := 2) (Γ0 := [false, false, false, false, false]) (Γ' := [false, false, false, false, false]) (ΓL := []) F sc_Road_step fun q cdv A outer s H E hr =>
 (sss_cons (ss_set 4 (se_c C_done hr (sa_cons (se_var 3) (sa_cons (se_fld cl_Road na_Road_boxes (se_var 0)) (sa_cons (se_fld cl_Road na_Road_sizes (se_var 0)) (sa_cons (se_fld cl_Road na_Road_letters (se_var 0)) sa_nil))))) sc_Road_step.nd)
 (sss_cons (ss_fld cl_Road na_Road_boxes (se_var 0) (se_ix ixd (sb_se (se_var 4)) (sb_se se_int)))
 (sss_cons (ss_exp (se_methO PySem.F.slot_list_append PySem.F.type_list_append methd_append (se_fld cl_Road na_Road_record (se_var 0)) (sa_cons (se_tup (sa_cons (se_var 1) (sa_cons (se_var 2) sa_nil))) sa_nil)))
 (sss_one (ss_exp (se_methO PySem.F.slot_list_extend PySem.F.type_list_extend methd_extend (se_fld cl_Road na_Road_record (se_var 0)) (sa_cons (se_ix ixd (sb_se (se_var 4)) (sb_se se_int)) sa_nil)))))))
abbrev s_goals_of : Stmt := topS 11
abbrev n_goals_of : List Str := ["chart", "kept", "door", "way", "goal"]
theorem sc_goals_of : FnScope n_goals_of ["chart", "kept", "door"] (defScope s_goals_of) := ⟨rfl, rfl, rfl, by decide +kernel, rfl, by decide +kernel, by decide +kernel⟩
theorem c_goals_of (F : Dfn K mg "goals_of" s_goals_of ["chart", "kept", "door"]) (z_len : mg "len" = none) (z_list : mg "list" = none) : Cal P w K mg base 1 "goals_of" false m_goals_of :=
 cal_of (k := 0) (Γ0 := [false, false, false, false, false]) (Γ' := [false, false, false, false, false]) (ΓL := []) F sc_goals_of fun q cdv A outer s H E hr =>
 (sss_cons (ss_set 3 (se_ix ixd (sb_se (se_ix ixd (sb_se (se_ix ixd (sb_se (se_var 0)) (sb_se se_int))) (sb_se (se_var 2)))) (sb_se se_int)) sc_goals_of.nd)
 (sss_cons (ss_set 4 (se_ix ixd (sb_se (se_ix ixd (sb_se (se_ix ixd (sb_se (se_var 0)) (sb_se se_int))) (sb_se (se_var 2)))) (sb_se se_int)) sc_goals_of.nd)
 (sss_cons (ss_if (st_cmp (opd_eq hr.units) (sb_se (se_var 3)) (sb_se se_str))
 (sss_one (ss_ret (se_sf (sf_lst sa_nil))))
 sss_nil)
 (sss_cons (ss_if (SW.st (sw_and (st_cmp (opd_eq hr.units) (sb_se (se_var 3)) (sb_se se_str)) (sw_and1 (st_cmp opd_gt (sb_se (se_callB calld_len z_len bv_len (sab_cons (sb_se (se_ix ixd (sb_se (se_var 1)) (sb_se (se_var 4)))) sab_nil))) (sb_se se_int)))))
 (sss_one (ss_ret (se_sf (sf_callTy callf_list z_list bv_list (sab_cons (sb_se (se_ix ixd (sb_se (se_var 1)) (sb_se (se_var 4)))) sab_nil)))))
 sss_nil)
 (sss_one (ss_ret (se_sf (sf_lst (sa_cons (se_var 4) sa_nil)))))))))
abbrev s_end_of : Stmt := topS 6
abbrev n_end_of : List Str := ["rooms", "room", "k"]
theorem sc_end_of : FnScope n_end_of ["rooms", "room"] (defScope s_end_of) := ⟨rfl, rfl, rfl, by decide +kernel, rfl, by decide +kernel, by decide +kernel⟩
theorem c_end_of (F : Dfn K mg "end_of" s_end_of ["rooms", "room"]) (z_len : mg "len" = none) : Cal P w K mg base 1 "end_of" false m_end_of :=
 cal_of (k := 0) (Γ0 := [false, false, false]) (Γ' := [false, false, false]) (ΓL := []) F sc_end_of fun q cdv A outer s H E hr =>
 (sss_cons (ss_set 2 (se_bin opd_add (sb_se (se_var 1)) (sb_se se_int)) sc_end_of.nd)
 (sss_cons (ss_while bigN PassesOwn.never (SW.st (sw_and (st_cmp opd_lt (sb_se (se_var 2)) (sb_se (se_callB calld_len z_len bv_len (sab_cons (sb_se (se_var 0)) sab_nil)))) (sw_and1 (st_cmp opd_gt (sb_se (se_ix ixd (sb_se (se_ix ixd (sb_se (se_var 0)) (sb_se (se_var 2)))) (sb_se se_int))) (sb_se (se_ix ixd (sb_se (se_ix ixd (sb_se (se_var 0)) (sb_se (se_var 1)))) (sb_se se_int)))))))
 (sss_one (ss_set 2 (se_bin opd_add (sb_se (se_var 2)) (sb_se se_int)) sc_end_of.nd)))
 (sss_one (ss_ret (se_var 2)))))
abbrev s_lies_in : Stmt := topS 8
abbrev n_lies_in : List Str := ["rooms", "one", "other"]
theorem sc_lies_in : FnScope n_lies_in ["rooms", "one", "other"] (defScope s_lies_in) := ⟨rfl, rfl, rfl, by decide +kernel, rfl, by decide +kernel, by decide +kernel⟩
theorem c_lies_in (F : Dfn K mg "lies_in" s_lies_in ["rooms", "one", "other"]) (C_end_of : Cal P w K mg base 1 "end_of" false m_end_of) : Cal P w K mg base 2 "lies_in" false m_lies_in :=
 cal_of (k := 1) (Γ0 := [false, false, false]) (Γ' := [false, false, false]) (ΓL := []) F sc_lies_in fun q cdv A outer s H E hr =>
 (sss_one (ss_ret (se_chain opd_lt opd_lt (sb_se (se_var 2)) (sb_se (se_var 1)) (sb_se (se_c C_end_of hr (sa_cons (se_var 0) (sa_cons (se_var 2) sa_nil)))))))
abbrev s_bears : Stmt := topS 13
abbrev n_bears : List Str := ["rooms", "room", "goals", "goal"]
theorem sc_bears : FnScope n_bears ["rooms", "room", "goals"] (defScope s_bears) := ⟨rfl, rfl, rfl, by decide +kernel, rfl, by decide +kernel, by decide +kernel⟩
theorem c_bears (F : Dfn K mg "bears" s_bears ["rooms", "room", "goals"]) (C_lies_in : Cal P w K mg base 2 "lies_in" false m_lies_in) : Cal P w K mg base 3 "bears" false m_bears :=
 cal_of (k := 2) (Γ0 := [false, false, false, false]) (Γ' := [false, false, false, false]) (ΓL := []) F sc_bears fun q cdv A outer s H E hr =>
 (sss_cons (ss_for PassesOwn.never rfl (si_seq (se_var 2)) (sg_name 3 sc_bears.nd)
 (sss_one (ss_if (SW.st (sw_or (st_cmp (opd_eq hr.units) (sb_se (se_var 3)) (sb_se (se_var 1))) (sw_or1 (st_val (se_c C_lies_in hr (sa_cons (se_var 0) (sa_cons (se_var 3) (sa_cons (se_var 1) sa_nil))))))))
 (sss_one (ss_ret se_bl))
 sss_nil)))
 (sss_one (ss_ret se_bl)))
abbrev s_kids : Stmt := topS 7
abbrev n_kids : List Str := ["rooms", "room", "found", "k"]
theorem sc_kids : FnScope n_kids ["rooms", "room"] (defScope s_kids) := ⟨rfl, rfl, rfl, by decide +kernel, rfl, by decide +kernel, by decide +kernel⟩
theorem c_kids (F : Dfn K mg "kids" s_kids ["rooms", "room"]) (C_end_of : Cal P w K mg base 1 "end_of" false m_end_of) (z_range : mg "range" = none) : Cal P w K mg base 2 "kids" false m_kids :=
 cal_of (k := 1) (Γ0 := [false, false, false, false]) (Γ' := [false, false, false, false]) (ΓL := []) F sc_kids fun q cdv A outer s H E hr =>
 (sss_cons (ss_to [false, false, true, false] (ss_setF 2 (sf_lst sa_nil) sc_kids.nd))
 (sss_cons (ss_for PassesOwn.never rfl (si_rg2 z_range (sa_cons (se_bin opd_add (sb_se (se_var 1)) (sb_se se_int)) (sa_cons (se_c C_end_of hr (sa_cons (se_var 0) (sa_cons (se_var 1) sa_nil))) sa_nil))) (sg_name 3 sc_kids.nd)
 (sss_one (ss_if (st_cmp (opd_eq hr.units) (sb_se (se_ix ixd (sb_se (se_ix ixd (sb_se (se_var 0)) (sb_se (se_var 3)))) (sb_se se_int))) (sb_se (se_bin opd_add (sb_se (se_ix ixd (sb_se (se_ix ixd (sb_se (se_var 0)) (sb_se (se_var 1)))) (sb_se se_int))) (sb_se se_int))))
 (sss_one (ss_app 2 (se_var 3)))
 sss_nil)))
 (sss_one (ss_pre [false, false, false, false] (ss_ret (se_var 2))))))
abbrev s_entered : Stmt := topS 14
abbrev n_entered : List Str := ["rooms", "room", "goals", "found", "kid"]
theorem sc_entered : FnScope n_entered ["rooms", "room", "goals"] (defScope s_entered) := ⟨rfl, rfl, rfl, by decide +kernel, rfl, by decide +kernel, by decide +kernel⟩
theorem c_entered (F : Dfn K mg "entered" s_entered ["rooms", "room", "goals"]) (C_bears : Cal P w K mg base 3 "bears" false m_bears) (C_kids : Cal P w K mg base 2 "kids" false m_kids) : Cal P w K mg base 4 "entered" false m_entered :=
 cal_of (k := 3) (Γ0 := [false, false, false, false, false]) (Γ' := [false, false, false, false, false]) (ΓL := []) F sc_entered fun q cdv A outer s H E hr =>
 (sss_cons (ss_set 3 (se_c C_kids hr (sa_cons (se_var 0) (sa_cons (se_var 1) sa_nil))) sc_entered.nd)
 (sss_cons (ss_if (st_cmp (opd_ne hr.units) (sb_se (se_ix ixd (sb_se (se_ix ixd (sb_se (se_var 0)) (sb_se (se_var 1)))) (sb_se se_int))) (sb_se se_str))
 (sss_one (ss_ret (se_var 3)))
 sss_nil)
 (sss_cons (ss_for PassesOwn.never rfl (si_seq (se_var 3)) (sg_name 4 sc_entered.nd)
 (sss_one (ss_if (st_val (se_c C_bears hr (sa_cons (se_var 0) (sa_cons (se_var 4) (sa_cons (se_var 2) sa_nil)))))
 (sss_one (ss_ret (se_sf (sf_lst (sa_cons (se_var 4) sa_nil)))))
 sss_nil)))
 (sss_one (ss_ret (se_cut cutd (sb_se (se_var 3)) so_none (so_some se_int)))))))
abbrev s_goings_in : Stmt := topS 15
abbrev n_goings_in : List Str := ["rooms", "under", "goals", "found", "kid"]
theorem sc_goings_in : FnScope n_goings_in ["rooms", "under", "goals"] (defScope s_goings_in) := ⟨rfl, rfl, rfl, by decide +kernel, rfl, by decide +kernel, by decide +kernel⟩
theorem cr_goings_in (F : Dfn K mg "goings_in" s_goings_in ["rooms", "under", "goals"]) (C_entered : Cal P w K mg base 4 "entered" false m_entered) : ∀ n : Nat, Cal P w K mg base (4 + n) "goings_in" true (r_goings_in n)
 | 0 => cal_zero F
 | n + 1 => have C_rec := cr_goings_in F C_entered n
  cal_of (k := 4 + n) (Γ0 := [false, false, false, false, false]) (Γ' := [false, false, false, false, false]) (ΓL := []) F sc_goings_in fun q cdv A outer s H E hr =>
 (sss_cons (ss_if (st_cmp opd_is (sb_se (se_var 1)) (sb_se se_non))
 (sss_one (ss_retF (sf_add (sb_sf (sf_lst (sa_cons se_int sa_nil))) (sb_se (se_c C_rec hr (sa_cons (se_var 0) (sa_cons se_int (sa_cons (se_var 2) sa_nil))))))))
 sss_nil)
 (sss_cons (ss_to [false, false, false, true, false] (ss_setF 3 (sf_lst sa_nil) sc_goings_in.nd))
 (sss_cons (ss_for PassesOwn.never rfl (si_seq (se_c C_entered hr (sa_cons (se_var 0) (sa_cons (se_var 1) (sa_cons (se_var 2) sa_nil))))) (sg_name 4 sc_goings_in.nd)
 (sss_cons (ss_app 3 (se_var 4))
 (sss_one (ss_extF 3 (sf_c C_rec hr (sa_cons (se_var 0) (sa_cons (se_var 4) (sa_cons (se_var 2) sa_nil))))))))
 (sss_one (ss_retO 3)))))
theorem c_goings_in (F : Dfn K mg "goings_in" s_goings_in ["rooms", "under", "goals"]) (C_entered : Cal P w K mg base 4 "entered" false m_entered) : Cal P w K mg base 54 "goings_in" true m_goings_in := cr_goings_in F C_entered 50
abbrev s_goings_out : Stmt := topS 16
abbrev n_goings_out : List Str := ["rooms", "under", "opening", "found", "room"]
theorem sc_goings_out : FnScope n_goings_out ["rooms", "under", "opening"] (defScope s_goings_out) := ⟨rfl, rfl, rfl, by decide +kernel, rfl, by decide +kernel, by decide +kernel⟩
theorem c_goings_out (F : Dfn K mg "goings_out" s_goings_out ["rooms", "under", "opening"]) (C_lies_in : Cal P w K mg base 2 "lies_in" false m_lies_in) (z_reversed : mg "reversed" = none) : Cal P w K mg base 3 "goings_out" false m_goings_out :=
 cal_of (k := 2) (Γ0 := [false, false, false, false, false]) (Γ' := [false, false, false, false, false]) (ΓL := []) F sc_goings_out fun q cdv A outer s H E hr =>
 (sss_cons (ss_to [false, false, false, true, false] (ss_setF 3 (sf_lst sa_nil) sc_goings_out.nd))
 (sss_cons (ss_for PassesOwn.never rfl (si_rev z_reversed (se_var 2)) (sg_name 4 sc_goings_out.nd)
 (sss_one (ss_if (SW.st (sw_or (st_cmp opd_is (sb_se (se_var 1)) (sb_se se_non)) (sw_or1 (st_val (se_c C_lies_in hr (sa_cons (se_var 0) (sa_cons (se_var 4) (sa_cons (se_var 1) sa_nil))))))))
 (sss_one (ss_app 3 (se_var 4)))
 sss_nil)))
 (sss_one (ss_pre [false, false, false, false, false] (ss_ret (se_var 3))))))
abbrev s_parent : Stmt := topS 5
abbrev n_parent : List Str := ["rooms", "room", "k"]
theorem sc_parent : FnScope n_parent ["rooms", "room"] (defScope s_parent) := ⟨rfl, rfl, rfl, by decide +kernel, rfl, by decide +kernel, by decide +kernel⟩
theorem c_parent (F : Dfn K mg "parent" s_parent ["rooms", "room"]) : Cal P w K mg base 1 "parent" false m_parent :=
 cal_of (k := 0) (Γ0 := [false, false, false]) (Γ' := [false, false, false]) (ΓL := []) F sc_parent fun q cdv A outer s H E hr =>
 (sss_cons (ss_set 2 (se_bin opd_sub (sb_se (se_var 1)) (sb_se se_int)) sc_parent.nd)
 (sss_cons (ss_while bigN PassesOwn.never (st_cmp opd_ge (sb_se (se_var 2)) (sb_se se_int))
 (sss_cons (ss_if (st_cmp opd_lt (sb_se (se_ix ixd (sb_se (se_ix ixd (sb_se (se_var 0)) (sb_se (se_var 2)))) (sb_se se_int))) (sb_se (se_ix ixd (sb_se (se_ix ixd (sb_se (se_var 0)) (sb_se (se_var 1)))) (sb_se se_int))))
 (sss_one (ss_ret (se_var 2)))
 sss_nil)
 (sss_one (ss_set 2 (se_bin opd_sub (sb_se (se_var 2)) (sb_se se_int)) sc_parent.nd))))
 (sss_one (ss_ret se_non))))
abbrev s_hall_over : Stmt := topS 9
abbrev n_hall_over : List Str := ["rooms", "one", "other", "at"]
theorem sc_hall_over : FnScope n_hall_over ["rooms", "one", "other"] (defScope s_hall_over) := ⟨rfl, rfl, rfl, by decide +kernel, rfl, by decide +kernel, by decide +kernel⟩
theorem c_hall_over (F : Dfn K mg "hall_over" s_hall_over ["rooms", "one", "other"]) (C_lies_in : Cal P w K mg base 2 "lies_in" false m_lies_in) (C_parent : Cal P w K mg base 1 "parent" false m_parent) : Cal P w K mg base 3 "hall_over" false m_hall_over :=
 cal_of (k := 2) (Γ0 := [false, false, false, false]) (Γ' := [false, false, false, false]) (ΓL := []) F sc_hall_over fun q cdv A outer s H E hr =>
 (sss_cons (ss_set 3 (se_c C_parent hr (sa_cons (se_var 0) (sa_cons (se_var 1) sa_nil))) sc_hall_over.nd)
 (sss_cons (ss_while bigN PassesOwn.never (st_cmp opd_isNot (sb_se (se_var 3)) (sb_se se_non))
 (sss_cons (ss_if (SW.st (sw_and (st_cmp (opd_eq hr.units) (sb_se (se_ix ixd (sb_se (se_ix ixd (sb_se (se_var 0)) (sb_se (se_var 3)))) (sb_se se_int))) (sb_se se_str)) (sw_and1 (st_val (se_c C_lies_in hr (sa_cons (se_var 0) (sa_cons (se_var 2) (sa_cons (se_var 3) sa_nil))))))))
 (sss_one (ss_ret (se_var 3)))
 sss_nil)
 (sss_one (ss_set 3 (se_c C_parent hr (sa_cons (se_var 0) (sa_cons (se_var 3) sa_nil))) sc_hall_over.nd))))
 (sss_one (ss_ret se_non))))
abbrev s_open_kids : Stmt := topS 18
abbrev n_open_kids : List Str := ["rooms", "room", "opening", "kid"]
theorem sc_open_kids : FnScope n_open_kids ["rooms", "room", "opening"] (defScope s_open_kids) := ⟨rfl, rfl, rfl, by decide +kernel, rfl, by decide +kernel, by decide +kernel⟩
theorem c_open_kids (F : Dfn K mg "open_kids" s_open_kids ["rooms", "room", "opening"]) (C_kids : Cal P w K mg base 2 "kids" false m_kids) : Cal P w K mg base 3 "open_kids" false m_open_kids :=
 cal_of (k := 2) (Γ0 := [false, false, false, false]) (Γ' := [false, false, false, false]) (ΓL := []) F sc_open_kids fun q cdv A outer s H E hr =>
 (sss_one (ss_ret (se_sf (sf_comp rfl sc_open_kids.nd (si_seq (se_c C_kids hr (sa_cons (se_var 0) (sa_cons (se_var 1) sa_nil)))) (blkOk_by (N := n_open_kids) (sc := defScope s_open_kids) (own := [("kid", 3)]) (by decide +kernel)) (fun _ _ _ _ _ => (sg_name 3 sc_open_kids.nd)) (tg1_ok 3) (by decide) (fun _ _ _ _ _ => (sts_one (st_cmp (opd_in (room65 hr)) (sb_se (se_var 3)) (sb_se (se_var 2))))) (fun _ _ _ _ _ => (se_var 3)) (by decide)))))
abbrev s_plain_rooms : Stmt := topS 19
abbrev n_plain_rooms : List Str := ["rooms", "some", "room"]
theorem sc_plain_rooms : FnScope n_plain_rooms ["rooms", "some"] (defScope s_plain_rooms) := ⟨rfl, rfl, rfl, by decide +kernel, rfl, by decide +kernel, by decide +kernel⟩
theorem c_plain_rooms (F : Dfn K mg "plain_rooms" s_plain_rooms ["rooms", "some"]) : Cal P w K mg base 1 "plain_rooms" false m_plain_rooms :=
 cal_of (k := 0) (Γ0 := [false, false, false]) (Γ' := [false, false, false]) (ΓL := []) F sc_plain_rooms fun q cdv A outer s H E hr =>
 (sss_one (ss_ret (se_sf (sf_comp rfl sc_plain_rooms.nd (si_seq (se_var 1)) (blkOk_by (N := n_plain_rooms) (sc := defScope s_plain_rooms) (own := [("room", 2)]) (by decide +kernel)) (fun _ _ _ _ _ => (sg_name 2 sc_plain_rooms.nd)) (tg1_ok 2) (by decide) (fun _ _ _ _ _ => (sts_one (st_cmp (opd_eq hr.units) (sb_se (se_ix ixd (sb_se (se_ix ixd (sb_se (se_var 0)) (sb_se (se_var 2)))) (sb_se se_int))) (sb_se se_str)))) (fun _ _ _ _ _ => (se_var 2)) (by decide)))))
abbrev s_kept_of : Stmt := topS 20
abbrev n_kept_of : List Str := ["rooms", "opening", "room", "before", "r"]
theorem sc_kept_of : FnScope n_kept_of ["rooms", "opening", "room", "before"] (defScope s_kept_of) := ⟨rfl, rfl, rfl, by decide +kernel, rfl, by decide +kernel, by decide +kernel⟩
theorem c_kept_of (F : Dfn K mg "kept_of" s_kept_of ["rooms", "opening", "room", "before"]) (C_lies_in : Cal P w K mg base 2 "lies_in" false m_lies_in) (C_open_kids : Cal P w K mg base 3 "open_kids" false m_open_kids) (C_plain_rooms : Cal P w K mg base 1 "plain_rooms" false m_plain_rooms) (z_tuple : mg "tuple" = none) : Cal P w K mg base 4 "kept_of" false m_kept_of :=
 cal_of (k := 3) (Γ0 := [false, false, false, false, false]) (Γ' := [false, false, false, false, false]) (ΓL := []) F sc_kept_of fun q cdv A outer s H E hr =>
 (sss_cons (ss_if (st_cmp (opd_eq hr.units) (sb_se (se_ix ixd (sb_se (se_ix ixd (sb_se (se_var 0)) (sb_se (se_var 2)))) (sb_se se_int))) (sb_se se_str))
 (sss_one (ss_ret (se_callTy calld_tuple z_tuple bv_tuple (sab_cons (sb_se (se_c C_open_kids hr (sa_cons (se_var 0) (sa_cons (se_var 2) (sa_cons (se_var 1) sa_nil))))) sab_nil))))
 sss_nil)
 (sss_cons (ss_if (st_cmp (opd_eq hr.units) (sb_se (se_ix ixd (sb_se (se_ix ixd (sb_se (se_var 0)) (sb_se (se_var 2)))) (sb_se se_int))) (sb_se se_str))
 (sss_one (ss_ret (se_callTy calld_tuple z_tuple bv_tuple (sab_cons (sb_sf (sf_comp rfl sc_kept_of.nd (si_seq (se_c C_plain_rooms hr (sa_cons (se_var 0) (sa_cons (se_var 1) sa_nil)))) (blkOk_by (N := n_kept_of) (sc := defScope s_kept_of) (own := [("r", 4)]) (by decide +kernel)) (fun _ _ _ _ _ => (sg_name 4 sc_kept_of.nd)) (tg1_ok 4) (by decide) (fun _ _ _ _ _ => (sts_one (st_val (se_c C_lies_in hr (sa_cons (se_var 0) (sa_cons (se_var 4) (sa_cons (se_var 2) sa_nil))))))) (fun _ _ _ _ _ => (se_var 4)) (by decide))) sab_nil))))
 sss_nil)
 (sss_one (ss_ret (se_var 3)))))
abbrev s_keeping : Stmt := topS 21
abbrev n_keeping : List Str := ["rooms", "opening", "left", "kept", "found", "room"]
theorem sc_keeping : FnScope n_keeping ["rooms", "opening", "left", "kept"] (defScope s_keeping) := ⟨rfl, rfl, rfl, by decide +kernel, rfl, by decide +kernel, by decide +kernel⟩
theorem c_keeping (F : Dfn K mg "keeping" s_keeping ["rooms", "opening", "left", "kept"]) (C_kept_of : Cal P w K mg base 4 "kept_of" false m_kept_of) (z_len : mg "len" = none) (z_range : mg "range" = none) (z_tuple : mg "tuple" = none) : Cal P w K mg base 5 "keeping" false m_keeping :=
 cal_of (k := 4) (Γ0 := [false, false, false, false, false, false]) (Γ' := [false, false, false, false, false, false]) (ΓL := []) F sc_keeping fun q cdv A outer s H E hr =>
 (sss_cons (ss_to [false, false, false, false, true, false] (ss_setF 4 (sf_lst sa_nil) sc_keeping.nd))
 (sss_cons (ss_for PassesOwn.never rfl (si_rg1 z_range (sa_cons (se_callB calld_len z_len bv_len (sab_cons (sb_se (se_var 0)) sab_nil)) sa_nil)) (sg_name 5 sc_keeping.nd)
 (sss_one (ss_if (st_cmp (opd_in (room65 hr)) (sb_se (se_var 5)) (sb_se (se_var 2)))
 (sss_one (ss_app 4 (se_c C_kept_of hr (sa_cons (se_var 0) (sa_cons (se_var 1) (sa_cons (se_var 5) (sa_cons (se_ix ixd (sb_se (se_var 3)) (sb_se (se_var 5))) sa_nil)))))))
 (sss_one (ss_app 4 (se_ix ixd (sb_se (se_var 3)) (sb_se (se_var 5))))))))
 (sss_one (ss_ret (se_callTy calld_tuple z_tuple bv_tuple (sab_cons (sb_own 4) sab_nil))))))
abbrev s_passed : Stmt := topS 24
abbrev n_passed : List Str := ["chart", "stand", "door", "letters", "move", "rooms", "road", "under", "left", "kept", "room", "gone", "opening"]
theorem sc_passed : FnScope n_passed ["chart", "stand", "door", "letters"] (defScope s_passed) := ⟨rfl, rfl, rfl, by decide +kernel, rfl, by decide +kernel, by decide +kernel⟩
theorem c_passed {ca : Nat → Nat} (F : Dfn K mg "passed" s_passed ["chart", "stand", "door", "letters"]) (C_goals_of : Cal P w K mg base 1 "goals_of" false m_goals_of) (C_goings_in : Cal P w K mg base 54 "goings_in" true m_goings_in) (C_goings_out : Cal P w K mg base 3 "goings_out" false m_goings_out) (C_hall_over : Cal P w K mg base 3 "hall_over" false m_hall_over) (C_keeping : Cal P w K mg base 5 "keeping" false m_keeping) (z_sorted : mg "sorted" = none) (z_tuple : mg "tuple" = none) (M_Road___init__ : MkI P w K mg base 1 (ca 1) "Road" false (m_Road___init__ ca)) (M_Road_step : McalI P w K mg base 3 (ca 1) "step" false (m_Road_step ca)) (cl_Road : Cls K (ca 1)) (na_Road_boxes : NoAttr K (ca 1) "boxes") (na_Road_record : NoAttr K (ca 1) "record") : Cal P w K mg base 55 "passed" false (m_passed ca) :=
 cal_of (k := 54) (Γ0 := [false, false, false, false, false, false, false, false, false, false, false, false, false]) (Γ' := [false, false, false, false, false, false, false, false, false, false, false, false, false]) (ΓL := []) F sc_passed fun q cdv A outer s H E hr =>
 (sss_cons (ss_set 4 (se_ix ixd (sb_se (se_ix ixd (sb_se (se_var 0)) (sb_se se_int))) (sb_se (se_var 2))) sc_passed.nd)
 (sss_cons (ss_set 5 (se_ix ixd (sb_se (se_var 0)) (sb_se se_int)) sc_passed.nd)
 (sss_cons (ss_set 6 (se_mk M_Road___init__ hr (sa_cons (se_var 0) (sa_cons (se_ix ixd (sb_se (se_var 1)) (sb_se se_int)) (sa_cons (se_var 3) sa_nil)))) sc_passed.nd)
 (sss_cons (ss_exp (se_m M_Road_step hr (se_var 6) (sa_cons se_str (sa_cons (se_var 2) (sa_cons (se_tup sa_nil) sa_nil)))))
 (sss_cons (ss_if (st_cmp (opd_eq hr.units) (sb_se (se_ix ixd (sb_se (se_var 4)) (sb_se se_int))) (sb_se se_str))
 (sss_cons (ss_exp (se_m M_Road_step hr (se_var 6) (sa_cons se_str (sa_cons (se_var 2) (sa_cons (se_ix ixd (sb_se (se_var 4)) (sb_se se_int)) sa_nil)))))
 (sss_one (ss_ret (se_tup (sa_cons (se_tup (sa_cons (se_ix ixd (sb_se (se_var 1)) (sb_se se_int)) (sa_cons (se_fld cl_Road na_Road_boxes (se_var 6)) (sa_cons (se_ix ixd (sb_se (se_var 1)) (sb_se se_int)) sa_nil)))) (sa_cons (se_fld cl_Road na_Road_record (se_var 6)) sa_nil))))))
 sss_nil)
 (sss_cons (ss_set 7 (se_c C_hall_over hr (sa_cons (se_var 5) (sa_cons (se_ix ixd (sb_se (se_var 4)) (sb_se se_int)) (sa_cons (se_ix ixd (sb_se (se_var 4)) (sb_se se_int)) sa_nil)))) sc_passed.nd)
 (sss_cons (ss_set 8 (se_c C_goings_out hr (sa_cons (se_var 5) (sa_cons (se_var 7) (sa_cons (se_ix ixd (sb_se (se_var 1)) (sb_se se_int)) sa_nil)))) sc_passed.nd)
 (sss_cons (ss_set 9 (se_c C_keeping hr (sa_cons (se_var 5) (sa_cons (se_ix ixd (sb_se (se_var 1)) (sb_se se_int)) (sa_cons (se_var 8) (sa_cons (se_ix ixd (sb_se (se_var 1)) (sb_se se_int)) sa_nil))))) sc_passed.nd)
 (sss_cons (ss_for PassesOwn.never rfl (si_seq (se_var 8)) (sg_name 10 sc_passed.nd)
 (sss_one (ss_exp (se_m M_Road_step hr (se_var 6) (sa_cons se_str (sa_cons (se_var 10) (sa_cons (se_ix ixd (sb_se (se_ix ixd (sb_se (se_var 5)) (sb_se (se_var 10)))) (sb_se se_int)) sa_nil)))))))
 (sss_cons (ss_exp (se_m M_Road_step hr (se_var 6) (sa_cons se_str (sa_cons (se_var 2) (sa_cons (se_ix ixd (sb_se (se_var 4)) (sb_se se_int)) sa_nil)))))
 (sss_cons (ss_set 11 (se_c C_goings_in hr (sa_cons (se_var 5) (sa_cons (se_var 7) (sa_cons (se_c C_goals_of hr (sa_cons (se_var 0) (sa_cons (se_var 9) (sa_cons (se_var 2) sa_nil)))) sa_nil)))) sc_passed.nd)
 (sss_cons (ss_for PassesOwn.never rfl (si_seq (se_var 11)) (sg_name 10 sc_passed.nd)
 (sss_one (ss_exp (se_m M_Road_step hr (se_var 6) (sa_cons se_str (sa_cons (se_var 10) (sa_cons (se_ix ixd (sb_se (se_ix ixd (sb_se (se_var 5)) (sb_se (se_var 10)))) (sb_se se_int)) sa_nil)))))))
 (sss_cons (ss_post [false, false, false, false, false, false, false, false, false, false, false, false, false] [false, false, false, false, false, false, false, false, false, false, false, false, true] (ss_to [false, false, false, false, false, false, false, false, false, false, false, false, true] (ss_setLc 12 rfl sc_passed.nd rfl rfl (sw_true rfl rfl rfl (by decide +kernel)) (si_seq (se_ix ixd (sb_se (se_var 1)) (sb_se se_int))) (blkOk_by (N := n_passed) (sc := defScope s_passed) (own := [("room", 10)]) (by decide +kernel)) (fun _ _ _ _ _ => (sg_name 10 sc_passed.nd)) (tg1_ok 10) (by decide) (fun _ _ _ _ _ => (sts_one (st_cmp (opd_notIn (room65 hr)) (sb_se (se_var 10)) (sb_se (se_var 8))))) (fun _ _ _ _ _ => (se_var 10)) (by decide))))
 (sss_one (ss_ret (se_tup (sa_cons (se_tup (sa_cons (se_callTy calld_tuple z_tuple bv_tuple (sab_cons (sb_sf (sf_callB callf_sorted z_sorted bv_sorted (sab_cons (sb_se (se_bin opd_add (sb_se (se_var 12)) (sb_se (se_var 11)))) sab_nil))) sab_nil)) (sa_cons (se_fld cl_Road na_Road_boxes (se_var 6)) (sa_cons (se_var 9) sa_nil)))) (sa_cons (se_fld cl_Road na_Road_record (se_var 6)) sa_nil))))))))))))))))))
abbrev s_law : Stmt := topS 48
abbrev n_law : List Str := ["_law_script", "_law_chart_here", "_law_rooms_here", "_law_parents_here", "_law_lap", "_law_stand_here", "_law_k", "_law_found", "_law_opened_here", "_law_room", "_law_walked", "_law_behind", "_law_r"]
theorem sc_law : FnScope n_law ["_law_script"] (defScope s_law) := ⟨rfl, rfl, rfl, by decide +kernel, rfl, by decide +kernel, by decide +kernel⟩
theorem f_law {ca : Nat → Nat} {q : Addr} {fd : FuncData} (F : Fun K "law" "law" s_law q fd) (C__law_chart : Cal P w K mg base 52 "_law_chart" false m__law_chart) (C__law_is_full : Cal P w K mg base 1 "_law_is_full" false m__law_is_full) (C__law_parents : Cal P w K mg base 1 "_law_parents" false m__law_parents) (C__law_stand : Cal P w K mg base 53 "_law_stand" false m__law_stand) (C__law_walk : Cal P w K mg base 3 "_law_walk" false m__law_walk) (C__law_ways : Cal P w K mg base 3 "_law_ways" false m__law_ways) (C_passed : Cal P w K mg base 55 "passed" false (m_passed ca)) (z_isinstance : mg "isinstance" = none) (z_len : mg "len" = none) (z_list : mg "list" = none) (z_range : mg "range" = none) (z_tuple : mg "tuple" = none) (M_Letters___init__ : MkI P w K mg base 1 (ca 0) "Letters" false (m_Letters___init__ ca)) : FnOk P w K mg base CX0 56 q fd ["_law_script"] (FSpec K false (m_law ca)) :=
 fn_okL (k := 55) (Γ0 := [false, false, false, false, false, false, false, false, false, false, false, false, false]) (Γ' := [false, false, false, false, false, false, false, false, false, false, false, false, false]) (ΓL := []) F sc_law fun cdv A outer s H E hr =>
 (sss_cons (ss_set 1 (se_c C__law_chart hr (sa_cons (se_var 0) sa_nil)) sc_law.nd)
 (sss_cons (ss_set 2 (se_ix ixd (sb_se (se_var 1)) (sb_se se_int)) sc_law.nd)
 (sss_cons (ss_set 3 (se_c C__law_parents hr (sa_cons (se_var 2) sa_nil)) sc_law.nd)
 (sss_cons (ss_for PassesOwn.never rfl (si_rg1 z_range (sa_cons se_int sa_nil)) (sg_name 4 sc_law.nd)
 (sss_cons (ss_set 5 (se_c C__law_stand hr (sa_cons (se_var 1) (sa_cons (se_var 0) (sa_cons (se_bin opd_add (sb_se se_int) (sb_se (se_bin opd_mul (sb_se se_int) (sb_se (se_var 4))))) sa_nil)))) sc_law.nd)
 (sss_one (ss_for PassesOwn.never rfl (si_rg1 z_range (sa_cons (se_callB calld_len z_len bv_len (sab_cons (sb_se (se_ix ixd (sb_se (se_var 1)) (sb_se se_int))) sab_nil)) sa_nil)) (sg_name 6 sc_law.nd)
 (sss_cons (ss_if (st_cmp (opd_notIn (room65 hr)) (sb_se (se_ix ixd (sb_se (se_ix ixd (sb_se (se_ix ixd (sb_se (se_var 1)) (sb_se se_int))) (sb_se (se_var 6)))) (sb_se se_int))) (sb_se (se_ix ixd (sb_se (se_var 5)) (sb_se se_int))))
 (sss_one ss_cnt)
 sss_nil)
 (sss_cons (ss_set 7 (se_c C_passed hr (sa_cons (se_var 1) (sa_cons (se_var 5) (sa_cons (se_var 6) (sa_cons (se_mk M_Letters___init__ hr (sa_cons (se_ix ixd (sb_se (se_var 1)) (sb_se se_int)) sa_nil)) sa_nil))))) sc_law.nd)
 (sss_cons (ss_if (SW.st (sw_or (st_not (st_val (se_isi isi_tuple z_isinstance z_tuple (by decide +kernel) (sb_se (se_var 7))))) (sw_or (st_cmp (opd_ne hr.units) (sb_se (se_callB calld_len z_len bv_len (sab_cons (sb_se (se_var 7)) sab_nil))) (sb_se se_int)) (sw_or1 (st_not (st_val (se_isiO isi_list z_isinstance z_list (by decide +kernel) (sb_se (se_ix ixd (sb_se (se_var 7)) (sb_se se_int))))))))))
 (sss_one (ss_ret se_bl))
 sss_nil)
 (sss_cons (ss_set 8 (se_box (sf_comp rfl sc_law.nd (si_rg1 z_range (sa_cons (se_callB calld_len z_len bv_len (sab_cons (sb_se (se_var 2)) sab_nil)) sa_nil)) (blkOk_by (N := n_law) (sc := defScope s_law) (own := [("_law_room", 9)]) (by decide +kernel)) (fun _ _ _ _ _ => (sg_name 9 sc_law.nd)) (tg1_ok 9) (by decide) (fun _ _ _ _ _ => sts_nil) (fun _ _ _ _ _ => (se_cmp (opd_in (room65 hr)) (sb_se (se_var 9)) (sb_se (se_ix ixd (sb_se (se_var 5)) (sb_se se_int))))) (by decide))) sc_law.nd)
 (sss_cons (ss_set 10 (se_c C__law_walk hr (sa_cons (se_var 2) (sa_cons (se_var 3) (sa_cons (se_var 8) (sa_cons (se_ix ixd (sb_se (se_var 7)) (sb_se se_int)) (sa_cons (se_var 6) sa_nil)))))) sc_law.nd)
 (sss_cons (ss_set 11 (se_ix ixd (sb_se (se_var 7)) (sb_se se_int)) sc_law.nd)
 (sss_cons (ss_if (SW.st (sw_or (st_cmp opd_is (sb_se (se_var 10)) (sb_se se_non)) (sw_or1 (st_cmp (opd_ne hr.units) (sb_se (se_ixO ixd (sb_se (se_ix ixd (sb_se (se_var 7)) (sb_se se_int))) (sb_se se_int))) (sb_se (se_tup (sa_cons se_str (sa_cons (se_var 6) sa_nil))))))))
 (sss_one (ss_ret se_bl))
 sss_nil)
 (sss_cons (ss_if (SW.st (sw_or (st_not (st_val (se_isi isi_tuple z_isinstance z_tuple (by decide +kernel) (sb_se (se_var 11))))) (sw_or (st_cmp (opd_ne hr.units) (sb_se (se_callB calld_len z_len bv_len (sab_cons (sb_se (se_var 11)) sab_nil))) (sb_se se_int)) (sw_or1 (st_not (st_val (se_isi isi_tuple z_isinstance z_tuple (by decide +kernel) (sb_se (se_ix ixd (sb_se (se_var 11)) (sb_se se_int))))))))))
 (sss_one (ss_ret se_bl))
 sss_nil)
 (sss_cons (ss_if (st_cmp (opd_ne hr.units) (sb_se (se_ix ixd (sb_se (se_var 11)) (sb_se se_int))) (sb_se (se_callTy calld_tuple z_tuple bv_tuple (sab_cons (sb_sf (sf_comp rfl sc_law.nd (si_rg1 z_range (sa_cons (se_callB calld_len z_len bv_len (sab_cons (sb_se (se_var 2)) sab_nil)) sa_nil)) (blkOk_by (N := n_law) (sc := defScope s_law) (own := [("_law_r", 12)]) (by decide +kernel)) (fun _ _ _ _ _ => (sg_name 12 sc_law.nd)) (tg1_ok 12) (by decide) (fun _ _ _ _ _ => (sts_one (st_val (se_ixO ixd (sb_se (se_var 8)) (sb_se (se_var 12)))))) (fun _ _ _ _ _ => (se_var 12)) (by decide))) sab_nil))))
 (sss_one (ss_ret se_bl))
 sss_nil)
 (sss_cons (ss_if (st_not (st_val (se_c C__law_is_full hr (sa_cons (se_var 2) (sa_cons (se_var 3) (sa_cons (se_ix ixd (sb_se (se_var 11)) (sb_se se_int)) sa_nil))))))
 (sss_one (ss_ret se_bl))
 sss_nil)
 (sss_one (ss_if (st_not (st_val (se_c C__law_ways hr (sa_cons (se_var 1) (sa_cons (se_var 5) (sa_cons (se_var 6) (sa_cons (se_ix ixd (sb_se (se_var 10)) (sb_se se_int)) (sa_cons (se_ix ixd (sb_se (se_var 10)) (sb_se se_int)) (sa_cons (se_var 11) sa_nil)))))))))
 (sss_one (ss_ret se_bl))
 sss_nil))))))))))))))))
 (sss_one (ss_ret se_bl))))))
end
end Law

namespace Law
open PySem PySem.Spec L2 Vx
set_option maxHeartbeats 4000000 in
theorem all_mk {fa f1 f2 f3 f4 f5 f6 f7 f8 f9 f10 f11 f12 f13 f14 f15 f16 f17 f18 f19 f20 f21 f22 f23 f24 f25 f26 f27 f28 f29 f30 f31 f32 f33 f34 f35 f36 f37 f38 f39 f40 f41 f42 : Addr} {od1 an1 od2 an2 od3 an3 od4 an4 od5 an5 od6 an6 od7 an7 od8 an8 od9 an9 od10 an10 od11 an11 od12 an12 od13 an13 od14 an14 od15 an15 od16 an16 od17 an17 od18 an18 od19 an19 od20 an20 od21 an21 od22 an22 od23 an23 od24 an24 od25 an25 od26 an26 od27 an27 od28 an28 od29 an29 od30 an30 od31 an31 od32 an32 od33 an33 od34 an34 od35 an35 od36 an36 od37 an37 od38 an38 od39 an39 od40 an40 od41 an41 od42 an42 : Option Addr} {sl1 sl2 sl3 sl4 sl5 sl6 sl7 sl8 sl9 sl10 sl11 sl12 sl13 sl14 sl15 sl16 sl17 sl18 sl19 sl20 sl21 sl22 sl23 sl24 sl25 sl26 sl27 sl28 sl29 sl30 sl31 sl32 sl33 sl34 sl35 sl36 sl37 sl38 sl39 sl40 sl41 sl42 : Array (Option Value)} {oc1 kV1 dc1 pm1 cd1 ct1 oc2 kV2 dc2 pm2 cd2 ct2 oc3 kV3 dc3 pm3 cd3 ct3 oc4 kV4 dc4 pm4 cd4 ct4 oc5 kV5 dc5 pm5 cd5 ct5 oc6 kV6 dc6 pm6 cd6 ct6 oc7 kV7 dc7 pm7 cd7 ct7 oc8 kV8 dc8 pm8 cd8 ct8 oc9 kV9 dc9 pm9 cd9 ct9 oc10 kV10 dc10 pm10 cd10 ct10 oc11 kV11 dc11 pm11 cd11 ct11 oc12 kV12 dc12 pm12 cd12 ct12 oc13 kV13 dc13 pm13 cd13 ct13 oc14 kV14 dc14 pm14 cd14 ct14 oc15 kV15 dc15 pm15 cd15 ct15 oc16 kV16 dc16 pm16 cd16 ct16 oc17 kV17 dc17 pm17 cd17 ct17 oc18 kV18 dc18 pm18 cd18 ct18 oc19 kV19 dc19 pm19 cd19 ct19 oc20 kV20 dc20 pm20 cd20 ct20 oc21 kV21 dc21 pm21 cd21 ct21 oc22 kV22 dc22 pm22 cd22 ct22 oc23 kV23 dc23 pm23 cd23 ct23 oc24 kV24 dc24 pm24 cd24 ct24 oc25 kV25 dc25 pm25 cd25 ct25 oc26 kV26 dc26 pm26 cd26 ct26 oc27 kV27 dc27 pm27 cd27 ct27 oc28 kV28 dc28 pm28 cd28 ct28 oc29 kV29 dc29 pm29 cd29 ct29 oc30 kV30 dc30 pm30 cd30 ct30 oc31 kV31 dc31 pm31 cd31 ct31 oc32 kV32 dc32 pm32 cd32 ct32 oc33 kV33 dc33 pm33 cd33 ct33 oc34 kV34 dc34 pm34 cd34 ct34 oc35 kV35 dc35 pm35 cd35 ct35 oc36 kV36 dc36 pm36 cd36 ct36 oc37 kV37 dc37 pm37 cd37 ct37 oc38 kV38 dc38 pm38 cd38 ct38 oc39 kV39 dc39 pm39 cd39 ct39 oc40 kV40 dc40 pm40 cd40 ct40 oc41 kV41 dc41 pm41 cd41 ct41 oc42 kV42 dc42 pm42 cd42 ct42 : Value} {CRoad CLetters : Addr} {l : PySem.W.OpenLaw} {w : World} {K : PySem.W.Frag} {h : Heap} {mg : Str → Option Value} (X : K.In h) (G : h.Ns mainGlobals mg) (hfa : mg "law" = some (.ref fa))
  (aC_Road : PySem.W.nsIn K mainGlobals "Road" = some (some (.ref CRoad)))
  (aC_Letters : PySem.W.nsIn K mainGlobals "Letters" = some (some (.ref CLetters)))
  (a1 : PySem.W.findIn K (.ref CLetters) "__init__" = some (some (.ref f1))) (i1 : PySem.W.isFn K (.ref f1) = true) (l1 : K.lookup f1 = some ⟨oc1, od1, .func (PySem.W.fnOf "__init__" "Letters.__init__" (defArgs s_Letters___init__) (defBody s_Letters___init__) (defScope s_Letters___init__) .none kV1 dc1 pm1 an1 cd1 ct1), sl1⟩) (c1 : PySem.W.codeIn K cd1 "Letters.__init__" = true) (k1 : PySem.W.keepIn K (.ref f1) = true)
  (a2 : PySem.W.nsIn K mainGlobals "_law_cell_at" = some (some (.ref f2))) (l2 : K.lookup f2 = some ⟨oc2, od2, .func (PySem.W.fnOf "_law_cell_at" "_law_cell_at" (defArgs s__law_cell_at) (defBody s__law_cell_at) (defScope s__law_cell_at) .none kV2 dc2 pm2 an2 cd2 ct2), sl2⟩) (c2 : PySem.W.codeIn K cd2 "_law_cell_at" = true) (k2 : PySem.W.keepIn K (.ref f2) = true)
  (a3 : PySem.W.nsIn K mainGlobals "_law_mixed" = some (some (.ref f3))) (l3 : K.lookup f3 = some ⟨oc3, od3, .func (PySem.W.fnOf "_law_mixed" "_law_mixed" (defArgs s__law_mixed) (defBody s__law_mixed) (defScope s__law_mixed) .none kV3 dc3 pm3 an3 cd3 ct3), sl3⟩) (c3 : PySem.W.codeIn K cd3 "_law_mixed" = true) (k3 : PySem.W.keepIn K (.ref f3) = true)
  (a4 : PySem.W.nsIn K mainGlobals "_law_depths" = some (some (.ref f4))) (l4 : K.lookup f4 = some ⟨oc4, od4, .func (PySem.W.fnOf "_law_depths" "_law_depths" (defArgs s__law_depths) (defBody s__law_depths) (defScope s__law_depths) .none kV4 dc4 pm4 an4 cd4 ct4), sl4⟩) (c4 : PySem.W.codeIn K cd4 "_law_depths" = true) (k4 : PySem.W.keepIn K (.ref f4) = true)
  (a5 : PySem.W.nsIn K mainGlobals "_law_name" = some (some (.ref f5))) (l5 : K.lookup f5 = some ⟨oc5, od5, .func (PySem.W.fnOf "_law_name" "_law_name" (defArgs s__law_name) (defBody s__law_name) (defScope s__law_name) .none kV5 dc5 pm5 an5 cd5 ct5), sl5⟩) (c5 : PySem.W.codeIn K cd5 "_law_name" = true) (k5 : PySem.W.keepIn K (.ref f5) = true)
  (a6 : PySem.W.nsIn K mainGlobals "_law_deed" = some (some (.ref f6))) (l6 : K.lookup f6 = some ⟨oc6, od6, .func (PySem.W.fnOf "_law_deed" "_law_deed" (defArgs s__law_deed) (defBody s__law_deed) (defScope s__law_deed) .none kV6 dc6 pm6 an6 cd6 ct6), sl6⟩) (c6 : PySem.W.codeIn K cd6 "_law_deed" = true) (k6 : PySem.W.keepIn K (.ref f6) = true)
  (a7 : PySem.W.nsIn K mainGlobals "_law_deeds" = some (some (.ref f7))) (l7 : K.lookup f7 = some ⟨oc7, od7, .func (PySem.W.fnOf "_law_deeds" "_law_deeds" (defArgs s__law_deeds) (defBody s__law_deeds) (defScope s__law_deeds) .none kV7 dc7 pm7 an7 cd7 ct7), sl7⟩) (c7 : PySem.W.codeIn K cd7 "_law_deeds" = true) (k7 : PySem.W.keepIn K (.ref f7) = true)
  (a8 : PySem.W.nsIn K mainGlobals "_law_guard" = some (some (.ref f8))) (l8 : K.lookup f8 = some ⟨oc8, od8, .func (PySem.W.fnOf "_law_guard" "_law_guard" (defArgs s__law_guard) (defBody s__law_guard) (defScope s__law_guard) .none kV8 dc8 pm8 an8 cd8 ct8), sl8⟩) (c8 : PySem.W.codeIn K cd8 "_law_guard" = true) (k8 : PySem.W.keepIn K (.ref f8) = true)
  (a9 : PySem.W.nsIn K mainGlobals "_law_doors" = some (some (.ref f9))) (l9 : K.lookup f9 = some ⟨oc9, od9, .func (PySem.W.fnOf "_law_doors" "_law_doors" (defArgs s__law_doors) (defBody s__law_doors) (defScope s__law_doors) .none kV9 dc9 pm9 an9 cd9 ct9), sl9⟩) (c9 : PySem.W.codeIn K cd9 "_law_doors" = true) (k9 : PySem.W.keepIn K (.ref f9) = true)
  (a10 : PySem.W.nsIn K mainGlobals "_law_rooms" = some (some (.ref f10))) (l10 : K.lookup f10 = some ⟨oc10, od10, .func (PySem.W.fnOf "_law_rooms" "_law_rooms" (defArgs s__law_rooms) (defBody s__law_rooms) (defScope s__law_rooms) .none kV10 dc10 pm10 an10 cd10 ct10), sl10⟩) (c10 : PySem.W.codeIn K cd10 "_law_rooms" = true) (k10 : PySem.W.keepIn K (.ref f10) = true)
  (a11 : PySem.W.nsIn K mainGlobals "_law_chart" = some (some (.ref f11))) (l11 : K.lookup f11 = some ⟨oc11, od11, .func (PySem.W.fnOf "_law_chart" "_law_chart" (defArgs s__law_chart) (defBody s__law_chart) (defScope s__law_chart) .none kV11 dc11 pm11 an11 cd11 ct11), sl11⟩) (c11 : PySem.W.codeIn K cd11 "_law_chart" = true) (k11 : PySem.W.keepIn K (.ref f11) = true)
  (a12 : PySem.W.nsIn K mainGlobals "_law_is_full" = some (some (.ref f12))) (l12 : K.lookup f12 = some ⟨oc12, od12, .func (PySem.W.fnOf "_law_is_full" "_law_is_full" (defArgs s__law_is_full) (defBody s__law_is_full) (defScope s__law_is_full) .none kV12 dc12 pm12 an12 cd12 ct12), sl12⟩) (c12 : PySem.W.codeIn K cd12 "_law_is_full" = true) (k12 : PySem.W.keepIn K (.ref f12) = true)
  (a13 : PySem.W.nsIn K mainGlobals "_law_parents" = some (some (.ref f13))) (l13 : K.lookup f13 = some ⟨oc13, od13, .func (PySem.W.fnOf "_law_parents" "_law_parents" (defArgs s__law_parents) (defBody s__law_parents) (defScope s__law_parents) .none kV13 dc13 pm13 an13 cd13 ct13), sl13⟩) (c13 : PySem.W.codeIn K cd13 "_law_parents" = true) (k13 : PySem.W.keepIn K (.ref f13) = true)
  (a14 : PySem.W.nsIn K mainGlobals "_law_opened" = some (some (.ref f14))) (l14 : K.lookup f14 = some ⟨oc14, od14, .func (PySem.W.fnOf "_law_opened" "_law_opened" (defArgs s__law_opened) (defBody s__law_opened) (defScope s__law_opened) .none kV14 dc14 pm14 an14 cd14 ct14), sl14⟩) (c14 : PySem.W.codeIn K cd14 "_law_opened" = true) (k14 : PySem.W.keepIn K (.ref f14) = true)
  (a15 : PySem.W.nsIn K mainGlobals "_law_stand" = some (some (.ref f15))) (l15 : K.lookup f15 = some ⟨oc15, od15, .func (PySem.W.fnOf "_law_stand" "_law_stand" (defArgs s__law_stand) (defBody s__law_stand) (defScope s__law_stand) .none kV15 dc15 pm15 an15 cd15 ct15), sl15⟩) (c15 : PySem.W.codeIn K cd15 "_law_stand" = true) (k15 : PySem.W.keepIn K (.ref f15) = true)
  (a16 : PySem.W.nsIn K mainGlobals "_law_whole" = some (some (.ref f16))) (l16 : K.lookup f16 = some ⟨oc16, od16, .func (PySem.W.fnOf "_law_whole" "_law_whole" (defArgs s__law_whole) (defBody s__law_whole) (defScope s__law_whole) .none kV16 dc16 pm16 an16 cd16 ct16), sl16⟩) (c16 : PySem.W.codeIn K cd16 "_law_whole" = true) (k16 : PySem.W.keepIn K (.ref f16) = true)
  (a17 : PySem.W.nsIn K mainGlobals "_law_step" = some (some (.ref f17))) (l17 : K.lookup f17 = some ⟨oc17, od17, .func (PySem.W.fnOf "_law_step" "_law_step" (defArgs s__law_step) (defBody s__law_step) (defScope s__law_step) .none kV17 dc17 pm17 an17 cd17 ct17), sl17⟩) (c17 : PySem.W.codeIn K cd17 "_law_step" = true) (k17 : PySem.W.keepIn K (.ref f17) = true)
  (a18 : PySem.W.nsIn K mainGlobals "_law_walk" = some (some (.ref f18))) (l18 : K.lookup f18 = some ⟨oc18, od18, .func (PySem.W.fnOf "_law_walk" "_law_walk" (defArgs s__law_walk) (defBody s__law_walk) (defScope s__law_walk) .none kV18 dc18 pm18 an18 cd18 ct18), sl18⟩) (c18 : PySem.W.codeIn K cd18 "_law_walk" = true) (k18 : PySem.W.keepIn K (.ref f18) = true)
  (a19 : PySem.W.nsIn K mainGlobals "_law_lies" = some (some (.ref f19))) (l19 : K.lookup f19 = some ⟨oc19, od19, .func (PySem.W.fnOf "_law_lies" "_law_lies" (defArgs s__law_lies) (defBody s__law_lies) (defScope s__law_lies) .none kV19 dc19 pm19 an19 cd19 ct19), sl19⟩) (c19 : PySem.W.codeIn K cd19 "_law_lies" = true) (k19 : PySem.W.keepIn K (.ref f19) = true)
  (a20 : PySem.W.nsIn K mainGlobals "_law_hall" = some (some (.ref f20))) (l20 : K.lookup f20 = some ⟨oc20, od20, .func (PySem.W.fnOf "_law_hall" "_law_hall" (defArgs s__law_hall) (defBody s__law_hall) (defScope s__law_hall) .none kV20 dc20 pm20 an20 cd20 ct20), sl20⟩) (c20 : PySem.W.codeIn K cd20 "_law_hall" = true) (k20 : PySem.W.keepIn K (.ref f20) = true)
  (a21 : PySem.W.nsIn K mainGlobals "_law_ways" = some (some (.ref f21))) (l21 : K.lookup f21 = some ⟨oc21, od21, .func (PySem.W.fnOf "_law_ways" "_law_ways" (defArgs s__law_ways) (defBody s__law_ways) (defScope s__law_ways) .none kV21 dc21 pm21 an21 cd21 ct21), sl21⟩) (c21 : PySem.W.codeIn K cd21 "_law_ways" = true) (k21 : PySem.W.keepIn K (.ref f21) = true)
  (a22 : PySem.W.findIn K (.ref CRoad) "__init__" = some (some (.ref f22))) (i22 : PySem.W.isFn K (.ref f22) = true) (l22 : K.lookup f22 = some ⟨oc22, od22, .func (PySem.W.fnOf "__init__" "Road.__init__" (defArgs s_Road___init__) (defBody s_Road___init__) (defScope s_Road___init__) .none kV22 dc22 pm22 an22 cd22 ct22), sl22⟩) (c22 : PySem.W.codeIn K cd22 "Road.__init__" = true) (k22 : PySem.W.keepIn K (.ref f22) = true)
  (a23 : PySem.W.findIn K (.ref CLetters) "add" = some (some (.ref f23))) (i23 : PySem.W.isFn K (.ref f23) = true) (l23 : K.lookup f23 = some ⟨oc23, od23, .func (PySem.W.fnOf "add" "Letters.add" (defArgs s_Letters_add) (defBody s_Letters_add) (defScope s_Letters_add) .none kV23 dc23 pm23 an23 cd23 ct23), sl23⟩) (c23 : PySem.W.codeIn K cd23 "Letters.add" = true) (k23 : PySem.W.keepIn K (.ref f23) = true)
  (a24 : PySem.W.nsIn K mainGlobals "changed" = some (some (.ref f24))) (l24 : K.lookup f24 = some ⟨oc24, od24, .func (PySem.W.fnOf "changed" "changed" (defArgs s_changed) (defBody s_changed) (defScope s_changed) .none kV24 dc24 pm24 an24 cd24 ct24), sl24⟩) (c24 : PySem.W.codeIn K cd24 "changed" = true) (k24 : PySem.W.keepIn K (.ref f24) = true)
  (a25 : PySem.W.nsIn K mainGlobals "done" = some (some (.ref f25))) (l25 : K.lookup f25 = some ⟨oc25, od25, .func (PySem.W.fnOf "done" "done" (defArgs s_done) (defBody s_done) (defScope s_done) .none kV25 dc25 pm25 an25 cd25 ct25), sl25⟩) (c25 : PySem.W.codeIn K cd25 "done" = true) (k25 : PySem.W.keepIn K (.ref f25) = true)
  (a26 : PySem.W.findIn K (.ref CRoad) "step" = some (some (.ref f26))) (i26 : PySem.W.isFn K (.ref f26) = true) (l26 : K.lookup f26 = some ⟨oc26, od26, .func (PySem.W.fnOf "step" "Road.step" (defArgs s_Road_step) (defBody s_Road_step) (defScope s_Road_step) .none kV26 dc26 pm26 an26 cd26 ct26), sl26⟩) (c26 : PySem.W.codeIn K cd26 "Road.step" = true) (k26 : PySem.W.keepIn K (.ref f26) = true)
  (a27 : PySem.W.nsIn K mainGlobals "goals_of" = some (some (.ref f27))) (l27 : K.lookup f27 = some ⟨oc27, od27, .func (PySem.W.fnOf "goals_of" "goals_of" (defArgs s_goals_of) (defBody s_goals_of) (defScope s_goals_of) .none kV27 dc27 pm27 an27 cd27 ct27), sl27⟩) (c27 : PySem.W.codeIn K cd27 "goals_of" = true) (k27 : PySem.W.keepIn K (.ref f27) = true)
  (a28 : PySem.W.nsIn K mainGlobals "end_of" = some (some (.ref f28))) (l28 : K.lookup f28 = some ⟨oc28, od28, .func (PySem.W.fnOf "end_of" "end_of" (defArgs s_end_of) (defBody s_end_of) (defScope s_end_of) .none kV28 dc28 pm28 an28 cd28 ct28), sl28⟩) (c28 : PySem.W.codeIn K cd28 "end_of" = true) (k28 : PySem.W.keepIn K (.ref f28) = true)
  (a29 : PySem.W.nsIn K mainGlobals "lies_in" = some (some (.ref f29))) (l29 : K.lookup f29 = some ⟨oc29, od29, .func (PySem.W.fnOf "lies_in" "lies_in" (defArgs s_lies_in) (defBody s_lies_in) (defScope s_lies_in) .none kV29 dc29 pm29 an29 cd29 ct29), sl29⟩) (c29 : PySem.W.codeIn K cd29 "lies_in" = true) (k29 : PySem.W.keepIn K (.ref f29) = true)
  (a30 : PySem.W.nsIn K mainGlobals "bears" = some (some (.ref f30))) (l30 : K.lookup f30 = some ⟨oc30, od30, .func (PySem.W.fnOf "bears" "bears" (defArgs s_bears) (defBody s_bears) (defScope s_bears) .none kV30 dc30 pm30 an30 cd30 ct30), sl30⟩) (c30 : PySem.W.codeIn K cd30 "bears" = true) (k30 : PySem.W.keepIn K (.ref f30) = true)
  (a31 : PySem.W.nsIn K mainGlobals "kids" = some (some (.ref f31))) (l31 : K.lookup f31 = some ⟨oc31, od31, .func (PySem.W.fnOf "kids" "kids" (defArgs s_kids) (defBody s_kids) (defScope s_kids) .none kV31 dc31 pm31 an31 cd31 ct31), sl31⟩) (c31 : PySem.W.codeIn K cd31 "kids" = true) (k31 : PySem.W.keepIn K (.ref f31) = true)
  (a32 : PySem.W.nsIn K mainGlobals "entered" = some (some (.ref f32))) (l32 : K.lookup f32 = some ⟨oc32, od32, .func (PySem.W.fnOf "entered" "entered" (defArgs s_entered) (defBody s_entered) (defScope s_entered) .none kV32 dc32 pm32 an32 cd32 ct32), sl32⟩) (c32 : PySem.W.codeIn K cd32 "entered" = true) (k32 : PySem.W.keepIn K (.ref f32) = true)
  (a33 : PySem.W.nsIn K mainGlobals "goings_in" = some (some (.ref f33))) (l33 : K.lookup f33 = some ⟨oc33, od33, .func (PySem.W.fnOf "goings_in" "goings_in" (defArgs s_goings_in) (defBody s_goings_in) (defScope s_goings_in) .none kV33 dc33 pm33 an33 cd33 ct33), sl33⟩) (c33 : PySem.W.codeIn K cd33 "goings_in" = true) (k33 : PySem.W.keepIn K (.ref f33) = true)
  (a34 : PySem.W.nsIn K mainGlobals "goings_out" = some (some (.ref f34))) (l34 : K.lookup f34 = some ⟨oc34, od34, .func (PySem.W.fnOf "goings_out" "goings_out" (defArgs s_goings_out) (defBody s_goings_out) (defScope s_goings_out) .none kV34 dc34 pm34 an34 cd34 ct34), sl34⟩) (c34 : PySem.W.codeIn K cd34 "goings_out" = true) (k34 : PySem.W.keepIn K (.ref f34) = true)
  (a35 : PySem.W.nsIn K mainGlobals "parent" = some (some (.ref f35))) (l35 : K.lookup f35 = some ⟨oc35, od35, .func (PySem.W.fnOf "parent" "parent" (defArgs s_parent) (defBody s_parent) (defScope s_parent) .none kV35 dc35 pm35 an35 cd35 ct35), sl35⟩) (c35 : PySem.W.codeIn K cd35 "parent" = true) (k35 : PySem.W.keepIn K (.ref f35) = true)
  (a36 : PySem.W.nsIn K mainGlobals "hall_over" = some (some (.ref f36))) (l36 : K.lookup f36 = some ⟨oc36, od36, .func (PySem.W.fnOf "hall_over" "hall_over" (defArgs s_hall_over) (defBody s_hall_over) (defScope s_hall_over) .none kV36 dc36 pm36 an36 cd36 ct36), sl36⟩) (c36 : PySem.W.codeIn K cd36 "hall_over" = true) (k36 : PySem.W.keepIn K (.ref f36) = true)
  (a37 : PySem.W.nsIn K mainGlobals "open_kids" = some (some (.ref f37))) (l37 : K.lookup f37 = some ⟨oc37, od37, .func (PySem.W.fnOf "open_kids" "open_kids" (defArgs s_open_kids) (defBody s_open_kids) (defScope s_open_kids) .none kV37 dc37 pm37 an37 cd37 ct37), sl37⟩) (c37 : PySem.W.codeIn K cd37 "open_kids" = true) (k37 : PySem.W.keepIn K (.ref f37) = true)
  (a38 : PySem.W.nsIn K mainGlobals "plain_rooms" = some (some (.ref f38))) (l38 : K.lookup f38 = some ⟨oc38, od38, .func (PySem.W.fnOf "plain_rooms" "plain_rooms" (defArgs s_plain_rooms) (defBody s_plain_rooms) (defScope s_plain_rooms) .none kV38 dc38 pm38 an38 cd38 ct38), sl38⟩) (c38 : PySem.W.codeIn K cd38 "plain_rooms" = true) (k38 : PySem.W.keepIn K (.ref f38) = true)
  (a39 : PySem.W.nsIn K mainGlobals "kept_of" = some (some (.ref f39))) (l39 : K.lookup f39 = some ⟨oc39, od39, .func (PySem.W.fnOf "kept_of" "kept_of" (defArgs s_kept_of) (defBody s_kept_of) (defScope s_kept_of) .none kV39 dc39 pm39 an39 cd39 ct39), sl39⟩) (c39 : PySem.W.codeIn K cd39 "kept_of" = true) (k39 : PySem.W.keepIn K (.ref f39) = true)
  (a40 : PySem.W.nsIn K mainGlobals "keeping" = some (some (.ref f40))) (l40 : K.lookup f40 = some ⟨oc40, od40, .func (PySem.W.fnOf "keeping" "keeping" (defArgs s_keeping) (defBody s_keeping) (defScope s_keeping) .none kV40 dc40 pm40 an40 cd40 ct40), sl40⟩) (c40 : PySem.W.codeIn K cd40 "keeping" = true) (k40 : PySem.W.keepIn K (.ref f40) = true)
  (a41 : PySem.W.nsIn K mainGlobals "passed" = some (some (.ref f41))) (l41 : K.lookup f41 = some ⟨oc41, od41, .func (PySem.W.fnOf "passed" "passed" (defArgs s_passed) (defBody s_passed) (defScope s_passed) .none kV41 dc41 pm41 an41 cd41 ct41), sl41⟩) (c41 : PySem.W.codeIn K cd41 "passed" = true) (k41 : PySem.W.keepIn K (.ref f41) = true)
  (a42 : PySem.W.nsIn K mainGlobals "law" = some (some (.ref f42))) (l42 : K.lookup f42 = some ⟨oc42, od42, .func (PySem.W.fnOf "law" "law" (defArgs s_law) (defBody s_law) (defScope s_law) .none kV42 dc42 pm42 an42 cd42 ct42), sl42⟩) (c42 : PySem.W.codeIn K cd42 "law" = true) (k42 : PySem.W.keepIn K (.ref f42) = true)
  (pg_Road : PySem.W.plainGet K CRoad Str.empty = true) (hd_Road : PySem.W.hasDictIn K CRoad = true) (po_Road : PySem.W.plainOver K CRoad = true) (sa_Road : PySem.W.findIn K (.ref CRoad) "__setattr__" = some (some (.builtin "object.__setattr__"))) (mk_Road : PySem.W.makesIn K CRoad = true) (kc_Road : PySem.W.keepIn K (.ref CRoad) = true)
  (pg_Letters : PySem.W.plainGet K CLetters Str.empty = true) (hd_Letters : PySem.W.hasDictIn K CLetters = true) (po_Letters : PySem.W.plainOver K CLetters = true) (sa_Letters : PySem.W.findIn K (.ref CLetters) "__setattr__" = some (some (.builtin "object.__setattr__"))) (mk_Letters : PySem.W.makesIn K CLetters = true) (kc_Letters : PySem.W.keepIn K (.ref CLetters) = true)
  (na_Letters_line : PySem.W.findIn K (.ref CLetters) "line" = some none)
  (na_Letters_most : PySem.W.findIn K (.ref CLetters) "most" = some none)
  (na_Road_boxes : PySem.W.findIn K (.ref CRoad) "boxes" = some none)
  (na_Road_letters : PySem.W.findIn K (.ref CRoad) "letters" = some none)
  (na_Road_record : PySem.W.findIn K (.ref CRoad) "record" = some none)
  (na_Road_sizes : PySem.W.findIn K (.ref CRoad) "sizes" = some none)
  (z_bool : PySem.W.nsIn K mainGlobals "bool" = some none)
  (z_int : PySem.W.nsIn K mainGlobals "int" = some none)
  (z_isinstance : PySem.W.nsIn K mainGlobals "isinstance" = some none)
  (z_len : PySem.W.nsIn K mainGlobals "len" = some none)
  (z_list : PySem.W.nsIn K mainGlobals "list" = some none)
  (z_max : PySem.W.nsIn K mainGlobals "max" = some none)
  (z_min : PySem.W.nsIn K mainGlobals "min" = some none)
  (z_range : PySem.W.nsIn K mainGlobals "range" = some none)
  (z_reversed : PySem.W.nsIn K mainGlobals "reversed" = some none)
  (z_sorted : PySem.W.nsIn K mainGlobals "sorted" = some none)
  (z_str : PySem.W.nsIn K mainGlobals "str" = some none)
  (z_tuple : PySem.W.nsIn K mainGlobals "tuple" = some none) (hlaw : ∀ ca : Nat → Nat, ∀ ns : List Int, ns.length ≤ 63 → ∃ st', m_law ca [.lst (ns.map .int)] [] = .ok (.bl true) st') :
  ∃ fd : FuncData, (∀ (s : Shared) (v : Value), BindsTo s fd ⟨[v], []⟩ [("_law_script", v)]) ∧ ∀ base : Heap, K.In base → base.Ns mainGlobals mg → FnOk l.prog w K mg base CX0 56 fa fd ["_law_script"] (spLaw K) := by
  have e := hfa.symm.trans (PySem.W.mg_of X G a42)
  cases e
  have z_bool := PySem.W.mg_none_of X G z_bool
  have z_int := PySem.W.mg_none_of X G z_int
  have z_isinstance := PySem.W.mg_none_of X G z_isinstance
  have z_len := PySem.W.mg_none_of X G z_len
  have z_list := PySem.W.mg_none_of X G z_list
  have z_max := PySem.W.mg_none_of X G z_max
  have z_min := PySem.W.mg_none_of X G z_min
  have z_range := PySem.W.mg_none_of X G z_range
  have z_reversed := PySem.W.mg_none_of X G z_reversed
  have z_sorted := PySem.W.mg_none_of X G z_sorted
  have z_str := PySem.W.mg_none_of X G z_str
  have z_tuple := PySem.W.mg_none_of X G z_tuple
  have cl_Road : Cls K CRoad := ⟨pg_Road, hd_Road, po_Road, sa_Road⟩
  have cl_Letters : Cls K CLetters := ⟨pg_Letters, hd_Letters, po_Letters, sa_Letters⟩
  have F1 := fun_mk (st := s_Letters___init__) l1 c1 k1
  have D_Letters___init__ : IDfn K mg CLetters "Letters" "Letters.__init__" s_Letters___init__ ["self", "most"] := ⟨_, _, F1, PySem.W.mg_of X G aC_Letters, ⟨mk_Letters, a1, i1, kc_Letters⟩, F1.binds (ps := ["self", "most"]) fun _ _ _ _ _ _ us hl => match us, hl with | [_, _], _ => rfl⟩
  have F2 := fun_mk (st := s__law_cell_at) l2 c2 k2
  have D__law_cell_at : Dfn K mg "_law_cell_at" s__law_cell_at ["_law_script", "_law_k"] := ⟨_, _, F2, PySem.W.mg_of X G a2, F2.binds (ps := ["_law_script", "_law_k"]) fun _ _ _ _ _ _ us hl => match us, hl with | [_, _], _ => rfl⟩
  have F3 := fun_mk (st := s__law_mixed) l3 c3 k3
  have D__law_mixed : Dfn K mg "_law_mixed" s__law_mixed ["_law_script", "_law_k", "_law_salt"] := ⟨_, _, F3, PySem.W.mg_of X G a3, F3.binds (ps := ["_law_script", "_law_k", "_law_salt"]) fun _ _ _ _ _ _ us hl => match us, hl with | [_, _, _], _ => rfl⟩
  have F4 := fun_mk (st := s__law_depths) l4 c4 k4
  have D__law_depths : Dfn K mg "_law_depths" s__law_depths ["_law_script", "_law_many"] := ⟨_, _, F4, PySem.W.mg_of X G a4, F4.binds (ps := ["_law_script", "_law_many"]) fun _ _ _ _ _ _ us hl => match us, hl with | [_, _], _ => rfl⟩
  have F5 := fun_mk (st := s__law_name) l5 c5 k5
  have D__law_name : Dfn K mg "_law_name" s__law_name ["_law_k", "_law_number"] := ⟨_, _, F5, PySem.W.mg_of X G a5, F5.binds (ps := ["_law_k", "_law_number"]) fun _ _ _ _ _ _ us hl => match us, hl with | [_, _], _ => rfl⟩
  have F6 := fun_mk (st := s__law_deed) l6 c6 k6
  have D__law_deed : Dfn K mg "_law_deed" s__law_deed ["_law_number", "_law_sizes", "_law_events"] := ⟨_, _, F6, PySem.W.mg_of X G a6, F6.binds (ps := ["_law_number", "_law_sizes", "_law_events"]) fun _ _ _ _ _ _ us hl => match us, hl with | [_, _, _], _ => rfl⟩
  have F7 := fun_mk (st := s__law_deeds) l7 c7 k7
  have D__law_deeds : Dfn K mg "_law_deeds" s__law_deeds ["_law_script", "_law_k", "_law_salt", "_law_sizes", "_law_events"] := ⟨_, _, F7, PySem.W.mg_of X G a7, F7.binds (ps := ["_law_script", "_law_k", "_law_salt", "_law_sizes", "_law_events"]) fun _ _ _ _ _ _ us hl => match us, hl with | [_, _, _, _, _], _ => rfl⟩
  have F8 := fun_mk (st := s__law_guard) l8 c8 k8
  have D__law_guard : Dfn K mg "_law_guard" s__law_guard ["_law_number", "_law_rooms_here", "_law_boxes", "_law_high"] := ⟨_, _, F8, PySem.W.mg_of X G a8, F8.binds (ps := ["_law_number", "_law_rooms_here", "_law_boxes", "_law_high"]) fun _ _ _ _ _ _ us hl => match us, hl with | [_, _, _, _], _ => rfl⟩
  have F9 := fun_mk (st := s__law_doors) l9 c9 k9
  have D__law_doors : Dfn K mg "_law_doors" s__law_doors ["_law_script", "_law_many", "_law_rooms_here", "_law_sizes", "_law_events"] := ⟨_, _, F9, PySem.W.mg_of X G a9, F9.binds (ps := ["_law_script", "_law_many", "_law_rooms_here", "_law_sizes", "_law_events"]) fun _ _ _ _ _ _ us hl => match us, hl with | [_, _, _, _, _], _ => rfl⟩
  have F10 := fun_mk (st := s__law_rooms) l10 c10 k10
  have D__law_rooms : Dfn K mg "_law_rooms" s__law_rooms ["_law_script", "_law_depths_here", "_law_sizes", "_law_events"] := ⟨_, _, F10, PySem.W.mg_of X G a10, F10.binds (ps := ["_law_script", "_law_depths_here", "_law_sizes", "_law_events"]) fun _ _ _ _ _ _ us hl => match us, hl with | [_, _, _, _], _ => rfl⟩
  have F11 := fun_mk (st := s__law_chart) l11 c11 k11
  have D__law_chart : Dfn K mg "_law_chart" s__law_chart ["_law_script"] := ⟨_, _, F11, PySem.W.mg_of X G a11, F11.binds (ps := ["_law_script"]) fun _ _ _ _ _ _ us hl => match us, hl with | [_], _ => rfl⟩
  have F12 := fun_mk (st := s__law_is_full) l12 c12 k12
  have D__law_is_full : Dfn K mg "_law_is_full" s__law_is_full ["_law_rooms_here", "_law_parents_here", "_law_opening"] := ⟨_, _, F12, PySem.W.mg_of X G a12, F12.binds (ps := ["_law_rooms_here", "_law_parents_here", "_law_opening"]) fun _ _ _ _ _ _ us hl => match us, hl with | [_, _, _], _ => rfl⟩
  have F13 := fun_mk (st := s__law_parents) l13 c13 k13
  have D__law_parents : Dfn K mg "_law_parents" s__law_parents ["_law_rooms_here"] := ⟨_, _, F13, PySem.W.mg_of X G a13, F13.binds (ps := ["_law_rooms_here"]) fun _ _ _ _ _ _ us hl => match us, hl with | [_], _ => rfl⟩
  have F14 := fun_mk (st := s__law_opened) l14 c14 k14
  have D__law_opened : Dfn K mg "_law_opened" s__law_opened ["_law_rooms_here", "_law_room", "_law_script", "_law_at"] := ⟨_, _, F14, PySem.W.mg_of X G a14, F14.binds (ps := ["_law_rooms_here", "_law_room", "_law_script", "_law_at"]) fun _ _ _ _ _ _ us hl => match us, hl with | [_, _, _, _], _ => rfl⟩
  have F15 := fun_mk (st := s__law_stand) l15 c15 k15
  have D__law_stand : Dfn K mg "_law_stand" s__law_stand ["_law_chart_here", "_law_script", "_law_at"] := ⟨_, _, F15, PySem.W.mg_of X G a15, F15.binds (ps := ["_law_chart_here", "_law_script", "_law_at"]) fun _ _ _ _ _ _ us hl => match us, hl with | [_, _, _], _ => rfl⟩
  have F16 := fun_mk (st := s__law_whole) l16 c16 k16
  have D__law_whole : Dfn K mg "_law_whole" s__law_whole ["_law_found"] := ⟨_, _, F16, PySem.W.mg_of X G a16, F16.binds (ps := ["_law_found"]) fun _ _ _ _ _ _ us hl => match us, hl with | [_], _ => rfl⟩
  have F17 := fun_mk (st := s__law_step) l17 c17 k17
  have D__law_step : Dfn K mg "_law_step" s__law_step ["_law_rooms_here", "_law_parents_here", "_law_opened_here", "_law_word", "_law_room"] := ⟨_, _, F17, PySem.W.mg_of X G a17, F17.binds (ps := ["_law_rooms_here", "_law_parents_here", "_law_opened_here", "_law_word", "_law_room"]) fun _ _ _ _ _ _ us hl => match us, hl with | [_, _, _, _, _], _ => rfl⟩
  have F18 := fun_mk (st := s__law_walk) l18 c18 k18
  have D__law_walk : Dfn K mg "_law_walk" s__law_walk ["_law_rooms_here", "_law_parents_here", "_law_opened_here", "_law_record", "_law_door"] := ⟨_, _, F18, PySem.W.mg_of X G a18, F18.binds (ps := ["_law_rooms_here", "_law_parents_here", "_law_opened_here", "_law_record", "_law_door"]) fun _ _ _ _ _ _ us hl => match us, hl with | [_, _, _, _, _], _ => rfl⟩
  have F19 := fun_mk (st := s__law_lies) l19 c19 k19
  have D__law_lies : Dfn K mg "_law_lies" s__law_lies ["_law_rooms_here", "_law_one", "_law_other"] := ⟨_, _, F19, PySem.W.mg_of X G a19, F19.binds (ps := ["_law_rooms_here", "_law_one", "_law_other"]) fun _ _ _ _ _ _ us hl => match us, hl with | [_, _, _], _ => rfl⟩
  have F20 := fun_mk (st := s__law_hall) l20 c20 k20
  have D__law_hall : Dfn K mg "_law_hall" s__law_hall ["_law_rooms_here", "_law_one", "_law_other"] := ⟨_, _, F20, PySem.W.mg_of X G a20, F20.binds (ps := ["_law_rooms_here", "_law_one", "_law_other"]) fun _ _ _ _ _ _ us hl => match us, hl with | [_, _, _], _ => rfl⟩
  have F21 := fun_mk (st := s__law_ways) l21 c21 k21
  have D__law_ways : Dfn K mg "_law_ways" s__law_ways ["_law_chart_here", "_law_stand_here", "_law_k", "_law_outs", "_law_ins", "_law_behind"] := ⟨_, _, F21, PySem.W.mg_of X G a21, F21.binds (ps := ["_law_chart_here", "_law_stand_here", "_law_k", "_law_outs", "_law_ins", "_law_behind"]) fun _ _ _ _ _ _ us hl => match us, hl with | [_, _, _, _, _, _], _ => rfl⟩
  have F22 := fun_mk (st := s_Road___init__) l22 c22 k22
  have D_Road___init__ : IDfn K mg CRoad "Road" "Road.__init__" s_Road___init__ ["self", "chart", "boxes", "letters"] := ⟨_, _, F22, PySem.W.mg_of X G aC_Road, ⟨mk_Road, a22, i22, kc_Road⟩, F22.binds (ps := ["self", "chart", "boxes", "letters"]) fun _ _ _ _ _ _ us hl => match us, hl with | [_, _, _, _], _ => rfl⟩
  have F23 := fun_mk (st := s_Letters_add) l23 c23 k23
  have D_Letters_add : MDfn K CLetters "add" "Letters.add" s_Letters_add ["self", "event"] := ⟨_, _, F23, cl_Letters, ⟨a23, i23, k23⟩, F23.binds (ps := ["self", "event"]) fun _ _ _ _ _ _ us hl => match us, hl with | [_, _], _ => rfl⟩
  have F24 := fun_mk (st := s_changed) l24 c24 k24
  have D_changed : Dfn K mg "changed" s_changed ["deed", "boxes", "sizes"] := ⟨_, _, F24, PySem.W.mg_of X G a24, F24.binds (ps := ["deed", "boxes", "sizes"]) fun _ _ _ _ _ _ us hl => match us, hl with | [_, _, _], _ => rfl⟩
  have F25 := fun_mk (st := s_done) l25 c25 k25
  have D_done : Dfn K mg "done" s_done ["deeds", "boxes", "sizes", "letters"] := ⟨_, _, F25, PySem.W.mg_of X G a25, F25.binds (ps := ["deeds", "boxes", "sizes", "letters"]) fun _ _ _ _ _ _ us hl => match us, hl with | [_, _, _, _], _ => rfl⟩
  have F26 := fun_mk (st := s_Road_step) l26 c26 k26
  have D_Road_step : MDfn K CRoad "step" "Road.step" s_Road_step ["self", "word", "number", "deeds"] := ⟨_, _, F26, cl_Road, ⟨a26, i26, k26⟩, F26.binds (ps := ["self", "word", "number", "deeds"]) fun _ _ _ _ _ _ us hl => match us, hl with | [_, _, _, _], _ => rfl⟩
  have F27 := fun_mk (st := s_goals_of) l27 c27 k27
  have D_goals_of : Dfn K mg "goals_of" s_goals_of ["chart", "kept", "door"] := ⟨_, _, F27, PySem.W.mg_of X G a27, F27.binds (ps := ["chart", "kept", "door"]) fun _ _ _ _ _ _ us hl => match us, hl with | [_, _, _], _ => rfl⟩
  have F28 := fun_mk (st := s_end_of) l28 c28 k28
  have D_end_of : Dfn K mg "end_of" s_end_of ["rooms", "room"] := ⟨_, _, F28, PySem.W.mg_of X G a28, F28.binds (ps := ["rooms", "room"]) fun _ _ _ _ _ _ us hl => match us, hl with | [_, _], _ => rfl⟩
  have F29 := fun_mk (st := s_lies_in) l29 c29 k29
  have D_lies_in : Dfn K mg "lies_in" s_lies_in ["rooms", "one", "other"] := ⟨_, _, F29, PySem.W.mg_of X G a29, F29.binds (ps := ["rooms", "one", "other"]) fun _ _ _ _ _ _ us hl => match us, hl with | [_, _, _], _ => rfl⟩
  have F30 := fun_mk (st := s_bears) l30 c30 k30
  have D_bears : Dfn K mg "bears" s_bears ["rooms", "room", "goals"] := ⟨_, _, F30, PySem.W.mg_of X G a30, F30.binds (ps := ["rooms", "room", "goals"]) fun _ _ _ _ _ _ us hl => match us, hl with | [_, _, _], _ => rfl⟩
  have F31 := fun_mk (st := s_kids) l31 c31 k31
  have D_kids : Dfn K mg "kids" s_kids ["rooms", "room"] := ⟨_, _, F31, PySem.W.mg_of X G a31, F31.binds (ps := ["rooms", "room"]) fun _ _ _ _ _ _ us hl => match us, hl with | [_, _], _ => rfl⟩
  have F32 := fun_mk (st := s_entered) l32 c32 k32
  have D_entered : Dfn K mg "entered" s_entered ["rooms", "room", "goals"] := ⟨_, _, F32, PySem.W.mg_of X G a32, F32.binds (ps := ["rooms", "room", "goals"]) fun _ _ _ _ _ _ us hl => match us, hl with | [_, _, _], _ => rfl⟩
  have F33 := fun_mk (st := s_goings_in) l33 c33 k33
  have D_goings_in : Dfn K mg "goings_in" s_goings_in ["rooms", "under", "goals"] := ⟨_, _, F33, PySem.W.mg_of X G a33, F33.binds (ps := ["rooms", "under", "goals"]) fun _ _ _ _ _ _ us hl => match us, hl with | [_, _, _], _ => rfl⟩
  have F34 := fun_mk (st := s_goings_out) l34 c34 k34
  have D_goings_out : Dfn K mg "goings_out" s_goings_out ["rooms", "under", "opening"] := ⟨_, _, F34, PySem.W.mg_of X G a34, F34.binds (ps := ["rooms", "under", "opening"]) fun _ _ _ _ _ _ us hl => match us, hl with | [_, _, _], _ => rfl⟩
  have F35 := fun_mk (st := s_parent) l35 c35 k35
  have D_parent : Dfn K mg "parent" s_parent ["rooms", "room"] := ⟨_, _, F35, PySem.W.mg_of X G a35, F35.binds (ps := ["rooms", "room"]) fun _ _ _ _ _ _ us hl => match us, hl with | [_, _], _ => rfl⟩
  have F36 := fun_mk (st := s_hall_over) l36 c36 k36
  have D_hall_over : Dfn K mg "hall_over" s_hall_over ["rooms", "one", "other"] := ⟨_, _, F36, PySem.W.mg_of X G a36, F36.binds (ps := ["rooms", "one", "other"]) fun _ _ _ _ _ _ us hl => match us, hl with | [_, _, _], _ => rfl⟩
  have F37 := fun_mk (st := s_open_kids) l37 c37 k37
  have D_open_kids : Dfn K mg "open_kids" s_open_kids ["rooms", "room", "opening"] := ⟨_, _, F37, PySem.W.mg_of X G a37, F37.binds (ps := ["rooms", "room", "opening"]) fun _ _ _ _ _ _ us hl => match us, hl with | [_, _, _], _ => rfl⟩
  have F38 := fun_mk (st := s_plain_rooms) l38 c38 k38
  have D_plain_rooms : Dfn K mg "plain_rooms" s_plain_rooms ["rooms", "some"] := ⟨_, _, F38, PySem.W.mg_of X G a38, F38.binds (ps := ["rooms", "some"]) fun _ _ _ _ _ _ us hl => match us, hl with | [_, _], _ => rfl⟩
  have F39 := fun_mk (st := s_kept_of) l39 c39 k39
  have D_kept_of : Dfn K mg "kept_of" s_kept_of ["rooms", "opening", "room", "before"] := ⟨_, _, F39, PySem.W.mg_of X G a39, F39.binds (ps := ["rooms", "opening", "room", "before"]) fun _ _ _ _ _ _ us hl => match us, hl with | [_, _, _, _], _ => rfl⟩
  have F40 := fun_mk (st := s_keeping) l40 c40 k40
  have D_keeping : Dfn K mg "keeping" s_keeping ["rooms", "opening", "left", "kept"] := ⟨_, _, F40, PySem.W.mg_of X G a40, F40.binds (ps := ["rooms", "opening", "left", "kept"]) fun _ _ _ _ _ _ us hl => match us, hl with | [_, _, _, _], _ => rfl⟩
  have F41 := fun_mk (st := s_passed) l41 c41 k41
  have D_passed : Dfn K mg "passed" s_passed ["chart", "stand", "door", "letters"] := ⟨_, _, F41, PySem.W.mg_of X G a41, F41.binds (ps := ["chart", "stand", "door", "letters"]) fun _ _ _ _ _ _ us hl => match us, hl with | [_, _, _, _], _ => rfl⟩
  have F42 := fun_mk (st := s_law) l42 c42 k42
  have D_law : Dfn K mg "law" s_law ["_law_script"] := ⟨_, _, F42, PySem.W.mg_of X G a42, F42.binds (ps := ["_law_script"]) fun _ _ _ _ _ _ us hl => match us, hl with | [_], _ => rfl⟩
  refine ⟨PySem.W.fnOf "law" "law" (defArgs s_law) (defBody s_law) (defScope s_law) .none kV42 dc42 pm42 an42 cd42 ct42, fun s v => .of_eq rfl, fun base _ _ => ?_⟩
  have M_Letters___init__ := c_Letters___init__ (P := l.prog) (w := w) (base := base) (ca := (fun n => match n with | 0 => CLetters | _ => CRoad)) D_Letters___init__ cl_Letters na_Letters_line na_Letters_most
  have C__law_cell_at := c__law_cell_at (P := l.prog) (w := w) (base := base) D__law_cell_at z_len
  have C__law_mixed := c__law_mixed (P := l.prog) (w := w) (base := base) D__law_mixed C__law_cell_at z_len z_max
  have C__law_depths := c__law_depths (P := l.prog) (w := w) (base := base) D__law_depths C__law_mixed z_min z_range
  have C__law_name := c__law_name (P := l.prog) (w := w) (base := base) D__law_name z_len
  have C__law_deed := c__law_deed (P := l.prog) (w := w) (base := base) D__law_deed C__law_name z_len
  have C__law_deeds := c__law_deeds (P := l.prog) (w := w) (base := base) D__law_deeds C__law_deed C__law_mixed z_range z_tuple
  have C__law_guard := c__law_guard (P := l.prog) (w := w) (base := base) D__law_guard
  have C__law_doors := c__law_doors (P := l.prog) (w := w) (base := base) D__law_doors C__law_deeds C__law_guard C__law_mixed z_int z_len z_range z_tuple
  have C__law_rooms := c__law_rooms (P := l.prog) (w := w) (base := base) D__law_rooms C__law_cell_at C__law_deeds C__law_mixed C__law_name z_len z_range z_tuple
  have C__law_chart := c__law_chart (P := l.prog) (w := w) (base := base) D__law_chart C__law_cell_at C__law_depths C__law_doors C__law_mixed C__law_name C__law_rooms z_range z_tuple
  have C__law_is_full := c__law_is_full (P := l.prog) (w := w) (base := base) D__law_is_full z_len z_range
  have C__law_parents := c__law_parents (P := l.prog) (w := w) (base := base) D__law_parents z_len z_max z_range
  have C__law_opened := c__law_opened (P := l.prog) (w := w) (base := base) D__law_opened C__law_mixed z_len
  have C__law_stand := c__law_stand (P := l.prog) (w := w) (base := base) D__law_stand C__law_mixed C__law_opened z_len z_range z_tuple
  have C__law_whole := c__law_whole (P := l.prog) (w := w) (base := base) D__law_whole z_bool z_int z_isinstance
  have C__law_step := c__law_step (P := l.prog) (w := w) (base := base) D__law_step C__law_whole z_len z_range
  have C__law_walk := c__law_walk (P := l.prog) (w := w) (base := base) D__law_walk C__law_step C__law_whole z_int z_isinstance z_len z_str z_tuple
  have C__law_lies := c__law_lies (P := l.prog) (w := w) (base := base) D__law_lies z_range
  have C__law_hall := c__law_hall (P := l.prog) (w := w) (base := base) D__law_hall C__law_lies z_len z_range
  have C__law_ways := c__law_ways (P := l.prog) (w := w) (base := base) D__law_ways C__law_hall C__law_lies z_list z_reversed z_sorted
  have M_Road___init__ := c_Road___init__ (P := l.prog) (w := w) (base := base) (ca := (fun n => match n with | 0 => CLetters | _ => CRoad)) D_Road___init__ z_tuple cl_Road na_Road_boxes na_Road_letters na_Road_record na_Road_sizes
  have M_Letters_add := c_Letters_add (P := l.prog) (w := w) (base := base) (ca := (fun n => match n with | 0 => CLetters | _ => CRoad)) D_Letters_add z_len cl_Letters na_Letters_line na_Letters_most
  have C_changed := c_changed (P := l.prog) (w := w) (base := base) D_changed
  have C_done := c_done (P := l.prog) (w := w) (base := base) (ca := (fun n => match n with | 0 => CLetters | _ => CRoad)) D_done C_changed M_Letters_add
  have M_Road_step := c_Road_step (P := l.prog) (w := w) (base := base) (ca := (fun n => match n with | 0 => CLetters | _ => CRoad)) D_Road_step C_done cl_Road na_Road_boxes na_Road_letters na_Road_record na_Road_sizes
  have C_goals_of := c_goals_of (P := l.prog) (w := w) (base := base) D_goals_of z_len z_list
  have C_end_of := c_end_of (P := l.prog) (w := w) (base := base) D_end_of z_len
  have C_lies_in := c_lies_in (P := l.prog) (w := w) (base := base) D_lies_in C_end_of
  have C_bears := c_bears (P := l.prog) (w := w) (base := base) D_bears C_lies_in
  have C_kids := c_kids (P := l.prog) (w := w) (base := base) D_kids C_end_of z_range
  have C_entered := c_entered (P := l.prog) (w := w) (base := base) D_entered C_bears C_kids
  have C_goings_in := c_goings_in (P := l.prog) (w := w) (base := base) D_goings_in C_entered
  have C_goings_out := c_goings_out (P := l.prog) (w := w) (base := base) D_goings_out C_lies_in z_reversed
  have C_parent := c_parent (P := l.prog) (w := w) (base := base) D_parent
  have C_hall_over := c_hall_over (P := l.prog) (w := w) (base := base) D_hall_over C_lies_in C_parent
  have C_open_kids := c_open_kids (P := l.prog) (w := w) (base := base) D_open_kids C_kids
  have C_plain_rooms := c_plain_rooms (P := l.prog) (w := w) (base := base) D_plain_rooms
  have C_kept_of := c_kept_of (P := l.prog) (w := w) (base := base) D_kept_of C_lies_in C_open_kids C_plain_rooms z_tuple
  have C_keeping := c_keeping (P := l.prog) (w := w) (base := base) D_keeping C_kept_of z_len z_range z_tuple
  have C_passed := c_passed (P := l.prog) (w := w) (base := base) (ca := (fun n => match n with | 0 => CLetters | _ => CRoad)) D_passed C_goals_of C_goings_in C_goings_out C_hall_over C_keeping z_sorted z_tuple M_Road___init__ M_Road_step cl_Road na_Road_boxes na_Road_record
  exact law_spec (f_law (P := l.prog) (w := w) (base := base) (ca := (fun n => match n with | 0 => CLetters | _ => CRoad)) F42 C__law_chart C__law_is_full C__law_parents C__law_stand C__law_walk C__law_ways C_passed z_isinstance z_len z_list z_range z_tuple M_Letters___init__) (hlaw _)
end Law
open PySem PySem.W PyProof.Rows
set_option maxRecDepth 100000 in
set_option maxHeartbeats 0 in
theorem PySem.Challenge.cw_nesthall_k24_a_door_closes_what_it_opene_holds : PySem.Challenge.rw_nesthall_k24_a_door_closes_what_it_opene.Holds := by
  w_on; o_law; k_head; (case hw => w_witness2)
  k_fill
  refine Vx.walk (l := PySem.Challenge.rw_nesthall_k24_a_door_closes_what_it_opene) (k := 56) (x := "_law_script") rfl rfl ⟨rfl, by decide, by decide⟩ (fun w h Y => PySem.W.kIn_of Y) ?F
  case F =>
    intro w mg fa h KX G hmg
    refine' Law.all_mk KX G hmg ?aC_Road ?aC_Letters ?a1 ?i1 ?l1 ?c1 ?k1 ?a2 ?l2 ?c2 ?k2 ?a3 ?l3 ?c3 ?k3 ?a4 ?l4 ?c4 ?k4 ?a5 ?l5 ?c5 ?k5 ?a6 ?l6 ?c6 ?k6 ?a7 ?l7 ?c7 ?k7 ?a8 ?l8 ?c8 ?k8 ?a9 ?l9 ?c9 ?k9 ?a10 ?l10 ?c10 ?k10 ?a11 ?l11 ?c11 ?k11 ?a12 ?l12 ?c12 ?k12 ?a13 ?l13 ?c13 ?k13 ?a14 ?l14 ?c14 ?k14 ?a15 ?l15 ?c15 ?k15 ?a16 ?l16 ?c16 ?k16 ?a17 ?l17 ?c17 ?k17 ?a18 ?l18 ?c18 ?k18 ?a19 ?l19 ?c19 ?k19 ?a20 ?l20 ?c20 ?k20 ?a21 ?l21 ?c21 ?k21 ?a22 ?i22 ?l22 ?c22 ?k22 ?a23 ?i23 ?l23 ?c23 ?k23 ?a24 ?l24 ?c24 ?k24 ?a25 ?l25 ?c25 ?k25 ?a26 ?i26 ?l26 ?c26 ?k26 ?a27 ?l27 ?c27 ?k27 ?a28 ?l28 ?c28 ?k28 ?a29 ?l29 ?c29 ?k29 ?a30 ?l30 ?c30 ?k30 ?a31 ?l31 ?c31 ?k31 ?a32 ?l32 ?c32 ?k32 ?a33 ?l33 ?c33 ?k33 ?a34 ?l34 ?c34 ?k34 ?a35 ?l35 ?c35 ?k35 ?a36 ?l36 ?c36 ?k36 ?a37 ?l37 ?c37 ?k37 ?a38 ?l38 ?c38 ?k38 ?a39 ?l39 ?c39 ?k39 ?a40 ?l40 ?c40 ?k40 ?a41 ?l41 ?c41 ?k41 ?a42 ?l42 ?c42 ?k42 ?pg_Road ?hd_Road ?po_Road ?sa_Road ?mk_Road ?kc_Road ?pg_Letters ?hd_Letters ?po_Letters ?sa_Letters ?mk_Letters ?kc_Letters ?na_Letters_line ?na_Letters_most ?na_Road_boxes ?na_Road_letters ?na_Road_record ?na_Road_sizes ?z_bool ?z_int ?z_isinstance ?z_len ?z_list ?z_max ?z_min ?z_range ?z_reversed ?z_sorted ?z_str ?z_tuple Law.law_true
    (case aC_Road => k_is)
    (case aC_Letters => k_is)
    (case a1 => k_is)
    (case i1 => k_is)
    (case l1 => k_is)
    (case c1 => k_is)
    (case k1 => k_is)
    (case a2 => k_is)
    (case l2 => k_is)
    (case c2 => k_is)
    (case k2 => k_is)
    (case a3 => k_is)
    (case l3 => k_is)
    (case c3 => k_is)
    (case k3 => k_is)
    (case a4 => k_is)
    (case l4 => k_is)
    (case c4 => k_is)
    (case k4 => k_is)
    (case a5 => k_is)
    (case l5 => k_is)
    (case c5 => k_is)
    (case k5 => k_is)
    (case a6 => k_is)
    (case l6 => k_is)
    (case c6 => k_is)
    (case k6 => k_is)
    (case a7 => k_is)
    (case l7 => k_is)
    (case c7 => k_is)
    (case k7 => k_is)
    (case a8 => k_is)
    (case l8 => k_is)
    (case c8 => k_is)
    (case k8 => k_is)
    (case a9 => k_is)
    (case l9 => k_is)
    (case c9 => k_is)
    (case k9 => k_is)
    (case a10 => k_is)
    (case l10 => k_is)
    (case c10 => k_is)
    (case k10 => k_is)
    (case a11 => k_is)
    (case l11 => k_is)
    (case c11 => k_is)
    (case k11 => k_is)
    (case a12 => k_is)
    (case l12 => k_is)
    (case c12 => k_is)
    (case k12 => k_is)
    (case a13 => k_is)
    (case l13 => k_is)
    (case c13 => k_is)
    (case k13 => k_is)
    (case a14 => k_is)
    (case l14 => k_is)
    (case c14 => k_is)
    (case k14 => k_is)
    (case a15 => k_is)
    (case l15 => k_is)
    (case c15 => k_is)
    (case k15 => k_is)
    (case a16 => k_is)
    (case l16 => k_is)
    (case c16 => k_is)
    (case k16 => k_is)
    (case a17 => k_is)
    (case l17 => k_is)
    (case c17 => k_is)
    (case k17 => k_is)
    (case a18 => k_is)
    (case l18 => k_is)
    (case c18 => k_is)
    (case k18 => k_is)
    (case a19 => k_is)
    (case l19 => k_is)
    (case c19 => k_is)
    (case k19 => k_is)
    (case a20 => k_is)
    (case l20 => k_is)
    (case c20 => k_is)
    (case k20 => k_is)
    (case a21 => k_is)
    (case l21 => k_is)
    (case c21 => k_is)
    (case k21 => k_is)
    (case a22 => k_is)
    (case i22 => k_is)
    (case l22 => k_is)
    (case c22 => k_is)
    (case k22 => k_is)
    (case a23 => k_is)
    (case i23 => k_is)
    (case l23 => k_is)
    (case c23 => k_is)
    (case k23 => k_is)
    (case a24 => k_is)
    (case l24 => k_is)
    (case c24 => k_is)
    (case k24 => k_is)
    (case a25 => k_is)
    (case l25 => k_is)
    (case c25 => k_is)
    (case k25 => k_is)
    (case a26 => k_is)
    (case i26 => k_is)
    (case l26 => k_is)
    (case c26 => k_is)
    (case k26 => k_is)
    (case a27 => k_is)
    (case l27 => k_is)
    (case c27 => k_is)
    (case k27 => k_is)
    (case a28 => k_is)
    (case l28 => k_is)
    (case c28 => k_is)
    (case k28 => k_is)
    (case a29 => k_is)
    (case l29 => k_is)
    (case c29 => k_is)
    (case k29 => k_is)
    (case a30 => k_is)
    (case l30 => k_is)
    (case c30 => k_is)
    (case k30 => k_is)
    (case a31 => k_is)
    (case l31 => k_is)
    (case c31 => k_is)
    (case k31 => k_is)
    (case a32 => k_is)
    (case l32 => k_is)
    (case c32 => k_is)
    (case k32 => k_is)
    (case a33 => k_is)
    (case l33 => k_is)
    (case c33 => k_is)
    (case k33 => k_is)
    (case a34 => k_is)
    (case l34 => k_is)
    (case c34 => k_is)
    (case k34 => k_is)
    (case a35 => k_is)
    (case l35 => k_is)
    (case c35 => k_is)
    (case k35 => k_is)
    (case a36 => k_is)
    (case l36 => k_is)
    (case c36 => k_is)
    (case k36 => k_is)
    (case a37 => k_is)
    (case l37 => k_is)
    (case c37 => k_is)
    (case k37 => k_is)
    (case a38 => k_is)
    (case l38 => k_is)
    (case c38 => k_is)
    (case k38 => k_is)
    (case a39 => k_is)
    (case l39 => k_is)
    (case c39 => k_is)
    (case k39 => k_is)
    (case a40 => k_is)
    (case l40 => k_is)
    (case c40 => k_is)
    (case k40 => k_is)
    (case a41 => k_is)
    (case l41 => k_is)
    (case c41 => k_is)
    (case k41 => k_is)
    (case a42 => k_is)
    (case l42 => k_is)
    (case c42 => k_is)
    (case k42 => k_is)
    (case pg_Road => k_is)
    (case hd_Road => k_is)
    (case po_Road => k_is)
    (case sa_Road => k_is)
    (case mk_Road => k_is)
    (case kc_Road => k_is)
    (case pg_Letters => k_is)
    (case hd_Letters => k_is)
    (case po_Letters => k_is)
    (case sa_Letters => k_is)
    (case mk_Letters => k_is)
    (case kc_Letters => k_is)
    (case na_Letters_line => k_is)
    (case na_Letters_most => k_is)
    (case na_Road_boxes => k_is)
    (case na_Road_letters => k_is)
    (case na_Road_record => k_is)
    (case na_Road_sizes => k_is)
    (case z_bool => k_is)
    (case z_int => k_is)
    (case z_isinstance => k_is)
    (case z_len => k_is)
    (case z_list => k_is)
    (case z_max => k_is)
    (case z_min => k_is)
    (case z_range => k_is)
    (case z_reversed => k_is)
    (case z_sorted => k_is)
    (case z_str => k_is)
    (case z_tuple => k_is)
