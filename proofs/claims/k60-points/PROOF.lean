import PyProof.Rows.All
import Wide.All
import OpenK.AllK
import Wide.FinOn
import HandS.ForMost
import HandS.Flow
import HandS.Wide
import HandS.Zip
import HandS.TupAny
import HandS.Deep
import HandS.Style
import HandS.IsInst
import HandS.NoneIn
import HandS.Codes
import HandS.Defaults
import HandS.Head0
import HandS.Head1
import HandS.Head2
import HandS.HeadEnd
import HandS.HeadHook1
import HandS.HeadHook2
import HandS.HeadHook3
import HandS.HeadHook4
import KE.KRevSl
import HandS.ForExc
import HandS.ExcInit
import HandS.HotCalls
import HandS.ExcField
import HandS.CallLocal
import KE.KExcIs
import HandS.ExcIs
import HandS.Dict
import HandS.TupMul
import PyProof.StrOps2
import HandS.TupLe
import KE.DataMinMax
import KE.SortData
import PySem.Challenge.RW_pricebend_k60_points_and_ways
set_option linter.all false
set_option maxRecDepth 100000
/-! PB1: data by value, and what statements do to it, as plain functions. -/
namespace PB
/-- data -/
inductive D where
  | non | bl (b : Bool) | int (i : Int) | str (s : List Nat) | tup (ds : List D) | lst (ds : List D) | ref (a : Nat)
instance : Inhabited D := ⟨.non⟩
structure Xn where
  cls : Nat
  fld : Option D
/-- what a piece of code comes to: a value, an exception, or it is not known -/
inductive Rs (γ α : Type) where
  | ok (a : α) (g : γ) | ex (x : Xn) (g : γ) | no
/-- a name's slot: nothing known; data; a list that this name alone holds; a caught exception; a thing that stands beside -/
inductive Sl where
  | un | dat (d : D) | own (ds : List D) | xc (x : Xn) | gh (k : Nat)
/-- a value: data that may be kept; a new list; a list that a name holds -/
inductive Rv where
  | dat (d : D) | own (ds : List D) | bor (ds : List D)
abbrev Env := List Sl
inductive Fl where
  | nx (e : Env) | rt (r : Rv) | bk (e : Env) | ct (e : Env)
section
variable {γ α β : Type}
def Rs.bind (m : Rs γ α) (f : α → γ → Rs γ β) : Rs γ β := match m with
  | .ok a g => f a g
  | .ex x g => .ex x g
  | .no => .no
@[simp] theorem Rs.bind_ok (a : α) (g : γ) (f : α → γ → Rs γ β) : (Rs.ok a g).bind f = f a g := rfl
@[simp] theorem Rs.bind_no (f : α → γ → Rs γ β) : (Rs.no : Rs γ α).bind f = .no := rfl
@[simp] theorem Rs.bind_ex (x : Xn) (g : γ) (f : α → γ → Rs γ β) : (Rs.ex x g).bind f = .ex x g := rfl
def ofO (o : Option α) (g : γ) : Rs γ α := match o with
  | some a => .ok a g
  | none => .no
@[simp] theorem ofO_some (a : α) (g : γ) : ofO (some a) g = Rs.ok a g := rfl
@[simp] theorem ofO_none (g : γ) : (ofO none g : Rs γ α) = Rs.no := rfl
end
abbrev ME (γ : Type) := Env → γ → Rs γ Rv
abbrev MT (γ : Type) := Env → γ → Rs γ Bool
abbrev MA (γ : Type) := Env → γ → Rs γ (List Rv)
abbrev MI (γ : Type) := Env → γ → Rs γ (List D)
abbrev MS (γ : Type) := Env → γ → Rs γ Fl
/-- a def: its arguments, what it comes to -/
abbrev MF (γ : Type) := List D → γ → Rs γ Rv
def gt : Env → Nat → Sl
  | [], _ => .un
  | s :: _, 0 => s
  | _ :: r, i + 1 => gt r i
def st : Env → Nat → Sl → Env
  | [], _, _ => []
  | _ :: r, 0, x => x :: r
  | s :: r, i + 1, x => s :: st r i x
@[simp] def Rv.val : Rv → D
  | .dat d => d
  | .own ds => .lst ds
  | .bor ds => .lst ds
/-- the value as it may be kept within something -/
@[simp] def Rv.sto : Rv → Option D
  | .dat d => some d
  | .own ds => some (.lst ds)
  | .bor _ => none
/-- .. as a slot's -/
@[simp] def Rv.slot : Rv → Option Sl
  | .dat d => some (.dat d)
  | .own ds => some (.own ds)
  | .bor _ => none
/-- the items of a list of either kind -/
@[simp] def Rv.items : Rv → Option (List D)
  | .dat (.lst ds) => some ds
  | .own ds => some ds
  | .bor ds => some ds
  | _ => none
def stoL : List Rv → Option (List D)
  | [] => some []
  | r :: rs => match r.sto, stoL rs with
    | some d, some ds => some (d :: ds)
    | _, _ => none
abbrev SZ : Nat := 16777216

/-! ### places -/
def ixN (n : Nat) (i : Int) : Option Nat := if 0 ≤ i then (if i < n then some i.toNat else none) else if -(n : Int) ≤ i then some (i + n).toNat else none
def atI {α : Type} (xs : List α) (i : Int) : Option α := (ixN xs.length i).bind fun j => xs[j]?
def sIx (n d : Nat) : Option Int → Nat
  | none => d
  | some v => if v < 0 then (v + (n : Int)).toNat else min v.toNat n
def cut {α : Type} (xs : List α) (lo hi : Option Int) : List α := (xs.drop (sIx xs.length 0 lo)).take (sIx xs.length xs.length hi - sIx xs.length 0 lo)

/-! ### == -/
mutual
def eqv : D → D → Bool
  | .non, .non => true
  | .bl a, .bl b => a == b
  | .bl a, .int j => (if a then 1 else 0) == j
  | .int i, .bl b => i == (if b then 1 else 0)
  | .int i, .int j => i == j
  | .str x, .str y => x == y
  | .tup xs, .tup ys => eqvL xs ys
  | .lst xs, .lst ys => eqvL xs ys
  | _, _ => false
def eqvL : List D → List D → Bool
  | [], [] => true
  | x :: xs, y :: ys => eqv x y && eqvL xs ys
  | _, _ => false
end
mutual
/-- no references within, not deeper than n -/
def okE : Nat → D → Bool
  | _, .non => true
  | _, .bl _ => true
  | _, .int _ => true
  | _, .str _ => true
  | 0, .tup _ => false
  | 0, .lst _ => false
  | n + 1, .tup ds => okL n ds
  | n + 1, .lst ds => okL n ds
  | _, .ref _ => false
def okL : Nat → List D → Bool
  | _, [] => true
  | n, d :: ds => okE n d && okL n ds
end
/-- scalars -/
@[simp] def scl : D → Bool
  | .non => true | .bl _ => true | .int _ => true | .str _ => true | _ => false
def eqD (x y : D) : Option Bool := if okE 60 x = true ∧ okE 60 y = true then some (eqv x y) else none

/-! ### operations -/
abbrev Op1 := Rv → Option Rv
abbrev Op2 := Rv → Rv → Option Rv
def MulOk (i j : Int) : Prop := i.natAbs.log2 + j.natAbs.log2 < 1000000
instance (i j : Int) : Decidable (MulOk i j) := inferInstanceAs (Decidable (_ < _))
def DivOk (j : Int) : Prop := 0 < j ∧ j.natAbs.log2 < 9000
instance (j : Int) : Decidable (DivOk j) := inferInstanceAs (Decidable (_ ∧ _))
def PowOk (i j : Int) : Prop := 0 ≤ j ∧ j ≤ 1000000 ∧ i.natAbs < 2 ^ 64
instance (i j : Int) : Decidable (PowOk i j) := inferInstanceAs (Decidable (_ ∧ _))
def RngOk (n : Int) : Prop := n.natAbs.log2 < 62
instance (n : Int) : Decidable (RngOk n) := inferInstanceAs (Decidable (_ < _))
/-- a + b -/
def oAdd : Op2
  | .dat (.int i), .dat (.int j) => some (.dat (.int (i + j)))
  | .dat (.str s), .dat (.str t) => if s.length + t.length ≤ SZ then some (.dat (.str (s ++ t))) else none
  | .dat (.tup s), .dat (.tup t) => if s.length + t.length ≤ SZ then some (.dat (.tup (s ++ t))) else none
  | x, y => match x.items, y.items with
    | some s, some t => if s.length + t.length ≤ SZ then some (.own (s ++ t)) else none
    | _, _ => none
def oSub : Op2
  | .dat (.int i), .dat (.int j) => some (.dat (.int (i - j)))
  | _, _ => none
def oMul : Op2
  | .dat (.int i), .dat (.int j) => if MulOk i j then some (.dat (.int (i * j))) else none
  | _, _ => none
/-- a list, so many times -/
def oRep : Op2
  | x, .dat (.int k) => match x.items with
    | some ds => if ds.length * k.toNat ≤ SZ ∧ RngOk k then some (.own (List.replicate k.toNat ds).flatten) else none
    | none => none
  | _, _ => none
def oDiv : Op2
  | .dat (.int i), .dat (.int j) => if DivOk j then some (.dat (.int (i / j))) else none
  | _, _ => none
def oMod : Op2
  | .dat (.int i), .dat (.int j) => if 0 < j then some (.dat (.int (i % j))) else none
  | _, _ => none
def oPow : Op2
  | .dat (.int i), .dat (.int j) => if PowOk i j then some (.dat (.int (i ^ j.toNat))) else none
  | _, _ => none
def oNeg : Op1
  | .dat (.int i) => some (.dat (.int (-i)))
  | _ => none
def dB (b : Bool) : Rv := .dat (.bl b)
def oEq : Op2 := fun x y => (eqD x.val y.val).map dB
def oNe : Op2 := fun x y => (eqD x.val y.val).map fun b => dB (!b)
/-- the order of lists of numbers (Python's) -/
def lexN : List Nat → List Nat → Bool
  | [], [] => false
  | [], _ :: _ => true
  | _ :: _, [] => false
  | x :: xs, y :: ys => if x = y then lexN xs ys else decide (x < y)
def oLt : Op2
  | .dat (.int i), .dat (.int j) => some (dB (decide (i < j)))
  | _, _ => none
def oLe : Op2
  | .dat (.int i), .dat (.int j) => some (dB (decide (i ≤ j)))
  | _, _ => none
def oGt : Op2
  | .dat (.int i), .dat (.int j) => some (dB (decide (j < i)))
  | _, _ => none
def oGe : Op2
  | .dat (.int i), .dat (.int j) => some (dB (decide (j ≤ i)))
  | _, _ => none
@[simp] def isNon : D → Bool
  | .non => true
  | _ => false
def oIsN : Op1
  | .dat (.ref _) => none
  | x => some (dB (isNon x.val))
def oNotN : Op1
  | .dat (.ref _) => none
  | x => some (dB (!isNon x.val))
/-- x is True, x is False -/
def oIsB (b : Bool) : Op1
  | .dat (.bl c) => some (dB (decide (c = b)))
  | _ => none
def oNotB (b : Bool) : Op1
  | .dat (.bl c) => some (dB (!decide (c = b)))
  | _ => none
/-- x in a list or tuple -/
def oIn : Op2
  | .dat x, .dat (.tup ds) => if scl x = true ∧ ds.all scl = true then some (dB (ds.any fun d => eqv d x)) else none
  | x, y => match y.items with
    | some ds => if okE 60 x.val = true ∧ okL 59 ds = true then some (dB (ds.any fun d => eqv d x.val)) else none
    | none => none
def oNi : Op2
  | .dat x, .dat (.tup ds) => if scl x = true ∧ ds.all scl = true then some (dB (!ds.any fun d => eqv d x)) else none
  | x, y => match y.items with
    | some ds => if okE 60 x.val = true ∧ okL 59 ds = true then some (dB (!ds.any fun d => eqv d x.val)) else none
    | none => none
/-- one sign in a text -/
def oInS : Op2
  | .dat (.str [c]), .dat (.str s) => some (dB (decide (c ∈ s)))
  | _, _ => none
def oNiS : Op2
  | .dat (.str [c]), .dat (.str s) => some (dB (!decide (c ∈ s)))
  | _, _ => none
/-- a[i] -/
def oIx : Op2
  | .dat (.tup ds), .dat (.int i) => (atI ds i).map .dat
  | .dat (.str s), .dat (.int i) => (atI s i).map fun c => .dat (.str [c])
  | x, .dat (.int i) => match x.items with
    | some ds => (atI ds i).map .dat
    | none => none
  | _, _ => none
/-- a[lo:hi] -/
def oCut (x : Rv) (lo hi : Option Int) : Option Rv := match x with
  | .dat (.tup ds) => some (.dat (.tup (cut ds lo hi)))
  | .dat (.str s) => some (.dat (.str (cut s lo hi)))
  | x => match x.items with
    | some ds => some (.own (cut ds lo hi))
    | none => none
/-! calls of built-ins: the values of the arguments -/
abbrev OpN := List Rv → Option Rv
def oLen : OpN
  | [.dat (.str s)] => some (.dat (.int s.length))
  | [.dat (.tup ds)] => some (.dat (.int ds.length))
  | [x] => x.items.map fun ds => .dat (.int ds.length)
  | _ => none
def oAbs : OpN
  | [.dat (.int i)] => some (.dat (.int (if i < 0 then -i else i)))
  | _ => none
def oMax2 : OpN
  | [.dat (.int i), .dat (.int j)] => some (.dat (.int (if j > i then j else i)))
  | _ => none
def oMin2 : OpN
  | [.dat (.int i), .dat (.int j)] => some (.dat (.int (if j < i then j else i)))
  | _ => none
/-- a list of dInts -/
def dInts : List D → Option (List Int)
  | [] => some []
  | .int i :: ds => (dInts ds).map (i :: ·)
  | _ :: _ => none
def dBls : List D → Option (List Bool)
  | [] => some []
  | .bl b :: ds => (dBls ds).map (b :: ·)
  | _ :: _ => none
def dStrs : List D → Option (List (List Nat))
  | [] => some []
  | .str b :: ds => (dStrs ds).map (b :: ·)
  | _ :: _ => none
def oSum : OpN
  | [x] => match x.items with
    | some ds => (dInts ds).map fun ns => .dat (.int ns.sum)
    | none => none
  | _ => none
def lmax : Int → List Int → Int
  | m, [] => m
  | m, x :: xs => lmax (if x > m then x else m) xs
def lmin : Int → List Int → Int
  | m, [] => m
  | m, x :: xs => lmin (if x < m then x else m) xs
def oMaxL : OpN
  | [x] => match x.items with
    | some ds => match dInts ds with
      | some (n :: ns) => some (.dat (.int (lmax n ns)))
      | _ => none
    | none => none
  | _ => none
def oMinL : OpN
  | [x] => match x.items with
    | some ds => match dInts ds with
      | some (n :: ns) => some (.dat (.int (lmin n ns)))
      | _ => none
    | none => none
  | _ => none
def oAll : OpN
  | [x] => match x.items with
    | some ds => (dBls ds).map fun bs => dB (bs.all id)
    | none => none
  | _ => none
def oAny : OpN
  | [x] => match x.items with
    | some ds => (dBls ds).map fun bs => dB (bs.any id)
    | none => none
  | _ => none
/-- tuple(x) -/
def oTuple : OpN
  | [.dat (.tup ds)] => some (.dat (.tup ds))
  | [x] => x.items.map fun ds => .dat (.tup ds)
  | _ => none
/-- list(x) of a list or tuple -/
def oList : OpN
  | [.dat (.tup ds)] => some (.own ds)
  | [x] => x.items.map fun ds => .own ds
  | _ => none
/-- int(x) of an int, a bool -/
def oInt : OpN
  | [.dat (.int i)] => some (.dat (.int i))
  | [.dat (.bl b)] => some (.dat (.int (if b then 1 else 0)))
  | _ => none
/-- isinstance(x, T), T a built-in class -/
inductive Ty where
  | int | bool | str | tuple | list
@[simp] def isTy : Ty → D → Bool
  | .int, .int _ => true
  | .int, .bl _ => true
  | .bool, .bl _ => true
  | .str, .str _ => true
  | .tuple, .tup _ => true
  | .list, .lst _ => true
  | _, _ => false
def oIs (T : Ty) : Op1
  | .dat (.ref _) => none
  | x => some (dB (isTy T x.val))
def joinL (sep : List Nat) : List (List Nat) → List Nat
  | [] => []
  | [x] => x
  | x :: y :: r => x ++ sep ++ joinL sep (y :: r)
/-- sep.join(xs) -/
def oJoin (sep : List Nat) (x : Rv) : Option Rv := match x.items with
  | some ds => match dStrs ds with
    | some ss => if (ss.map List.length).sum + sep.length * ss.length ≤ SZ then some (.dat (.str (joinL sep ss))) else none
    | none => none
  | none => none
/-- the truth of a value -/
def oTru : Rv → Option Bool
  | .dat .non => some false
  | .dat (.bl b) => some b
  | .dat (.int i) => some (i != 0)
  | .dat (.str s) => some (!s.isEmpty)
  | .dat (.tup s) => some (!s.isEmpty)
  | .dat (.ref _) => none
  | x => x.items.map fun ds => !ds.isEmpty

/-! ### expressions -/
section
variable {γ : Type}
def mVar (i : Nat) : ME γ := fun e g => match gt e i with
  | .dat d => .ok (.dat d) g
  | .own ds => .ok (.bor ds) g
  | _ => .no
def mC (d : D) : ME γ := fun _ g => .ok (.dat d) g
def mOp1 (f : Op1) (a : ME γ) : ME γ := fun e g => (a e g).bind fun x g1 => ofO (f x) g1
def mOp2 (f : Op2) (a b : ME γ) : ME γ := fun e g => (a e g).bind fun x g1 => (b e g1).bind fun y g2 => ofO (f x y) g2
def mNil : MA γ := fun _ g => .ok [] g
def mCons (a : ME γ) (r : MA γ) : MA γ := fun e g => (a e g).bind fun x g1 => (r e g1).bind fun xs g2 => .ok (x :: xs) g2
def mOpN (f : OpN) (a : MA γ) : ME γ := fun e g => (a e g).bind fun xs g1 => ofO (f xs) g1
def mTup (a : MA γ) : ME γ := fun e g => (a e g).bind fun xs g1 => match stoL xs with
  | some ds => if ds.length ≤ SZ then .ok (.dat (.tup ds)) g1 else .no
  | none => .no
def mLst (a : MA γ) : ME γ := fun e g => (a e g).bind fun xs g1 => match stoL xs with
  | some ds => if ds.length ≤ SZ then .ok (.own ds) g1 else .no
  | none => .no
/-- a[lo:hi], the ends written or left out -/
def mPart (a : Option (ME γ)) (e : Env) (g : γ) : Rs γ (Option Int) := match a with
  | none => .ok none g
  | some m => (m e g).bind fun x g1 => match x with
    | .dat (.int i) => .ok (some i) g1
    | _ => .no
def mCut (a : ME γ) (lo hi : Option (ME γ)) : ME γ := fun e g => (a e g).bind fun x g1 => (mPart lo e g1).bind fun l g2 => (mPart hi e g2).bind fun h g3 => ofO (oCut x l h) g3
/-- a < b < c -/
def mChain (f f' : Op2) (a b c : ME γ) : ME γ := fun e g => (a e g).bind fun x g1 => (b e g1).bind fun y g2 => match f x y with
  | some (.dat (.bl true)) => (c e g2).bind fun z g3 => ofO (f' y z) g3
  | some (.dat (.bl false)) => .ok (dB false) g2
  | _ => .no
def mIf (t : MT γ) (a b : ME γ) : ME γ := fun e g => (t e g).bind fun c g1 => match c with
  | true => a e g1
  | false => b e g1
/-- and, or, not of truths, as values -/
def mAndV (a b : ME γ) : ME γ := fun e g => (a e g).bind fun x g1 => match x with
  | .dat (.bl true) => b e g1
  | .dat (.bl false) => .ok (dB false) g1
  | _ => .no
def mOrV (a b : ME γ) : ME γ := fun e g => (a e g).bind fun x g1 => match x with
  | .dat (.bl true) => .ok (dB true) g1
  | .dat (.bl false) => b e g1
  | _ => .no
def mNotV (a : ME γ) : ME γ := fun e g => (a e g).bind fun x g1 => match x with
  | .dat (.bl c) => .ok (dB (!c)) g1
  | _ => .no
/-- tests -/
def mTest (a : ME γ) : MT γ := fun e g => (a e g).bind fun x g1 => match x with
  | .dat (.bl c) => .ok c g1
  | _ => .no
def mTru (a : ME γ) : MT γ := fun e g => (a e g).bind fun x g1 => ofO (oTru x) g1
def mAnd (a b : MT γ) : MT γ := fun e g => (a e g).bind fun c g1 => match c with
  | true => b e g1
  | false => .ok false g1
def mOr (a b : MT γ) : MT γ := fun e g => (a e g).bind fun c g1 => match c with
  | true => .ok true g1
  | false => b e g1
def mNot (a : MT γ) : MT γ := fun e g => (a e g).bind fun c g1 => .ok (!c) g1
/-- the call of a def that no exception leaves: no list that a name holds is handed in -/
def okO {α : Type} (r : Rs γ α) : Rs γ α := match r with
  | .ok a g => .ok a g
  | _ => .no
def mCall (F : MF γ) (a : MA γ) : ME γ := fun e g => (a e g).bind fun xs g1 => match stoL xs with
  | some ds => okO (F ds g1)
  | none => .no
/-- a text's method, of one argument, of none -/
def mS1 (f : List Nat → Rv → Option Rv) (a b : ME γ) : ME γ := fun e g => (a e g).bind fun x g1 => match x with
  | .dat (.str s) => (b e g1).bind fun y g2 => ofO (f s y) g2
  | _ => .no
def mS0 (f : List Nat → Option Rv) (a : ME γ) : ME γ := fun e g => (a e g).bind fun x g1 => match x with
  | .dat (.str s) => ofO (f s) g1
  | _ => .no

/-! ### what is walked -/
def seqOf : Rv → Option (List D)
  | .dat (.tup ds) => some ds
  | .dat (.lst ds) => some ds
  | .own ds => some ds
  | _ => none
def mItems (a : ME γ) : MI γ := fun e g => (a e g).bind fun x g1 => ofO (seqOf x) g1
def rng (i : Int) : Nat → List D
  | 0 => []
  | n + 1 => .int i :: rng (i + 1) n
def mRange1 (a : ME γ) : MI γ := fun e g => (a e g).bind fun x g1 => match x with
  | .dat (.int n) => if RngOk n then .ok (rng 0 n.toNat) g1 else .no
  | _ => .no
def zipD : List D → List D → List D
  | x :: xs, y :: ys => .tup [x, y] :: zipD xs ys
  | _, _ => []
/-- zip of two lists, of two tuples -/
def zip2 : Rv → Rv → Option (List D)
  | .dat (.tup xs), .dat (.tup ys) => some (zipD xs ys)
  | .dat (.lst xs), .dat (.lst ys) => some (zipD xs ys)
  | .dat (.lst xs), .own ys => some (zipD xs ys)
  | .own xs, .dat (.lst ys) => some (zipD xs ys)
  | .own xs, .own ys => some (zipD xs ys)
  | _, _ => none
def mZip2 (a b : ME γ) : MI γ := fun e g => (a e g).bind fun x g1 => (b e g1).bind fun y g2 => ofO (zip2 x y) g2
def mSigns (a : ME γ) : MI γ := fun e g => (a e g).bind fun x g1 => match x with
  | .dat (.str s) => .ok (s.map fun c => .str [c]) g1
  | _ => .no

/-! ### targets -/
abbrev MG := D → Env → Option Env
def tgN (i : Nat) : MG := fun d e => some (st e i (.dat d))
def tgL : List Nat → List D → Env → Option Env
  | [], [], e => some e
  | i :: is, d :: ds, e => tgL is ds (st e i (.dat d))
  | _, _, _ => none
def tgT (is : List Nat) : MG := fun d e => match d with
  | .tup ds => tgL is ds e
  | _ => none

/-! ### list comprehensions: own: the slots of its names -/
def wp : Env → List Nat → Env
  | e, [] => e
  | e, i :: is => wp (st e i .un) is
def lcL (tg : MG) (c : MT γ) (a : ME γ) (e : Env) : List D → List D → γ → Rs γ Rv
  | [], acc, g => .ok (.own acc) g
  | d :: ds, acc, g => match tg d e with
    | none => .no
    | some e1 => match c e1 g with
      | .ok true g1 => match a e1 g1 with
        | .ok r g2 => match r.sto with
          | some y => if acc.length < SZ then lcL tg c a e ds (acc ++ [y]) g2 else .no
          | none => .no
        | _ => .no
      | .ok false g1 => lcL tg c a e ds acc g1
      | _ => .no
def mLc (src : MI γ) (tg : MG) (c : MT γ) (a : ME γ) (own : List Nat) : ME γ := fun e g => (src e g).bind fun ds g1 => lcL tg c a (wp e own) ds [] g1
def mYes : MT γ := fun _ g => .ok true g

/-! ### statements -/
def mSeq (a b : MS γ) : MS γ := fun e g => (a e g).bind fun f g1 => match f with
  | .nx e1 => b e1 g1
  | .rt r => .ok (.rt r) g1
  | .bk e1 => .ok (.bk e1) g1
  | .ct e1 => .ok (.ct e1) g1
def mPass : MS γ := fun e g => .ok (.nx e) g
def mSet (i : Nat) (a : ME γ) : MS γ := fun e g => (a e g).bind fun x g1 => match x.slot with
  | some s => .ok (.nx (st e i s)) g1
  | none => .no
def mTgt (tg : MG) (a : ME γ) : MS γ := fun e g => (a e g).bind fun x g1 => match x with
  | .dat d => match tg d e with
    | some e1 => .ok (.nx e1) g1
    | none => .no
  | _ => .no
/-- a, b = x, y -/
def mPar (i j : Nat) (a b : ME γ) : MS γ := fun e g => (a e g).bind fun x g1 => (b e g1).bind fun y g2 => match x, y with
  | .dat x, .dat y => .ok (.nx (st (st e i (.dat x)) j (.dat y))) g2
  | _, _ => .no
/-- x op= e -/
def mAug (i : Nat) (f : Op2) (a : ME γ) : MS γ := fun e g => match gt e i with
  | .dat d => (a e g).bind fun y g1 => match f (.dat d) y with
    | some r => match r.slot with
      | some s => .ok (.nx (st e i s)) g1
      | none => .no
    | none => .no
  | _ => .no
def mDrop (a : ME γ) : MS γ := fun e g => (a e g).bind fun _ g1 => .ok (.nx e) g1
def mRet (a : ME γ) : MS γ := fun e g => (a e g).bind fun x g1 => .ok (.rt x) g1
def mRetN : MS γ := fun _ g => .ok (.rt (.dat .non)) g
def mIfS (t : MT γ) (a b : MS γ) : MS γ := fun e g => (t e g).bind fun c g1 => match c with
  | true => a e g1
  | false => b e g1
def mBreak : MS γ := fun e g => .ok (.bk e) g
def mCont : MS γ := fun e g => .ok (.ct e) g
/-- a name's own list is from now on data -/
def mFrz (i : Nat) : MS γ := fun e g => match gt e i with
  | .own ds => .ok (.nx (st e i (.dat (.lst ds)))) g
  | _ => .ok (.nx e) g
/-- x.append(e) -/
def mApp (i : Nat) (a : ME γ) : MS γ := fun e g => match gt e i with
  | .own ds => (a e g).bind fun y g1 => match y.sto with
    | some d => if ds.length < SZ then .ok (.nx (st e i (.own (ds ++ [d])))) g1 else .no
    | none => .no
  | _ => .no
/-- x[k] = e -/
def mPut (i : Nat) (k a : ME γ) : MS γ := fun e g => (a e g).bind fun y g1 => match gt e i with
  | .own ds => (k e g1).bind fun z g2 => match y.sto, z with
    | some d, .dat (.int n) => match ixN ds.length n with
      | some j => .ok (.nx (st e i (.own (ds.set j d)))) g2
      | none => .no
    | _, _ => .no
  | _ => .no
def forL (tg : MG) (b : MS γ) : List D → MS γ
  | [], e, g => .ok (.nx e) g
  | d :: ds, e, g => match tg d e with
    | none => .no
    | some e1 => match b e1 g with
      | .ok (.nx e2) g2 => forL tg b ds e2 g2
      | .ok (.ct e2) g2 => forL tg b ds e2 g2
      | .ok (.bk e2) g2 => .ok (.nx e2) g2
      | .ok (.rt r) g2 => .ok (.rt r) g2
      | .ex x g2 => .ex x g2
      | .no => .no
def mFor (src : MI γ) (tg : MG) (b : MS γ) : MS γ := fun e g => (src e g).bind fun ds g1 => forL tg b ds e g1
def mWhile (c : MT γ) (b : MS γ) : Nat → MS γ
  | 0, _, _ => .no
  | n + 1, e, g => match c e g with
    | .ok true g1 => match b e g1 with
      | .ok (.nx e2) g2 => mWhile c b n e2 g2
      | .ok (.ct e2) g2 => mWhile c b n e2 g2
      | .ok (.bk e2) g2 => .ok (.nx e2) g2
      | .ok (.rt r) g2 => .ok (.rt r) g2
      | .ex x g2 => .ex x g2
      | .no => .no
    | .ok false g1 => .ok (.nx e) g1
    | .ex x g1 => .ex x g1
    | .no => .no
/-- what is handed back: a list that a name of the def held is new for the caller -/
@[simp] def Rv.ret : Rv → Rv
  | .bor ds => .own ds
  | r => r
/-- a def: its slots' number, its body -/
def mDef (n : Nat) (k : Nat) (b : MS γ) : MF γ := fun ds g => if ds.length = k then (match b (ds.map Sl.dat ++ List.replicate (n - k) .un) g with
  | .ok (.nx _) g1 => .ok (.dat .non) g1
  | .ok (.rt r) g1 => .ok r.ret g1
  | .ok (.bk _) _ => .no
  | .ok (.ct _) _ => .no
  | .ex x g1 => .ex x g1
  | .no => .no) else .no
end
/-- x += e of a name: numbers, texts -/
def oIAdd : Op2 := fun x y => match x, y with
  | .dat (.int _), .dat (.int _) => oAdd x y
  | .dat (.str _), .dat (.str _) => oAdd x y
  | _, _ => none
/-- is of truths -/
def oIs2 : Op2
  | .dat (.bl a), .dat (.bl b) => some (dB (decide (a = b)))
  | _, _ => none
def oIsNot2 : Op2
  | .dat (.bl a), .dat (.bl b) => some (dB (!decide (a = b)))
  | _, _ => none
/-- t[k], t a table of texts -/
def mTab {γ : Type} (tab : List (List Nat × D)) (k : ME γ) : ME γ := fun e g => (k e g).bind fun y g1 => match y with
  | .dat (.str s) => ofO ((tab.find? (fun q => q.1 == s)).map fun q => .dat q.2) g1
  | _ => .no
/-- a.f(b), a a list, what is told a number -/
def mLm {γ : Type} (f : List D → D → Option Int) (a b : ME γ) : ME γ := fun e g => (a e g).bind fun x g1 => match x.items with
  | some l => (b e g1).bind fun y g2 => ofO ((f l y.val).map fun n => .dat (.int n)) g2
  | none => .no
def oCount (l : List D) (y : D) : Option Int := if okE 60 y = true ∧ okL 59 l = true then some ((l.countP fun d => eqv d y : Nat) : Int) else none
def oIndex (l : List D) (y : D) : Option Int := if okE 60 y = true ∧ okL 59 l = true then (l.findIdx? fun d => eqv d y).map fun j => ((j : Nat) : Int) else none
/-- x[::-1] -/
def oRev : Op1
  | .dat (.tup ds) => some (.dat (.tup ds.reverse))
  | .dat (.str s) => some (.dat (.str s.reverse))
  | x => x.items.map fun ds => .own ds.reverse
/-- a, b, .. = a list -/
def mTgtL {γ : Type} (is : List Nat) (a : ME γ) : MS γ := fun e g => (a e g).bind fun x g1 => match x.items with
  | some ds => match tgL is ds e with
    | some e1 => .ok (.nx e1) g1
    | none => .no
  | none => .no
/-! ### exceptions -/
/-- raise C('..') -/
def mRaise {γ : Type} (n : Nat) : MS γ := fun _ g => .ex ⟨n, none⟩ g
/-- raise C(e), C keeps e in its field -/
def mRaiseF {γ : Type} (n : Nat) (a : ME γ) : MS γ := fun e g => (a e g).bind fun x g1 => match x with
  | .dat d => if scl d = true then .ex ⟨n, some d⟩ g1 else .no
  | _ => .no
/-- the call of a def that an exception may leave -/
def mCallX {γ : Type} (F : MF γ) (a : MA γ) : ME γ := fun e g => (a e g).bind fun xs g1 => match stoL xs with
  | some ds => F ds g1
  | none => .no
/-- .. of a def that the slot i holds: it stands at a0 -/
def mCallR {γ : Type} (i a0 : Nat) (F : MF γ) (a : MA γ) : ME γ := fun e g => match gt e i with
  | .dat (.ref b) => if b = a0 then mCallX F a e g else .no
  | _ => .no
/-- .. the last arguments by their defaults -/
def mCallD {γ : Type} (F : MF γ) (a : MA γ) (es : List D) : ME γ := fun e g => (a e g).bind fun xs g1 => match stoL xs with
  | some ds => okO (F (ds ++ es) g1)
  | none => .no
def mCallXD {γ : Type} (F : MF γ) (a : MA γ) (es : List D) : ME γ := fun e g => (a e g).bind fun xs g1 => match stoL xs with
  | some ds => F (ds ++ es) g1
  | none => .no
def mCallRD {γ : Type} (i a0 : Nat) (F : MF γ) (a : MA γ) (es : List D) : ME γ := fun e g => match gt e i with
  | .dat (.ref b) => if b = a0 then mCallXD F a es e g else .no
  | _ => .no
/-- isinstance(x, C): the classes that may come, those that lie beneath C -/
def mIsX {γ : Type} (al cs : List Nat) (i : Nat) : ME γ := fun e g => match gt e i with
  | .xc x => if al.contains x.cls = true then .ok (dB (cs.contains x.cls)) g else .no
  | _ => .no
/-- x.f, x of the class n -/
def mXf {γ : Type} (n i : Nat) : ME γ := fun e g => match gt e i with
  | .xc x => match x.fld with
    | some d => if x.cls = n then .ok (.dat d) g else .no
    | none => .no
  | _ => .no
/-- f(x), x a caught exception -/
abbrev MX (γ : Type) := Xn → γ → Rs γ Rv
def mCallK {γ : Type} (F : MX γ) (i : Nat) : ME γ := fun e g => match gt e i with
  | .xc x => okO (F x g)
  | _ => .no
def mDefX {γ : Type} (n : Nat) (b : MS γ) : MX γ := fun x g => match b (.xc x :: List.replicate n .un) g with
  | .ok (.nx _) g1 => .ok (.dat .non) g1
  | .ok (.rt r) g1 => .ok r.ret g1
  | _ => .no
/-- what is known of a slot behind a try -/
def noX : Sl → Sl
  | .xc _ => .un
  | s => s
@[simp] theorem noX_un : noX .un = .un := rfl
@[simp] theorem noX_dat (d : D) : noX (.dat d) = .dat d := rfl
@[simp] theorem noX_own (d : List D) : noX (.own d) = .own d := rfl
@[simp] theorem noX_gh (k : Nat) : noX (.gh k) = .gh k := rfl
/-- try: b, except .. as i: .. (the classes that a clause takes, its suite), of n slots; al: the classes that may come; the suites know of no other slot -/
def mTry {γ : Type} (al : List Nat) (n : Nat) (b : MS γ) (i : Nat) (hs : List (List Nat × MS γ)) : MS γ := fun e g => match b e g with
  | .ok f g1 => .ok f g1
  | .no => .no
  | .ex x g1 => if al.contains x.cls = true then (match hs.find? (fun h => h.1.contains x.cls) with
    | none => .ex x g1
    | some h => match h.2 (st (List.replicate n .un) i (.xc x)) g1 with
      | .ok (.nx e1) g2 => .ok (.nx ((st e1 i .un).map noX)) g2
      | .ok (.rt r) g2 => .ok (.rt r) g2
      | _ => .no) else .no
/-- s.split(c), c one sign -/
def splC (c : Nat) : List Nat → List Nat → List (List Nat)
  | acc, [] => [acc]
  | acc, x :: r => if x = c then acc :: splC c [] r else splC c (acc ++ [x]) r
def oSplit (s : List Nat) : Rv → Option Rv
  | .dat (.str [c]) => if s.length + 2 ≤ SZ ∧ c < 256 then some (.own ((splC c [] s).map .str)) else none
  | _ => none
/-- a statement that the proof never comes to -/
def mNev {γ : Type} : MS γ := fun _ _ => .no
def mNevE {γ : Type} : ME γ := fun _ _ => .no
end PB

set_option linter.all false
namespace PB
/-! ### what a law draws from: a list of four, at a, of a list at g, a number, a list at c, a count -/
structure LS where
  a : Nat
  gr : List Int
  told : Int
  cs : List Int
  cnt : Nat
/-- the slot i holds the state -/
def isSt (e : Env) (i : Nat) (s : LS) : Bool := match gt e i with
  | .dat (.ref a) => a == s.a
  | _ => false
def mTold (i : Nat) : ME LS := fun e s => if isSt e i s = true then .ok (.dat (.int s.told)) s else .no
def mCnt (i : Nat) : ME LS := fun e s => if isSt e i s = true then .ok (.dat (.int s.cnt)) s else .no
def mHasG (i : Nat) : MT LS := fun e s => if isSt e i s = true then .ok (!s.gr.isEmpty) s else .no
def mHasC (i : Nat) : MT LS := fun e s => if isSt e i s = true then .ok (!s.cs.isEmpty) s else .no
def mLenC (i : Nat) : ME LS := fun e s => if isSt e i s = true then .ok (.dat (.int s.cs.length)) s else .no
def mAtC (i : Nat) (k : ME LS) : ME LS := fun e s => if isSt e i s = true then (k e s).bind fun x s1 => match x with
  | .dat (.int n) => if isSt e i s1 = true then ofO ((atI s1.cs n).map fun v => .dat (.int v)) s1 else .no
  | _ => .no else .no
def mSetTold (i : Nat) (a : ME LS) : MS LS := fun e s => (a e s).bind fun x s1 => match x with
  | .dat (.int n) => if isSt e i s1 = true then .ok (.nx e) { s1 with told := n } else .no
  | _ => .no
def mPopG (i : Nat) : MS LS := fun e s => if isSt e i s = true then (match s.gr with
  | x :: r => .ok (.nx e) { s with gr := r, told := x }
  | [] => .no) else .no
def mIncC (i : Nat) : MS LS := fun e s => if isSt e i s = true then .ok (.nx e) { s with cnt := s.cnt + 1 } else .no
def LS.Ok (s : LS) : Prop := 0 ≤ s.told ∧ (∀ x ∈ s.gr, 0 < x) ∧ (∀ x ∈ s.cs, 0 ≤ x ∧ x < 2147483629)
end PB

set_option Elab.async false
set_option linter.all false
namespace PB
/-! ### more operations -/
def oMax3 : OpN
  | [.dat (.int a), .dat (.int b), .dat (.int c)] => some (.dat (.int (lmax a [b, c])))
  | _ => none
def oMin3 : OpN
  | [.dat (.int a), .dat (.int b), .dat (.int c)] => some (.dat (.int (lmin a [b, c])))
  | _ => none
/-- max, min of a list or a tuple of numbers -/
def Rv.seqI : Rv → Option (List D)
  | .dat (.tup ds) => some ds
  | x => x.items
def oMaxA : OpN
  | [x] => match x.seqI with
    | some ds => match dInts ds with
      | some (n :: ns) => some (.dat (.int (lmax n ns)))
      | _ => none
    | none => none
  | _ => none
def oMinA : OpN
  | [x] => match x.seqI with
    | some ds => match dInts ds with
      | some (n :: ns) => some (.dat (.int (lmin n ns)))
      | _ => none
    | none => none
  | _ => none
/-- s.upper(), s the small letters -/
def oUpper (s : List Nat) : Option Rv := if s = [97, 98, 99, 100, 101, 102, 103, 104, 105, 106, 107, 108, 109, 110, 111, 112, 113, 114, 115, 116, 117, 118, 119, 120, 121, 122] then some (.dat (.str [65, 66, 67, 68, 69, 70, 71, 72, 73, 74, 75, 76, 77, 78, 79, 80, 81, 82, 83, 84, 85, 86, 87, 88, 89, 90])) else none
/-- k in t; t.get(k, x); t a module's table by texts -/
def mInTab {γ : Type} (tab : List (List Nat × D)) (k : ME γ) : ME γ := fun e g => (k e g).bind fun y g1 => match y with
  | .dat (.str s) => .ok (dB (tab.find? (fun q => q.1 == s)).isSome) g1
  | _ => .no
def mTabGet {γ : Type} (tab : List (List Nat × D)) (k d : ME γ) : ME γ := fun e g => (k e g).bind fun y g1 => (d e g1).bind fun z g2 => match y, z with
  | .dat (.str s), .dat z => match tab.find? (fun q => q.1 == s) with
    | some q => .ok (.dat q.2) g2
    | none => .ok (.dat z) g2
  | _, _ => .no
/-- a tuple, so many times -/
def oRepT : Op2
  | .dat (.tup ds), .dat (.int k) => if 0 < ds.length ∧ ds.length ≤ 1000 ∧ -1000 ≤ k ∧ k ≤ 1000 then some (.dat (.tup (List.replicate k.toNat ds).flatten)) else none
  | _, _ => none
/-- a text, no times or once -/
def oRepX : Op2
  | .dat (.str s), .dat (.int n) => if n = 0 then some (.dat (.str [])) else if n = 1 then some (.dat (.str s)) else none
  | _, _ => none
/-- x.insert(k, e) -/
def mIns {γ : Type} (i : Nat) (r : MA γ) : MS γ := fun e g => match gt e i with
  | .own ds => (r e g).bind fun ys g1 => match ys with
    | [.dat (.int k), y] => match y.sto with
      | some d => if ds.length < SZ ∧ 0 ≤ k ∧ k ≤ 16777216 then .ok (.nx (st e i (.own (ds.take k.toNat ++ [d] ++ ds.drop k.toNat)))) g1 else .no
      | none => .no
    | _ => .no
  | _ => .no
/-- x.pop(k), a place that there is -/
def mPopAt {γ : Type} (i : Nat) (r : MA γ) : MS γ := fun e g => match gt e i with
  | .own ds => (r e g).bind fun ys g1 => match ys with
    | [.dat (.int k)] => if 0 ≤ k ∧ k < ds.length ∧ k ≤ 16777216 then .ok (.nx (st e i (.own (ds.eraseIdx k.toNat)))) g1 else .no
    | _ => .no
  | _ => .no
/-! ### the order of data: numbers, texts, tuples -/
mutual
def alkD : D → D → Bool
  | .int _, .int _ => true
  | .str _, .str _ => true
  | .tup xs, .tup ys => alkL xs ys
  | _, _ => false
def alkL : List D → List D → Bool
  | x :: xs, y :: ys => alkD x y && alkL xs ys
  | [], _ => true
  | _ :: _, [] => true
end
mutual
def ltD : D → D → Bool
  | .int i, .int j => decide (i < j)
  | .str s, .str t => lexN s t
  | .tup xs, .tup ys => ltL xs ys
  | _, _ => false
def ltL : List D → List D → Bool
  | [], [] => false
  | [], _ :: _ => true
  | _ :: _, [] => false
  | x :: xs, y :: ys => if eqv x y = true then ltL xs ys else ltD x y
end
def alkAll (ds : List D) : Bool := ds.all fun x => ds.all fun y => alkD x y
def minD : D → List D → D
  | m, [] => m
  | m, x :: xs => minD (if ltD x m = true then x else m) xs
/-- min of things that can be compared -/
def oMinT : OpN
  | [x] => match x.seqI with
    | some (d :: ds) => if alkAll (d :: ds) = true ∧ okL 59 (d :: ds) = true then some (.dat (minD d ds)) else none
    | _ => none
  | _ => none
def oLtD : Op2 := fun x y => if alkD x.val y.val = true ∧ okE 60 x.val = true ∧ okE 60 y.val = true then some (dB (ltD x.val y.val)) else none
/-- sorted(x) -/
def sortable (ds : List D) : Bool := (ds.all fun d => match d with | .tup (_ :: _) => true | _ => false) || (ds.all fun d => match d with | .tup _ => false | _ => true)
def oSort : OpN
  | [x] => match x.items with
    | some ds => if alkAll ds = true ∧ okL 59 ds = true ∧ sortable ds = true then some (.own (ds.mergeSort fun a b => !ltD b a)) else none
    | none => none
  | _ => none
end PB

set_option Elab.async false
set_option linter.all false
set_option maxRecDepth 100000
set_option maxHeartbeats 4000000
/-! PB2: how data by value stand in the heap; the readings of PB1's functions. -/
namespace PB
open PySem PySem.Spec PyProof.Rows L2
abbrev Frag := PySem.W.Frag
def mkS (l : List Nat) : Str := ⟨l.toArray⟩
/-- a tuple of the written part -/
def KT (K : Frag) (a : Addr) (xs : List V) : Prop :=
  ∃ (o : Obj) (its : Array Value) (n : Nat), K.lookup a = some o ∧ o.cls = .type "tuple" ∧ o.data = .seq its n ∧ its.size ≤ sizeLine ∧ Vals xs its.toList
mutual
inductive At (K : Frag) (O : Addr → Prop) (H : Hp) : V → D → Prop
  | non : At K O H .non .non
  | bl (b : Bool) : At K O H (.bl b) (.bl b)
  | int (i : Int) : At K O H (.int i) (.int i)
  | str (l : List Nat) (h : l.length ≤ SZ) (h2 : l.all (· < 0x110000) = true) : At K O H (.str (mkS l)) (.str l)
  | tup {a : Addr} {xs : List V} {ds : List D} (h : (H a = some (.tup xs) ∧ ¬ O a) ∨ KT K a xs) (hs : AtL K O H xs ds) : At K O H (.ref a) (.tup ds)
  | lst {a : Addr} {xs : List V} {ds : List D} (h : H a = some (.lst xs)) (h2 : ¬ O a) (hs : AtL K O H xs ds) : At K O H (.ref a) (.lst ds)
  | ref (a : Nat) : At K O H (.ref a) (.ref a)
inductive AtL (K : Frag) (O : Addr → Prop) (H : Hp) : List V → List D → Prop
  | nil : AtL K O H [] []
  | cons {v : V} {d : D} {xs : List V} {ds : List D} (h : At K O H v d) (hs : AtL K O H xs ds) : AtL K O H (v :: xs) (d :: ds)
end
section
variable {K : Frag} {O O' : Addr → Prop} {H H' : Hp}
theorem AtL.length : ∀ {xs : List V} {ds : List D}, AtL K O H xs ds → xs.length = ds.length
  | _, _, .nil => rfl
  | _, _, .cons _ h => by rw [List.length_cons, List.length_cons, h.length]
mutual
/-- to another heap, another set -/
theorem At.go (f : ∀ a o, H a = some o → ¬ O a → H' a = some o ∧ ¬ O' a) : ∀ {v : V} {d : D}, At K O H v d → At K O' H' v d
  | _, _, .non => .non
  | _, _, .bl b => .bl b
  | _, _, .int i => .int i
  | _, _, .str l h h2 => .str l h h2
  | _, _, .tup h hs => .tup (match h with
    | .inl ⟨h1, h2⟩ => .inl (f _ _ h1 h2)
    | .inr k => .inr k) (hs.go f)
  | _, _, .lst h h2 hs => .lst (f _ _ h h2).1 (f _ _ h h2).2 (hs.go f)
  | _, _, .ref a => .ref a
theorem AtL.go (f : ∀ a o, H a = some o → ¬ O a → H' a = some o ∧ ¬ O' a) : ∀ {xs : List V} {ds : List D}, AtL K O H xs ds → AtL K O' H' xs ds
  | _, _, .nil => .nil
  | _, _, .cons h hs => .cons (h.go f) (hs.go f)
end
theorem At.less (h : ∀ a, O' a → O a) {v : V} {d : D} (x : At K O H v d) : At K O' H v d := x.go fun _ _ q n => ⟨q, fun z => n (h _ z)⟩
theorem AtL.less (h : ∀ a, O' a → O a) {v : List V} {d : List D} (x : AtL K O H v d) : AtL K O' H v d := x.go fun _ _ q n => ⟨q, fun z => n (h _ z)⟩
theorem AtL.get : ∀ {xs : List V} {ds : List D} {i : Nat} {d : D}, AtL K O H xs ds → ds[i]? = some d → ∃ v, xs[i]? = some v ∧ At K O H v d
  | _, _, _, _, .nil, h => by simp at h
  | _, _, 0, _, .cons a _, h => by
    simp at h
    subst h
    exact ⟨_, rfl, a⟩
  | _, _, i + 1, _, .cons _ r, h => by
    obtain ⟨v, e, q⟩ := AtL.get (i := i) r (by simpa using h)
    exact ⟨v, by simpa using e, q⟩
theorem AtL.get' : ∀ {xs : List V} {ds : List D} {i : Nat} {v : V}, AtL K O H xs ds → xs[i]? = some v → ∃ d, ds[i]? = some d ∧ At K O H v d
  | _, _, _, _, .nil, h => by simp at h
  | _, _, 0, _, .cons a _, h => by
    simp at h
    subst h
    exact ⟨_, rfl, a⟩
  | _, _, i + 1, _, .cons _ r, h => by
    obtain ⟨v, e, q⟩ := AtL.get' (i := i) r (by simpa using h)
    exact ⟨v, by simpa using e, q⟩
theorem AtL.app : ∀ {xs ys : List V} {ds es : List D}, AtL K O H xs ds → AtL K O H ys es → AtL K O H (xs ++ ys) (ds ++ es)
  | _, _, _, _, .nil, h => h
  | _, _, _, _, .cons a r, h => .cons a (r.app h)
theorem AtL.drop : ∀ {xs : List V} {ds : List D} (n : Nat), AtL K O H xs ds → AtL K O H (xs.drop n) (ds.drop n)
  | _, _, 0, h => h
  | _, _, _ + 1, .nil => .nil
  | _, _, n + 1, .cons _ r => r.drop n
theorem AtL.take : ∀ {xs : List V} {ds : List D} (n : Nat), AtL K O H xs ds → AtL K O H (xs.take n) (ds.take n)
  | _, _, 0, _ => .nil
  | _, _, _ + 1, .nil => .nil
  | _, _, n + 1, .cons a r => .cons a (r.take n)
theorem AtL.set : ∀ {xs : List V} {ds : List D} {v : V} {d : D} (n : Nat), AtL K O H xs ds → At K O H v d → AtL K O H (xs.set n v) (ds.set n d)
  | _, _, _, _, _, .nil, _ => .nil
  | _, _, _, _, 0, .cons _ r, h => .cons h r
  | _, _, _, _, n + 1, .cons a r, h => .cons a (r.set n h)
theorem AtL.cut {xs : List V} {ds : List D} (lo hi : Option Int) (h : AtL K O H xs ds) : AtL K O H (cutV xs lo hi) (cut ds lo hi) := by
  unfold cutV PB.cut
  rw [h.length]
  exact (h.drop _).take _
theorem AtL.rep {xs : List V} {ds : List D} (h : AtL K O H xs ds) : ∀ n : Nat, AtL K O H (List.replicate n xs).flatten (List.replicate n ds).flatten
  | 0 => .nil
  | n + 1 => by
    rw [List.replicate_succ, List.replicate_succ, List.flatten_cons, List.flatten_cons]
    exact h.app (h.rep n)
theorem AtL.dInts : ∀ {xs : List V} {ds : List D} {ns : List Int}, AtL K O H xs ds → PB.dInts ds = some ns → xs = ns.map V.int
  | _, _, _, .nil, h => by
    cases h
    rfl
  | _, d :: ds, ns, .cons a r, h => by
    cases d with
    | int i =>
      cases a
      unfold PB.dInts at h
      cases e : PB.dInts ds with
      | none => rw [e] at h; cases h
      | some ms =>
        rw [e] at h
        cases h
        rw [List.map_cons, r.dInts e]
    | _ => cases h
theorem AtL.dBls : ∀ {xs : List V} {ds : List D} {ns : List Bool}, AtL K O H xs ds → PB.dBls ds = some ns → xs = ns.map V.bl
  | _, _, _, .nil, h => by
    cases h
    rfl
  | _, d :: ds, ns, .cons a r, h => by
    cases d with
    | bl i =>
      cases a
      unfold PB.dBls at h
      cases e : PB.dBls ds with
      | none => rw [e] at h; cases h
      | some ms =>
        rw [e] at h
        cases h
        rw [List.map_cons, r.dBls e]
    | _ => cases h
theorem AtL.dStrs : ∀ {xs : List V} {ds : List D} {ns : List (List Nat)}, AtL K O H xs ds → PB.dStrs ds = some ns → xs = ns.map (fun l => V.str (mkS l)) ∧ ∀ l ∈ ns, l.length ≤ SZ ∧ l.all (· < 0x110000) = true
  | _, _, _, .nil, h => by
    cases h
    exact ⟨rfl, fun l h => by cases h⟩
  | _, d :: ds, ns, .cons a r, h => by
    cases d with
    | str i =>
      cases a with
      | str _ h1 h2 =>
      unfold PB.dStrs at h
      cases e : PB.dStrs ds with
      | none => rw [e] at h; cases h
      | some ms =>
        rw [e] at h
        cases h
        obtain ⟨q1, q2⟩ := r.dStrs e
        refine ⟨by rw [List.map_cons, q1], fun l hl => ?_⟩
        rcases List.mem_cons.mp hl with rfl | hl
        · exact ⟨h1, h2⟩
        · exact q2 l hl
    | _ => cases h
theorem tup_seq {a : Addr} {xs : List V} (h : (H a = some (.tup xs) ∧ ¬ O a) ∨ KT K a xs) : SqT K H a xs := h.elim (fun z => .inl (.inl z.1)) .inr
end

/-! ### a caught exception -/
/-- data that stand nowhere -/
inductive ScV : V → D → Prop
  | non : ScV .non .non
  | bl (b : Bool) : ScV (.bl b) (.bl b)
  | int (i : Int) : ScV (.int i) (.int i)
  | str (l : List Nat) (h : l.length ≤ SZ) (h2 : l.all (· < 0x110000) = true) : ScV (.str (mkS l)) (.str l)
theorem ScV.at {K : Frag} {O : Addr → Prop} {H : Hp} {v : V} {d : D} (h : ScV v d) : At K O H v d := by
  cases h with
  | non => exact .non
  | bl b => exact .bl b
  | int i => exact .int i
  | str l h h2 => exact .str l h h2
theorem scv_of {K : Frag} {O : Addr → Prop} {H : Hp} {v : V} {d : D} (h : At K O H v d) (s : scl d = true) : ScV v d := by
  cases h with
  | non => exact .non
  | bl b => exact .bl b
  | int i => exact .int i
  | str l h h2 => exact .str l h h2
  | tup _ _ => cases s
  | lst _ _ _ => cases s
  | ref _ => cases s
/-- the classes of exceptions by number: what stands for each, the name of its field -/
structure XT where
  cl : Nat → Value
  fn : Nat → Str
def XOk (T : XT) (x : Xn) (c : Value) (od : Option Addr) (H : Hp) : Prop := c = T.cl x.cls ∧ match x.fld with
  | none => od = none
  | some d => ∃ p v, od = some p ∧ H p = some (.xd [(T.fn x.cls, v)]) ∧ ScV v d
theorem XOk.go {T : XT} {x : Xn} {c : Value} {od : Option Addr} {H H' : Hp} (h : XOk T x c od H) (k : ∀ p fs, H p = some (.xd fs) → H' p = some (.xd fs)) : XOk T x c od H' := by
  obtain ⟨h1, h2⟩ := h
  refine ⟨h1, ?_⟩
  cases hx : x.fld with
  | none =>
    rw [hx] at h2
    exact h2
  | some d =>
    rw [hx] at h2
    obtain ⟨p, v, e, q, s⟩ := h2
    exact ⟨p, v, e, k p _ q, s⟩
/-- a list stands there -/
def Stk (o : Option HO) : Prop := (o ≠ none ∧ ∀ fs, o ≠ some (.xd fs)) ∧ ∃ xs, o = some (.lst xs)
theorem Stk.lst {o : Option HO} {xs : List V} (h : o = some (.lst xs)) : Stk o := by
  subst h
  exact ⟨⟨(fun z => nomatch z), (fun fs z => nomatch z)⟩, xs, rfl⟩
theorem Stk.same {o o' : Option HO} (h : Stk o) (k : ∀ u, o = some u → o' = some u) : Stk o' := by
  obtain ⟨_, xs, e⟩ := h
  exact .lst (k _ e)
/-! ### what stands beside: a thing that calls may change -/
structure Gho (γ : Type) where
  F : Addr → Prop
  I : γ → Hp → Prop
  stab : ∀ g H H', I g H → (∀ a, F a → H' a = H a) → (∀ a xs, H a = some (.tup xs) → H' a = some (.tup xs)) → I g H'
  lsts : ∀ g H a, I g H → F a → ∃ xs, H a = some (.lst xs)
  ad : Nat → Addr
theorem Gho.stk {γ : Type} (G : Gho γ) (g : γ) (H : Hp) (a : Addr) (i : G.I g H) (f : G.F a) : Stk (H a) := by
  obtain ⟨xs, h⟩ := G.lsts g H a i f
  exact .lst h
theorem Gho.trk {γ : Type} (G : Gho γ) (g : γ) (H : Hp) (a : Addr) (i : G.I g H) (f : G.F a) : H a ≠ none := (G.stk g H a i f).1.1

/-- what is fixed through a whole law: the written part, how exceptions stand, the things beside (a family, one is meant) -/
structure Bs (γ ι : Type) where
  K : Frag
  T : XT
  fam : ι → Gho γ
  i : ι
  xa : Addr × Value × Option Addr
/-- a run of a def: besides, what its values must not be -/
structure Act (γ ι : Type) where
  B : Bs γ ι
  X : Addr → Prop
section
variable {γ ι : Type}
abbrev Act.K (A : Act γ ι) : Frag := A.B.K
abbrev Act.G (A : Act γ ι) : Gho γ := A.B.fam A.B.i
abbrev Act.R (A : Act γ ι) (x : Xn) (c : Value) (od : Option Addr) (H : Hp) : Prop := XOk A.B.T x c od H
def OwnA (e : Env) (σ : L2.St) (a : Addr) : Prop := ∃ i ds, gt e i = .own ds ∧ σ[i]? = some (some (.ref a))
def Om (A : Act γ ι) (e : Env) (σ : L2.St) (a : Addr) : Prop := A.X a ∨ OwnA e σ a
def Mu (A : Act γ ι) (e : Env) (σ : L2.St) (a : Addr) : Prop := A.G.F a ∨ OwnA e σ a
/-- what a slot holds -/
def SlOk (B : Bs γ ι) (O : Addr → Prop) (H : Hp) (s : Sl) (x : Option (Option V)) : Prop := match s with
  | .un => True
  | .dat d => ∃ v, x = some (some v) ∧ At B.K O H v d
  | .own ds => ∃ p xs, x = some (some (.ref p)) ∧ H p = some (.lst xs) ∧ AtL B.K O H xs ds
  | .xc y => x = some (some (.ref B.xa.1)) ∧ XOk B.T y B.xa.2.1 B.xa.2.2 H
  | .gh k => x = some (some (.ref ((B.fam B.i).ad k)))
structure Rep (A : Act γ ι) (e : Env) (g : γ) (σ : L2.St) (H : Hp) : Prop where
  len : σ.length = e.length
  sl : ∀ i, SlOk A.B (Om A e σ) H (gt e i) σ[i]?
  inj : ∀ i j di dj p, gt e i = .own di → gt e j = .own dj → σ[i]? = some (some (.ref p)) → σ[j]? = some (some (.ref p)) → i = j
  nx : ∀ a, OwnA e σ a → ¬ A.X a
  gh : A.G.I g H
  fx : ∀ a, A.G.F a → A.X a
  xs : ∀ a, A.X a → Stk (H a)
theorem Rep.xt {A : Act γ ι} {e : Env} {g : γ} {σ : L2.St} {H : Hp} (R : Rep A e g σ H) (a : Addr) (h : A.X a) : H a ≠ none := (R.xs a h).1.1
/-- all that stands stands on, but what stands beside -/
def ExE (A : Act γ ι) (H H' : Hp) : Prop := ∀ b o, H b = some o → ¬ A.G.F b → H' b = some o
section
variable {A : Act γ ι} {e : Env} {g g' g1 : γ} {σ : L2.St} {H H' H0 H1 : Hp} {a p : Addr}
theorem ExE.refl (H : Hp) : ExE A H H := fun _ _ h _ => h
theorem ExE.trans {H2 : Hp} (a : ExE A H H1) (b : ExE A H1 H2) : ExE A H H2 := fun x o h n => b x o (a x o h n) n
theorem ExE.back (a : ExE A H H1) (h : H1 p = none) (i' : A.G.I g' H1) : H p = none := by
  cases e : H p with
  | none => rfl
  | some o =>
    by_cases f : A.G.F p
    · exact absurd h (A.G.trk _ _ _ i' f)
    · rw [a p o e f] at h
      cases h
theorem ExE.new {o : HO} (h : H p = none) : ExE A H (upd H p o) := fun b u e _ => by
  rw [upd_ne (ne_of_none e h)]
  exact e
theorem Gho.new {G : Gho γ} {o : HO} (i : G.I g H) (h : H p = none) : G.I g (upd H p o) := G.stab _ _ _ i (fun a f => upd_ne (by
  intro z
  subst z
  exact G.trk _ _ _ i f h)) fun a xs q => by
  rw [upd_ne (ne_of_none q h)]
  exact q
theorem OwnA.some (R : Rep A e g σ H) (h : OwnA e σ a) : ∃ xs, H a = Option.some (.lst xs) := by
  obtain ⟨i, ds, h1, h2⟩ := h
  have q := R.sl i
  rw [h1] at q
  obtain ⟨p, xs, e, k, _⟩ := q
  rw [h2] at e
  cases e
  exact ⟨xs, k⟩
theorem Rep.notF (R : Rep A e g σ H) (h : OwnA e σ a) : ¬ A.G.F a := fun z => R.nx a h (R.fx a z)
theorem Rep.omt (R : Rep A e g σ H) (h : Om A e σ a) : H a ≠ none := by
  rcases h with h | h
  · exact R.xt a h
  · obtain ⟨xs, k⟩ := h.some R
    rw [k]
    exact fun z => by cases z
theorem Rep.oms (R : Rep A e g σ H) (h : Om A e σ a) : Stk (H a) := by
  rcases h with h | h
  · exact R.xs a h
  · obtain ⟨xs, k⟩ := h.some R
    exact .lst k
theorem Rep.muom (R : Rep A e g σ H) (h : Mu A e σ a) : Om A e σ a := h.elim (fun z => .inl (R.fx a z)) .inr
/-- an exception's dict is nobody's -/
theorem Rep.nxd (R : Rep A e g σ H) {p : Addr} {fs : List (Str × V)} (h : H p = some (.xd fs)) : ¬ Om A e σ p := by
  rintro (z | z)
  · exact (R.xs p z).1.2 fs h
  · obtain ⟨xs, k⟩ := z.some R
    rw [h] at k
    cases k
/-- values are kept through an expression -/
theorem Rep.at (R : Rep A e g σ H0) (x : ExE A H H') {v : V} {d : D} (h : At A.K (Om A e σ) H v d) : At A.K (Om A e σ) H' v d :=
  h.go fun a o q n => ⟨x a o q fun z => n (.inl (R.fx a z)), n⟩
theorem Rep.atL (R : Rep A e g σ H0) (x : ExE A H H') {v : List V} {d : List D} (h : AtL A.K (Om A e σ) H v d) : AtL A.K (Om A e σ) H' v d :=
  h.go fun a o q n => ⟨x a o q fun z => n (.inl (R.fx a z)), n⟩
theorem Rep.exe (R : Rep A e g σ H) (x : ExE A H H') (i : A.G.I g' H') : Rep A e g' σ H' where
  len := R.len
  sl := fun j => by
    have q := R.sl j
    cases h : gt e j with
    | un => trivial
    | dat d =>
      rw [h] at q
      obtain ⟨v, e1, a⟩ := q
      exact ⟨v, e1, R.at x a⟩
    | own ds =>
      rw [h] at q
      obtain ⟨p, xs, e1, k, a⟩ := q
      exact ⟨p, xs, e1, x p _ k (R.notF ⟨j, ds, h, e1⟩), R.atL x a⟩
    | xc y =>
      rw [h] at q
      exact ⟨q.1, q.2.go fun p fs k => x p _ k fun z => R.nxd k (.inl (R.fx p z))⟩
    | gh k =>
      rw [h] at q
      exact q
  inj := R.inj
  nx := R.nx
  gh := i
  fx := R.fx
  xs := fun a ha => by
    by_cases f : A.G.F a
    · exact A.G.stk _ _ _ i f
    · exact (R.xs a ha).same fun u q => x a u q f
end
/-- what an expression's value is: H0 the heap ahead of it -/
def VOk (A : Act γ ι) (e : Env) (σ : L2.St) (H0 H : Hp) (r : Rv) (v : V) : Prop := match r with
  | .dat d => At A.K (Om A e σ) H v d
  | .own ds => ∃ p xs, v = .ref p ∧ H0 p = none ∧ H p = some (.lst xs) ∧ AtL A.K (fun a => Om A e σ a ∨ a = p) H xs ds
  | .bor ds => ∃ p xs, v = .ref p ∧ OwnA e σ p ∧ H p = some (.lst xs) ∧ AtL A.K (Om A e σ) H xs ds
section
variable {A : Act γ ι} {e : Env} {g g' g1 : γ} {σ : L2.St} {H H' H0 H1 : Hp} {p : Addr} {r : Rv} {v : V}
theorem VOk.step (R : Rep A e g σ H0) (x : ExE A H H') (h : VOk A e σ H0 H r v) : VOk A e σ H0 H' r v := by
  cases r with
  | dat d => exact At.go (fun a o q n => ⟨x a o q fun z => n (.inl (R.fx a z)), n⟩) h
  | own ds =>
    obtain ⟨p, xs, e1, h0, k, a⟩ := h
    refine ⟨p, xs, e1, h0, x p _ k fun z => R.xt p (R.fx p z) h0, a.go fun a o q n => ⟨x a o q fun z => n (.inl (.inl (R.fx a z))), n⟩⟩
  | bor ds =>
    obtain ⟨p, xs, e1, h0, k, a⟩ := h
    exact ⟨p, xs, e1, h0, x p _ k (R.notF h0), a.go fun a o q n => ⟨x a o q fun z => n (.inl (R.fx a z)), n⟩⟩
/-- from a later beginning -/
theorem VOk.pre (x : ExE A H0 H1) (i : A.G.I g1 H1) (h : VOk A e σ H1 H r v) : VOk A e σ H0 H r v := by
  cases r with
  | dat d => exact h
  | own ds =>
    obtain ⟨p, xs, e1, h0, k, a⟩ := h
    exact ⟨p, xs, e1, x.back h0 i, k, a⟩
  | bor ds => exact h
/-- the value as a datum, of what a def may be handed -/
theorem VOk.weak (R : Rep A e g σ H0) (h : VOk A e σ H0 H r v) : At A.K A.X H v r.val := by
  cases r with
  | dat d => exact At.less (fun a z => .inl z) h
  | own ds =>
    obtain ⟨p, xs, e1, h0, k, a⟩ := h
    subst e1
    exact .lst k (fun z => R.xt p z h0) (a.less fun a z => .inl (.inl z))
  | bor ds =>
    obtain ⟨p, xs, e1, h0, k, a⟩ := h
    subst e1
    exact .lst k (R.nx p h0) (a.less fun a z => .inl z)
theorem VOk.sto (R : Rep A e g σ H0) {d : D} (h : VOk A e σ H0 H r v) (hs : r.sto = some d) : At A.K (Om A e σ) H v d := by
  cases r with
  | dat d' =>
    cases hs
    exact h
  | own ds =>
    cases hs
    obtain ⟨p, xs, e1, h0, k, a⟩ := h
    subst e1
    exact .lst k (fun z => R.omt z h0) (a.less fun a z => .inl z)
  | bor ds => cases hs
/-- the items of a list of either kind -/
theorem VOk.items (R : Rep A e g σ H0) {ds : List D} (h : VOk A e σ H0 H r v) (hs : r.items = some ds) : ∃ p xs, v = .ref p ∧ H p = some (.lst xs) ∧ AtL A.K (Om A e σ) H xs ds := by
  cases r with
  | dat d' =>
    cases d' with
    | lst es =>
      cases hs
      cases h with
      | lst h1 h2 h3 => exact ⟨_, _, rfl, h1, h3⟩
    | _ => cases hs
  | own es =>
    cases hs
    obtain ⟨p, xs, e1, h0, k, a⟩ := h
    exact ⟨p, xs, e1, k, a.less fun a z => .inl z⟩
  | bor es =>
    cases hs
    obtain ⟨p, xs, e1, h0, k, a⟩ := h
    exact ⟨p, xs, e1, k, a⟩
/-- a new list -/
theorem VOk.mk (x : ExE A H0 H) (i : A.G.I g1 H) {xs : List V} {ds : List D} (h : AtL A.K (Om A e σ) H xs ds) (hp : H p = none) :
    VOk A e σ H0 (upd H p (.lst xs)) (.own ds) (.ref p) :=
  ⟨p, xs, rfl, x.back hp i, upd_same, h.go fun a o q n => ⟨by rw [upd_ne (ne_of_none q hp)]; exact q, fun z => z.elim n fun e => ne_of_none q hp e⟩⟩
theorem At.mkT (R : Rep A e g σ H0) (x : ExE A H0 H) (i : A.G.I g1 H) {xs : List V} {ds : List D} (h : AtL A.K (Om A e σ) H xs ds) (hp : H p = none) :
    At A.K (Om A e σ) (upd H p (.tup xs)) (.ref p) (.tup ds) :=
  .tup (.inl ⟨upd_same, fun z => R.omt z (x.back hp i)⟩) (h.go fun a o q n => ⟨by rw [upd_ne (ne_of_none q hp)]; exact q, n⟩)
end
inductive VOkL (A : Act γ ι) (e : Env) (σ : L2.St) (H0 H : Hp) : List Rv → List V → Prop
  | nil : VOkL A e σ H0 H [] []
  | cons {r : Rv} {v : V} {rs : List Rv} {vs : List V} (h : VOk A e σ H0 H r v) (hs : VOkL A e σ H0 H rs vs) : VOkL A e σ H0 H (r :: rs) (v :: vs)
section
variable {A : Act γ ι} {e : Env} {g g' g1 : γ} {σ : L2.St} {H H' H0 H1 : Hp}
theorem VOkL.pre (x : ExE A H0 H1) (i : A.G.I g1 H1) {r : List Rv} {v : List V} (h : VOkL A e σ H1 H r v) : VOkL A e σ H0 H r v := by
  induction h with
  | nil => exact .nil
  | cons h _ ih => exact .cons (h.pre x i) ih
theorem VOkL.sto (R : Rep A e g σ H0) {rs : List Rv} {vs : List V} (h : VOkL A e σ H0 H rs vs) : ∀ {ds : List D}, stoL rs = some ds → AtL A.K (Om A e σ) H vs ds := by
  induction h with
  | nil =>
    intro ds hs
    cases hs
    exact .nil
  | @cons r v rs vs h _ ih =>
    intro ds hs
    unfold stoL at hs
    cases e1 : r.sto with
    | none => rw [e1] at hs; cases hs
    | some d =>
      cases e2 : stoL rs with
      | none => rw [e1, e2] at hs; cases hs
      | some es =>
        rw [e1, e2] at hs
        cases hs
        exact .cons (h.sto R e1) (ih e2)
end

/-! ### readings -/
abbrev WX := Value → Option Addr → L2.St → Hp → Prop
abbrev W0 : WX := fun _ _ _ _ => False
/-- what is wanted of a result that began at H -/
def RK {α β : Type} (P : Act γ ι → Env → L2.St → Hp → Hp → α → β → Prop) (A : Act γ ι) (W : WX) (e : Env) (σ : L2.St) (H : Hp) (r : Rs γ α) (Q : β → Hp → Prop) : Prop := match r with
  | .ok a g' => ∀ b H', ExE A H H' → A.G.I g' H' → P A e σ H H' a b → Q b H'
  | .ex x g' => ∀ c od H', ExE A H H' → A.G.I g' H' → A.R x c od H' → W c od σ H'
  | .no => False
def RG {α β : Type} (P : Act γ ι → Env → L2.St → Hp → Hp → α → β → Prop) (B : Bs γ ι) (W : WX) (m : Env → γ → Rs γ α) : L2.St → Hp → (β → Hp → Prop) → Prop :=
  fun σ H Q => ∃ (S : Addr → Prop) (e : Env) (g : γ), Rep ⟨B, S⟩ e g σ H ∧ RK P ⟨B, S⟩ W e σ H (m e g) Q
abbrev PB_ : Act γ ι → Env → L2.St → Hp → Hp → Bool → Bool → Prop := fun _ _ _ _ _ a b => a = b
abbrev RE (B : Bs γ ι) (W : WX) (m : ME γ) : TE := RG VOk B W m
abbrev RT (B : Bs γ ι) (W : WX) (m : MT γ) : TT := RG PB_ B W m
abbrev RA (B : Bs γ ι) (W : WX) (m : MA γ) : TA := RG VOkL B W m
theorem RK.bind {α β α' β' : Type} {P : Act γ ι → Env → L2.St → Hp → Hp → α → β → Prop} {P' : Act γ ι → Env → L2.St → Hp → Hp → α' → β' → Prop} {A : Act γ ι} {W : WX} {e : Env} {σ : L2.St} {H H1 : Hp} {m : Rs γ α'} {f : α' → γ → Rs γ α} {Q : β → Hp → Prop} {k : β' → Hp → Prop}
    (x : ExE A H H1) (h : RK P A W e σ H (m.bind f) Q) (hk : ∀ a g1 b H2, ExE A H1 H2 → ExE A H H2 → A.G.I g1 H2 → P' A e σ H1 H2 a b → RK P A W e σ H (f a g1) Q → k b H2) : RK P' A W e σ H1 m k := by
  cases m with
  | no => exact h
  | ex y g => exact fun c od H' x' => h c od H' (x.trans x')
  | ok a g => exact fun b H' x' i p => hk a g b H' x' (x.trans x') i p h
theorem RK.ofO {α β : Type} {P : Act γ ι → Env → L2.St → Hp → Hp → α → β → Prop} {A : Act γ ι} {W : WX} {e : Env} {σ : L2.St} {H : Hp} {o : Option α} {g : γ} {Q : β → Hp → Prop} (h : RK P A W e σ H (PB.ofO o g) Q) :
    ∃ a, o = some a ∧ ∀ b H', ExE A H H' → A.G.I g H' → P A e σ H H' a b → Q b H' := by
  cases o with
  | none => exact h.elim
  | some a => exact ⟨a, rfl, h⟩
end

theorem pe_w {X : Cx} {e : Expr} {t t' : TE} (h : PE X e t) (w : ∀ σ H Q, t' σ H Q → t σ H Q) : PE X e t' := ⟨fun pins s σ H Q I q => h.run pins s σ H Q I (w σ H Q q)⟩
theorem pt_w {X : Cx} {e : Expr} {t t' : TT} (h : PT X e t) (w : ∀ σ H Q, t' σ H Q → t σ H Q) : PT X e t' := ⟨fun pins s σ H Q I q => h.run pins s σ H Q I (w σ H Q q)⟩
theorem pw_w {X : Cx} {e : Expr} {t t' : TT} (h : PW X e t) (w : ∀ σ H Q, t' σ H Q → t σ H Q) : PW X e t' := ⟨fun wh pins s σ H Q I q => h.run wh pins s σ H Q I (w σ H Q q)⟩
theorem pa_w {X : Cx} {e : List Expr} {t t' : TA} (h : PA X e t) (w : ∀ σ H Q, t' σ H Q → t σ H Q) : PA X e t' := ⟨fun pos pins s σ H Q I q => h.run pos pins s σ H Q I (w σ H Q q)⟩
theorem po_w {X : Cx} {e : Option Expr} {t t' : TO} (h : PO X e t) (w : ∀ σ H Q, t' σ H Q → t σ H Q) : PO X e t' := ⟨fun pins s σ H Q I q => h.run pins s σ H Q I (w σ H Q q)⟩
theorem pi_w {X : Cx} {tg e : Expr} {t t' : TI} (h : PI X tg e t) (w : ∀ σ H Q, t' σ H Q → t σ H Q) : PI X tg e t' := ⟨fun pins s σ H Q I q => h.run pins s σ H Q I (w σ H Q q)⟩
theorem pg_w {X : Cx} {e : Expr} {t t' : TG} (h : PG X e t) (w : ∀ v σ H Q, t' v σ H Q → t v σ H Q) : PG X e t' := ⟨fun pins s σ H v u Q I r q => h.run pins s σ H v u Q I r (w v σ H Q q)⟩
theorem ps_w {X : Cx} {e : Stmt} {t t' : TS} (h : PS X e t) (w : ∀ D σ H, t' D σ H → t D σ H) : PS X e t' := ⟨fun pins s σ H D I q => h.run pins s σ H D I (w D σ H q)⟩
theorem pss_w {X : Cx} {e : List Stmt} {t t' : TS} (h : PSs X e t) (w : ∀ D σ H, t' D σ H → t D σ H) : PSs X e t' := ⟨fun pins s σ H D I q => h.run pins s σ H D I (w D σ H q)⟩
theorem OpR.or {X : Cx} {f : Value → Value → Sem Value} {r r' : R2} (h : OpR X f r) (h' : OpR X f r') : OpR X f (fun x y H Q => r x y H Q ∨ r' x y H Q) := by
  intro pins s σ H x y v u Q I rx ry q
  rcases q with q | q
  · exact h pins s σ H x y v u Q I rx ry q
  · exact h' pins s σ H x y v u Q I rx ry q
theorem OpR.w {X : Cx} {f : Value → Value → Sem Value} {r r' : R2} (h : OpR X f r) (w : ∀ x y H Q, r' x y H Q → r x y H Q) : OpR X f r' := fun pins s σ H x y v u Q I rx ry q => h pins s σ H x y v u Q I rx ry (w _ _ _ _ q)

/-! ### expressions -/
section
variable {γ ι : Type} {B : Bs γ ι} {W : WX} {X : Cx} {pos : Pos}
/-- the heap is as it was, or has one thing more -/
def Nw (H H' : Hp) : Prop := H' = H ∨ ∃ p o, H p = none ∧ H' = upd H p o
theorem Nw.exe {A : Act γ ι} {H H' : Hp} (h : Nw H H') : ExE A H H' := by
  rcases h with rfl | ⟨p, o, h, rfl⟩
  · exact .refl _
  · exact .new h
theorem Nw.gh {G : Gho γ} {g : γ} {H H' : Hp} (h : Nw H H') (i : G.I g H) : G.I g H' := by
  rcases h with rfl | ⟨p, o, h, rfl⟩
  · exact i
  · exact Gho.new i h
/-- what an operation by values is to show -/
def OpS2 (B : Bs γ ι) (f : Op2) (r : R2) : Prop := ∀ (S : Addr → Prop) (e : Env) (g g1 : γ) (σ : L2.St) (H0 H : Hp) (x y z : Rv) (vx vy : V) (Q : VK), Rep ⟨B, S⟩ e g σ H0 → ExE ⟨B, S⟩ H0 H → (B.fam B.i).I g1 H →
  VOk ⟨B, S⟩ e σ H0 H x vx → VOk ⟨B, S⟩ e σ H0 H y vy → f x y = some z → (∀ v H', Nw H H' → VOk ⟨B, S⟩ e σ H0 H' z v → Q v H') → r vx vy H Q
def OpS1 (B : Bs γ ι) (f : Op1) (r : V → Hp → VK → Prop) : Prop := ∀ (S : Addr → Prop) (e : Env) (g g1 : γ) (σ : L2.St) (H0 H : Hp) (x z : Rv) (vx : V) (Q : VK), Rep ⟨B, S⟩ e g σ H0 → ExE ⟨B, S⟩ H0 H → (B.fam B.i).I g1 H →
  VOk ⟨B, S⟩ e σ H0 H x vx → f x = some z → (∀ v H', Nw H H' → VOk ⟨B, S⟩ e σ H0 H' z v → Q v H') → r vx H Q
def OpSN (B : Bs γ ι) (f : OpN) (r : List V → Hp → VK → Prop) : Prop := ∀ (S : Addr → Prop) (e : Env) (g g1 : γ) (σ : L2.St) (H0 H : Hp) (xs : List Rv) (z : Rv) (vs : List V) (Q : VK), Rep ⟨B, S⟩ e g σ H0 → ExE ⟨B, S⟩ H0 H → (B.fam B.i).I g1 H →
  VOkL ⟨B, S⟩ e σ H0 H xs vs → f xs = some z → (∀ v H', Nw H H' → VOk ⟨B, S⟩ e σ H0 H' z v → Q v H') → r vs H Q
theorem re_op2 {f : Op2} {r : R2} (hs : OpS2 B f r) {a b : ME γ} {σ : L2.St} {H : Hp} {Q : VK} (h : RE B W (mOp2 f a b) σ H Q) : tOp r (RE B W a) (RE B W b) σ H Q := by
  obtain ⟨S, e, g, R, h⟩ := h
  refine ⟨S, e, g, R, RK.bind (.refl H) h fun x g1 vx H1 _ x1 i1 o1 h1 => ?_⟩
  refine ⟨S, e, g1, R.exe x1 i1, RK.bind x1 h1 fun y g2 vy H2 x12 x2 i2 o2 h2 => ?_⟩
  obtain ⟨z, ez, q⟩ := h2.ofO
  exact hs S e g g2 σ H H2 x y z vx vy Q R x2 i2 (o1.step R x12) (o2.pre x1 i1) ez fun v H' n o => q v H' (x2.trans n.exe) (n.gh i2) o
theorem re_op1 {f : Op1} {r : V → Hp → VK → Prop} (hs : OpS1 B f r) {a : ME γ} {σ : L2.St} {H : Hp} {Q : VK} (h : RE B W (mOp1 f a) σ H Q) : tUn r (RE B W a) σ H Q := by
  obtain ⟨S, e, g, R, h⟩ := h
  refine ⟨S, e, g, R, RK.bind (.refl H) h fun x g1 vx H1 _ x1 i1 o1 h1 => ?_⟩
  obtain ⟨z, ez, q⟩ := h1.ofO
  exact hs S e g g1 σ H H1 x z vx Q R x1 i1 o1 ez fun v H' n o => q v H' (x1.trans n.exe) (n.gh i1) o
theorem re_opN {f : OpN} {r : List V → Hp → VK → Prop} (hs : OpSN B f r) {a : MA γ} {σ : L2.St} {H : Hp} {Q : VK} (h : RE B W (mOpN f a) σ H Q) : tCB r (RA B W a) σ H Q := by
  obtain ⟨S, e, g, R, h⟩ := h
  refine ⟨S, e, g, R, RK.bind (.refl H) h fun x g1 vx H1 _ x1 i1 o1 h1 => ?_⟩
  obtain ⟨z, ez, q⟩ := h1.ofO
  exact hs S e g g1 σ H H1 x z vx Q R x1 i1 o1 ez fun v H' n o => q v H' (x1.trans n.exe) (n.gh i1) o
/-- names, constants -/
theorem re_var {i : Nat} {σ : L2.St} {H : Hp} {Q : VK} (h : RE B W (mVar i) σ H Q) : tVar i σ H Q := by
  obtain ⟨S, e, g, R, h⟩ := h
  have q := R.sl i
  unfold mVar at h
  cases k : gt e i with
  | un =>
    rw [k] at h
    exact h.elim
  | dat d =>
    rw [k] at h q
    obtain ⟨v, e1, a⟩ := q
    exact ⟨v, e1, h v H (.refl H) R.gh a⟩
  | own ds =>
    rw [k] at h q
    obtain ⟨p, xs, e1, h1, a⟩ := q
    exact ⟨.ref p, e1, h (.ref p) H (.refl H) R.gh ⟨p, xs, rfl, ⟨i, ds, k, e1⟩, h1, a⟩⟩
  | xc y =>
    rw [k] at h
    exact h.elim
  | gh y =>
    rw [k] at h
    exact h.elim
theorem pb_var (i : Nat) {x : Str} (hN : X.N[i]? = some x := by rfl) (hv : Vis X.env.scope x := by first | exact Or.inl rfl | exact Or.inr (Or.inl rfl) | exact Or.inr (Or.inr rfl)) (hd : (x == ("__debug__" : Str)) = false := by decide)
    (hcd : (x == ("__classdict__" : Str)) = false := by decide) : PE X (.Name x pos) (RE B W (mVar i)) := pe_w (pe_var hN hv hd hcd) fun _ _ _ => re_var
theorem re_c {v : V} {d : D} (ha : ∀ O H, At B.K O H v d) {σ : L2.St} {H : Hp} {Q : VK} (h : RE B W (mC d) σ H Q) : tC v σ H Q := by
  obtain ⟨S, e, g, R, h⟩ := h
  exact h v H (.refl H) R.gh (ha _ _)
theorem pb_int {i j} : PE X (.Constant (.int i) j pos) (RE B W (mC (.int i))) := pe_w pe_int fun _ _ _ => re_c fun _ _ => .int i
theorem pb_bl {b j} : PE X (.Constant (.bool b) j pos) (RE B W (mC (.bl b))) := pe_w pe_bl fun _ _ _ => re_c fun _ _ => .bl b
theorem pb_non {j} : PE X (.Constant .none j pos) (RE B W (mC .non)) := pe_w pe_non fun _ _ _ => re_c fun _ _ => .non
theorem str_mk {s : Str} {l : List Nat} (h : s = mkS l) (h1 : decide (l.length ≤ SZ) = true) (h2 : l.all (· < 0x110000) = true) (K : Frag) (O : Addr → Prop) (H : Hp) : At K O H (.str s) (.str l) := by
  rw [h]
  exact .str l (of_decide_eq_true h1) h2
theorem pb_str {x : Str} {j} (l : List Nat) (h : x = mkS l := by decide +kernel) (h1 : decide (l.length ≤ SZ) = true := by decide +kernel) (h2 : l.all (· < 0x110000) = true := by decide +kernel) : PE X (.Constant (.str x) j pos) (RE B W (mC (.str l))) :=
  pe_w pe_str fun _ _ _ => re_c fun O H => str_mk h h1 h2 _ O H
/-- a module's constant, a def, a class -/
theorem pb_glob {x : Str} {v : V} {u : Value} (d : D) (hg : Gl X x) (hm : X.mg x = some u) (r : RelV v u) (ha : ∀ O H, At B.K O H v d) (hd : (x == ("__debug__" : Str)) = false := by decide) : PE X (.Name x pos) (RE B W (mC d)) :=
  pe_w (pe_glob hg hm r hd) fun _ _ _ => re_c ha
variable {a b c : Expr} {ma mb mc : ME γ}
theorem pb_op {op : Operator} {f : Op2} {r : R2} (ho : OpR X (binaryOp op) r) (hs : OpS2 B f r) (ha : PE X a (RE B W ma)) (hb : PE X b (RE B W mb)) : PE X (.BinOp a op b pos) (RE B W (mOp2 f ma mb)) :=
  pe_w (pe_op ho ha hb) fun _ _ _ => re_op2 hs
theorem pb_un {op : UnaryOp} {f : Op1} {r : V → Hp → VK → Prop} (ho : UnR X (unaryOp op) r) (hs : OpS1 B f r) (ha : PE X a (RE B W ma)) : PE X (.UnaryOp op a pos) (RE B W (mOp1 f ma)) :=
  pe_w (pe_un ho ha) fun _ _ _ => re_op1 hs
theorem pb_cmp {op : CmpOp} {f : Op2} {r : R2} (ho : OpR X (compareOp op) r) (hs : OpS2 B f r) (ha : PE X a (RE B W ma)) (hb : PE X b (RE B W mb)) (hm : behindInMarks op b = false) : PE X (.Compare a [op] [b] pos) (RE B W (mOp2 f ma mb)) :=
  pe_w (pe_cmpR ho ha hb hm) fun _ _ _ => re_op2 hs
theorem pb_ix {f : Op2} {r : R2} (ho : IxR X r) (hs : OpS2 B f r) (ha : PE X a (RE B W ma)) (hb : PE X b (RE B W mb)) (hp : PlainIx b) : PE X (.Subscript a b pos) (RE B W (mOp2 f ma mb)) :=
  pe_w (pe_ix ho ha hb hp) fun _ _ _ => re_op2 hs

end
end PB

set_option Elab.async false
set_option linter.all false
set_option maxRecDepth 100000
set_option maxHeartbeats 4000000
namespace PB
open PySem PySem.Spec PyProof.Rows L2
/-! ### data as the library's -/
mutual
def toPy : D → PyData
  | .non => .none
  | .bl b => .bool b
  | .int i => .int i
  | .str l => .str (mkS l)
  | .tup ds => .tuple (toPyL ds)
  | .lst ds => .list (toPyL ds)
  | .ref _ => .none
def toPyL : List D → List PyData
  | [] => []
  | d :: ds => toPy d :: toPyL ds
end
theorem mkS_inj {l m : List Nat} (h : mkS l = mkS m) : l = m := by
  have := congrArg (fun s => s.cps.toList) h
  simpa [mkS] using this
theorem mkS_beq (l m : List Nat) : (mkS l == mkS m) = (l == m) := by
  by_cases h : l = m
  · subst h
    simp
  · have h2 : ¬ mkS l = mkS m := fun z => h (mkS_inj z)
    rw [beq_eq_false_iff_ne.mpr h, beq_eq_false_iff_ne.mpr h2]
theorem mkS_len (l : List Nat) : (mkS l).length = l.length := by simp [mkS, Str.length]
theorem mkS_list (l : List Nat) : (mkS l).cps.toList = l := by simp [mkS]
mutual
theorem eqv_toPy : ∀ (x y : D), (∃ n, okE n x = true) → (∃ n, okE n y = true) → PyData.eqv (toPy x) (toPy y) = eqv x y
  | .non, y, _, hy => by cases y <;> first | rfl | (obtain ⟨n, h⟩ := hy; cases n <;> simp [okE] at h)
  | .bl _, y, _, hy => by cases y <;> first | rfl | (obtain ⟨n, h⟩ := hy; cases n <;> simp [okE] at h)
  | .int _, y, _, hy => by cases y <;> first | rfl | (obtain ⟨n, h⟩ := hy; cases n <;> simp [okE] at h)
  | .str _, y, _, hy => by cases y <;> first | rfl | exact mkS_beq _ _ | (obtain ⟨n, h⟩ := hy; cases n <;> simp [okE] at h)
  | .tup xs, y, hx, hy => by
    cases y with
    | tup ys => exact eqvL_toPy xs ys (by obtain ⟨n, h⟩ := hx; cases n <;> simp [okE] at h; exact ⟨_, h⟩) (by obtain ⟨n, h⟩ := hy; cases n <;> simp [okE] at h; exact ⟨_, h⟩)
    | ref _ => obtain ⟨n, h⟩ := hy; cases n <;> simp [okE] at h
    | _ => rfl
  | .lst xs, y, hx, hy => by
    cases y with
    | lst ys => exact eqvL_toPy xs ys (by obtain ⟨n, h⟩ := hx; cases n <;> simp [okE] at h; exact ⟨_, h⟩) (by obtain ⟨n, h⟩ := hy; cases n <;> simp [okE] at h; exact ⟨_, h⟩)
    | ref _ => obtain ⟨n, h⟩ := hy; cases n <;> simp [okE] at h
    | _ => rfl
  | .ref _, _, hx, _ => by obtain ⟨n, h⟩ := hx; cases n <;> simp [okE] at h
theorem eqvL_toPy : ∀ (xs ys : List D), (∃ n, okL n xs = true) → (∃ n, okL n ys = true) → PyData.eqvAll (toPyL xs) (toPyL ys) = eqvL xs ys
  | [], ys, _, _ => by cases ys <;> rfl
  | x :: xs, [], _, _ => rfl
  | x :: xs, y :: ys, hx, hy => by
    obtain ⟨n, hx⟩ := hx
    obtain ⟨m, hy⟩ := hy
    simp only [okL, Bool.and_eq_true] at hx hy
    show (PyData.eqv (toPy x) (toPy y) && PyData.eqvAll (toPyL xs) (toPyL ys)) = (eqv x y && eqvL xs ys)
    rw [eqv_toPy x y ⟨n, hx.1⟩ ⟨m, hy.1⟩, eqvL_toPy xs ys ⟨n, hx.2⟩ ⟨m, hy.2⟩]
end
section
variable {K : Frag} {O : Addr → Prop} {H : Hp}
mutual
theorem dp_of : ∀ {v : V} {d : D} {n : Nat}, At K O H v d → okE n d = true → Dp K H v (toPy d)
  | _, _, _, .non, _ => .non
  | _, _, _, .bl b, _ => .bl b
  | _, _, _, .int i, _ => .int i
  | _, _, _, .str l _ _, _ => .str _
  | _, _, 0, .tup _ _, e => by simp [okE] at e
  | _, _, 0, .lst _ _ _, e => by simp [okE] at e
  | _, _, n + 1, .tup h hs, e => .tup (tup_seq h) (dpL_of hs e)
  | _, _, n + 1, .lst h _ hs, e => .lst (SqL.of h) (dpL_of hs e)
  | _, _, 0, .ref _, e => by simp [okE] at e
  | _, _, _ + 1, .ref _, e => by simp [okE] at e
theorem dpL_of : ∀ {xs : List V} {ds : List D} {n : Nat}, AtL K O H xs ds → okL n ds = true → DpAll K H xs (toPyL ds)
  | _, _, _, .nil, _ => .nil
  | _, _, n, .cons h hs, e => by
    simp only [okL, Bool.and_eq_true] at e
    exact .cons (dp_of h e.1) (dpL_of hs e.2)
end
mutual
theorem lay_of : ∀ {v : V} {d : D} {n : Nat}, At K O H v d → okE n d = true → (toPy d).canLay0 = true ∧ (toPy d).depth ≤ n
  | _, _, _, .non, _ => ⟨by simp [toPy, PyData.canLay0], by simp [toPy, PyData.depth]⟩
  | _, _, _, .bl b, _ => ⟨by simp [toPy, PyData.canLay0], by simp [toPy, PyData.depth]⟩
  | _, _, _, .int i, _ => ⟨by simp [toPy, PyData.canLay0], by simp [toPy, PyData.depth]⟩
  | _, _, _, .str l _ h, _ => ⟨by
      simp only [toPy, PyData.canLay0, PyData.strOk, mkS]
      first
        | simpa using h
        | (unfold PyData.strOk; simpa using h), by simp [toPy, PyData.depth]⟩
  | _, _, 0, .tup _ _, e => by simp [okE] at e
  | _, _, 0, .lst _ _ _, e => by simp [okE] at e
  | _, _, n + 1, .tup h hs, e => by
    obtain ⟨h1, h2⟩ := layL_of hs e
    exact ⟨by simpa [toPy, PyData.canLay0] using h1, by simp only [toPy, PyData.depth]; omega⟩
  | _, _, n + 1, .lst h _ hs, e => by
    obtain ⟨h1, h2⟩ := layL_of hs e
    exact ⟨by simpa [toPy, PyData.canLay0] using h1, by simp only [toPy, PyData.depth]; omega⟩
  | _, _, 0, .ref _, e => by simp [okE] at e
  | _, _, _ + 1, .ref _, e => by simp [okE] at e
theorem layL_of : ∀ {xs : List V} {ds : List D} {n : Nat}, AtL K O H xs ds → okL n ds = true → PyData.canLayAll0 (toPyL ds) = true ∧ PyData.depthAll (toPyL ds) ≤ n
  | _, _, _, .nil, _ => ⟨by simp [toPyL, PyData.canLayAll0], by simp [toPyL, PyData.depthAll]⟩
  | _, _, n, .cons h hs, e => by
    simp only [okL, Bool.and_eq_true] at e
    obtain ⟨h1, h2⟩ := lay_of h e.1
    obtain ⟨h3, h4⟩ := layL_of hs e.2
    exact ⟨by simp [toPyL, PyData.canLayAll0, h1, h3], by simp only [toPyL, PyData.depthAll]; omega⟩
end
theorem shaped_of {v : V} {d : D} {n : Nat} (h : At K O H v d) (e : okE n d = true) (hn : n ≤ 64) : SeqAt.shaped (toPy d) = true := by
  obtain ⟨h1, h2⟩ := lay_of h e
  unfold SeqAt.shaped
  rw [h1, decide_eq_true (by omega)]
  rfl
end

/-! ### the operations -/
theorem szle {n : Nat} (h : n ≤ SZ) : n ≤ sizeLine := by
  rw [sizeLine_eq]
  exact h
theorem szlt {n : Nat} (h : n < SZ) : n < sizeLine := by
  rw [sizeLine_eq]
  exact h
theorem ixN_eq (n : Nat) (i : Int) : PB.ixN n i = L2.ixN n i := rfl
theorem atI_eq {α : Type} (xs : List α) (i : Int) : PB.atI xs i = L2.atI xs i := rfl
theorem AtL.atI {K : Frag} {O : Addr → Prop} {H : Hp} {xs : List V} {ds : List D} {i : Int} {d : D} (h : AtL K O H xs ds) (e : PB.atI ds i = some d) : ∃ v, L2.atI xs i = some v ∧ At K O H v d := by
  unfold PB.atI at e
  unfold L2.atI
  rw [h.length]
  rw [ixN_eq] at e
  cases q : L2.ixN ds.length i with
  | none =>
    rw [q] at e
    cases e
  | some j =>
    rw [q] at e
    exact h.get (by simpa using e)
section
variable {γ ι : Type} {B : Bs γ ι} {X : Cx}
theorem os_add : OpS2 B oAdd (fun x y H Q => rI0 (fun i j => .int (i + j)) x y H Q ∨ (∃ i j, x = .str i ∧ y = .str j ∧ i.length + j.length ≤ sizeLine ∧ Q (.str (i ++ j)) H) ∨ rCatA B.K x y H Q ∨ rCat x y H Q) := by
  intro S e g g1 σ H0 H x y z vx vy Q R x0 i1 ox oy hz hq
  unfold oAdd at hz
  split at hz
  · rename_i i j
    cases hz
    cases ox
    cases oy
    exact .inl ⟨i, j, rfl, rfl, hq _ H (.inl rfl) (.int _)⟩
  · rename_i s t
    split at hz
    · rename_i hl
      cases hz
      cases ox with
      | str _ h1 h2 =>
      cases oy with
      | str _ h3 h4 =>
      refine .inr (.inl ⟨mkS s, mkS t, rfl, rfl, by rw [mkS_len, mkS_len]; exact szle hl, ?_⟩)
      have ee : mkS s ++ mkS t = mkS (s ++ t) := by
        apply TL.ext_tl
        rw [TL.tl_append]
        rfl
      rw [ee]
      refine hq _ H (.inl rfl) (.str _ (by simpa using hl) ?_)
      rw [List.all_append, h2, h4]
      rfl
    · cases hz
  · rename_i s t
    split at hz
    · rename_i hl
      cases hz
      have oxc := ox
      have oyc := oy
      cases ox with
      | @tup a xs _ h1 h2 =>
      cases oy with
      | @tup b ys _ h3 h4 =>
      refine .inr (.inr (.inl ⟨a, b, xs, ys, rfl, rfl, tup_seq h1, tup_seq h3, by rw [h2.length, h4.length]; exact szle hl, fun ex => ?_, fun _ ey => ?_, fun _ _ p hp => ?_⟩))
      · subst ex
        cases h2
        exact hq _ H (.inl rfl) oyc
      · subst ey
        cases h4
        refine hq _ H (.inl rfl) ?_
        show At _ _ _ _ _
        rw [List.append_nil]
        exact oxc
      · exact hq _ _ (.inr ⟨p, _, hp, rfl⟩) (At.mkT R x0 i1 (h2.app h4) hp)
    · cases hz
  · split at hz
    · rename_i s t hs ht
      split at hz
      · rename_i hl
        cases hz
        obtain ⟨p, xs, rfl, hp, ap⟩ := ox.items R hs
        obtain ⟨q, ys, rfl, hq', aq⟩ := oy.items R ht
        refine .inr (.inr (.inr ⟨p, q, xs, ys, rfl, rfl, hp, hq', by rw [ap.length, aq.length]; exact szle hl, fun l hl => ?_⟩))
        exact hq _ _ (.inr ⟨l, _, hl, rfl⟩) (VOk.mk x0 i1 (ap.app aq) hl)
      · cases hz
    · cases hz
theorem or_add (hK : B.K = X.K) : OpR X (binaryOp .Add) (fun x y H Q => rI0 (fun i j => .int (i + j)) x y H Q ∨ (∃ i j, x = .str i ∧ y = .str j ∧ i.length + j.length ≤ sizeLine ∧ Q (.str (i ++ j)) H) ∨ rCatA B.K x y H Q ∨ rCat x y H Q) := by
  rw [hK]
  exact OpR.or op_add (OpR.or op_add_str (OpR.or op_catA op_cat))
theorem ior_add : OpR X (inplaceOp .Add) (fun x y H Q => rI0 (fun i j => .int (i + j)) x y H Q ∨ (∃ i j, x = .str i ∧ y = .str j ∧ i.length + j.length ≤ sizeLine ∧ Q (.str (i ++ j)) H)) := OpR.or iop_add iop_add_str
/-- in place: numbers, texts -/
theorem os_iadd : OpS2 B oIAdd (fun x y H Q => rI0 (fun i j => .int (i + j)) x y H Q ∨ (∃ i j, x = .str i ∧ y = .str j ∧ i.length + j.length ≤ sizeLine ∧ Q (.str (i ++ j)) H)) := by
  intro S e g g1 σ H0 H x y z vx vy Q R x0 i1 ox oy hz hq
  unfold oIAdd at hz
  split at hz
  · rename_i i j
    cases hz
    cases ox
    cases oy
    exact .inl ⟨i, j, rfl, rfl, hq _ H (.inl rfl) (.int _)⟩
  · have hz' := hz
    unfold oAdd at hz
    simp only at hz
    split at hz
    · rename_i s t hl
      cases hz
      cases ox with
      | str _ h1 h2 =>
      cases oy with
      | str _ h3 h4 =>
      refine .inr ⟨mkS s, mkS t, rfl, rfl, by rw [mkS_len, mkS_len]; exact szle hl, ?_⟩
      have ee : mkS s ++ mkS t = mkS (s ++ t) := by
        apply TL.ext_tl
        rw [TL.tl_append]
        rfl
      rw [ee]
      refine hq _ H (.inl rfl) (.str _ (by simpa using hl) ?_)
      rw [List.all_append, h2, h4]
      rfl
    · cases hz
  · cases hz
theorem os_I0 {g : Int → Int → Int} {f : Op2} (hf : ∀ x y z, f x y = some z → ∃ i j, x = .dat (.int i) ∧ y = .dat (.int j) ∧ z = .dat (.int (g i j))) : OpS2 B f (rI0 fun i j => .int (g i j)) := by
  intro S e g' g1 σ H0 H x y z vx vy Q R x0 i1 ox oy hz hq
  obtain ⟨i, j, rfl, rfl, rfl⟩ := hf x y z hz
  cases ox
  cases oy
  exact ⟨i, j, rfl, rfl, hq _ H (.inl rfl) (.int _)⟩
theorem os_IB {g : Int → Int → Bool} {f : Op2} (hf : ∀ x y z, f x y = some z → ∃ i j, x = .dat (.int i) ∧ y = .dat (.int j) ∧ z = .dat (.bl (g i j))) : OpS2 B f (rI0 fun i j => .bl (g i j)) := by
  intro S e g' g1 σ H0 H x y z vx vy Q R x0 i1 ox oy hz hq
  obtain ⟨i, j, rfl, rfl, rfl⟩ := hf x y z hz
  cases ox
  cases oy
  exact ⟨i, j, rfl, rfl, hq _ H (.inl rfl) (.bl _)⟩
theorem os_I {C : Int → Int → Prop} {g : Int → Int → Int} {f : Op2} (hf : ∀ x y z, f x y = some z → ∃ i j, x = .dat (.int i) ∧ y = .dat (.int j) ∧ C i j ∧ z = .dat (.int (g i j))) : OpS2 B f (rI C fun i j => .int (g i j)) := by
  intro S e g' g1 σ H0 H x y z vx vy Q R x0 i1 ox oy hz hq
  obtain ⟨i, j, rfl, rfl, c, rfl⟩ := hf x y z hz
  cases ox
  cases oy
  exact ⟨i, j, rfl, rfl, c, hq _ H (.inl rfl) (.int _)⟩
theorem os_sub : OpS2 B oSub (rI0 fun i j => .int (i - j)) := os_I0 fun x y z h => by
  unfold oSub at h
  split at h
  · cases h
    exact ⟨_, _, rfl, rfl, rfl⟩
  · cases h
theorem os_mul : OpS2 B oMul (rI CMulW fun i j => .int (i * j)) := os_I fun x y z h => by
  unfold oMul at h
  split at h
  · split at h
    · rename_i c
      cases h
      exact ⟨_, _, rfl, rfl, c, rfl⟩
    · cases h
  · cases h
theorem os_div : OpS2 B oDiv (rI CDivW fun i j => .int (i / j)) := os_I fun x y z h => by
  unfold oDiv at h
  split at h
  · split at h
    · rename_i c
      cases h
      exact ⟨_, _, rfl, rfl, c, rfl⟩
    · cases h
  · cases h
theorem os_mod : OpS2 B oMod (rI (fun _ j => 0 < j) fun i j => .int (i % j)) := os_I fun x y z h => by
  unfold oMod at h
  split at h
  · split at h
    · rename_i c
      cases h
      exact ⟨_, _, rfl, rfl, c, rfl⟩
    · cases h
  · cases h
theorem os_pow : OpS2 B oPow (rI CPow fun i j => .int (i ^ j.toNat)) := os_I fun x y z h => by
  unfold oPow at h
  split at h
  · split at h
    · rename_i c
      cases h
      exact ⟨_, _, rfl, rfl, c, rfl⟩
    · cases h
  · cases h
theorem os_neg : OpS1 B oNeg (rU fun i => .int (-i)) := by
  intro S e g g1 σ H0 H x z vx Q R x0 i1 ox hz hq
  unfold oNeg at hz
  split at hz
  · cases hz
    cases ox
    exact ⟨_, rfl, hq _ H (.inl rfl) (.int _)⟩
  · cases hz
theorem or_lt : OpR X (compareOp .Lt) (rI0 fun i j => .bl (decide (i < j))) := opB0 fun _ _ _ _ _ _ _ q => lt_int q
theorem or_le : OpR X (compareOp .LtE) (rI0 fun i j => .bl (decide (i ≤ j))) := opB0 fun _ _ _ _ _ _ _ q => le_int q
theorem or_gt : OpR X (compareOp .Gt) (rI0 fun i j => .bl (decide (j < i))) := opB0 fun _ _ _ _ _ _ _ q => gt_int q
theorem or_ge : OpR X (compareOp .GtE) (rI0 fun i j => .bl (decide (j ≤ i))) := opB0 fun _ _ _ _ _ _ _ q => ge_int q
theorem os_lt : OpS2 B oLt (rI0 fun i j => .bl (decide (i < j))) := os_IB fun x y z h => by
  unfold oLt at h
  split at h
  · cases h
    exact ⟨_, _, rfl, rfl, rfl⟩
  · cases h
theorem os_le : OpS2 B oLe (rI0 fun i j => .bl (decide (i ≤ j))) := os_IB fun x y z h => by
  unfold oLe at h
  split at h
  · cases h
    exact ⟨_, _, rfl, rfl, rfl⟩
  · cases h
theorem os_gt : OpS2 B oGt (rI0 fun i j => .bl (decide (j < i))) := os_IB fun x y z h => by
  unfold oGt at h
  split at h
  · cases h
    exact ⟨_, _, rfl, rfl, rfl⟩
  · cases h
theorem os_ge : OpS2 B oGe (rI0 fun i j => .bl (decide (j ≤ i))) := os_IB fun x y z h => by
  unfold oGe at h
  split at h
  · cases h
    exact ⟨_, _, rfl, rfl, rfl⟩
  · cases h
theorem os_eq : OpS2 B oEq (rEqD B.K) := by
  intro S e g g1 σ H0 H x y z vx vy Q R x0 i1 ox oy hz hq
  unfold oEq eqD at hz
  split at hz
  · rename_i c
    cases hz
    have ax := ox.weak R
    have ay := oy.weak R
    refine ⟨_, _, dp_of ax c.1, dp_of ay c.2, shaped_of ax c.1 (by omega), shaped_of ay c.2 (by omega), ?_⟩
    rw [eqv_toPy _ _ ⟨_, c.1⟩ ⟨_, c.2⟩]
    exact hq _ H (.inl rfl) (.bl _)
  · cases hz
theorem os_ne : OpS2 B oNe (rNeD B.K) := by
  intro S e g g1 σ H0 H x y z vx vy Q R x0 i1 ox oy hz hq
  unfold oNe eqD at hz
  split at hz
  · rename_i c
    cases hz
    have ax := ox.weak R
    have ay := oy.weak R
    refine ⟨_, _, dp_of ax c.1, dp_of ay c.2, shaped_of ax c.1 (by omega), shaped_of ay c.2 (by omega), ?_⟩
    rw [eqv_toPy _ _ ⟨_, c.1⟩ ⟨_, c.2⟩]
    exact hq _ H (.inl rfl) (.bl _)
  · cases hz
theorem or_eq (hK : B.K = X.K) (hu : X.A.units + 64 < cLine) : OpR X (compareOp .Eq) (rEqD B.K) := by
  rw [hK]
  exact op_eqD hu
theorem or_ne (hK : B.K = X.K) (hu : X.A.units + 64 < cLine) : OpR X (compareOp .NotEq) (rNeD B.K) := by
  rw [hK]
  exact op_neD hu
theorem flat_scl {K : Frag} {O : Addr → Prop} {H : Hp} {v : V} {d : D} (h : At K O H v d) (e : scl d = true) : flatV v = true := by
  cases h <;> first | rfl | cases e
theorem flats_scl {K : Frag} {O : Addr → Prop} {H : Hp} : ∀ {xs : List V} {ds : List D}, AtL K O H xs ds → ds.all scl = true → xs.all flatV = true
  | _, _, .nil, _ => rfl
  | _, _, .cons h hs, e => by
    rw [List.all_cons, Bool.and_eq_true] at e
    rw [List.all_cons, flat_scl h e.1, flats_scl hs e.2]
    rfl
theorem eqV_eqv {K : Frag} {O : Addr → Prop} {H : Hp} {v w : V} {d c : D} (h : At K O H v d) (k : At K O H w c) (e : scl d = true) (e2 : scl c = true) : eqV v w = eqv d c := by
  cases h <;> cases k <;> first | exact mkS_beq _ _ | rfl | cases e | cases e2
theorem inV_any {K : Frag} {O : Addr → Prop} {H : Hp} {w : V} {c : D} (k : At K O H w c) (e2 : scl c = true) : ∀ {xs : List V} {ds : List D}, AtL K O H xs ds → ds.all scl = true → inV w xs = ds.any fun d => eqv d c
  | _, _, .nil, _ => rfl
  | _, _, .cons h hs, e => by
    rw [List.all_cons, Bool.and_eq_true] at e
    have := inV_any k e2 hs e.2
    unfold inV at this ⊢
    rw [List.any_cons, List.any_cons, this, eqV_eqv h k e.1 e2]
theorem toPyL_any {c : D} {n : Nat} (hc : ∃ n, okE n c = true) : ∀ ds : List D, okL n ds = true → ((toPyL ds).any fun z => PyData.eqv z (toPy c)) = ds.any fun d => eqv d c
  | [], _ => rfl
  | d :: ds, h => by
    simp only [okL, Bool.and_eq_true] at h
    show (PyData.eqv (toPy d) (toPy c) || (toPyL ds).any _) = _
    rw [List.any_cons, eqv_toPy d c ⟨_, h.1⟩ hc, toPyL_any hc ds h.2]
theorem shapedL_of {K : Frag} {O : Addr → Prop} {H : Hp} {xs : List V} {ds : List D} {n : Nat} (h : AtL K O H xs ds) (e : okL n ds = true) (hn : n + 1 ≤ 64) : SeqAt.shaped (.list (toPyL ds)) = true := by
  obtain ⟨h1, h2⟩ := layL_of h e
  unfold SeqAt.shaped
  simp only [PyData.canLay0, PyData.depth, h1, Bool.true_and, decide_eq_true_eq]
  have : PyData.depthAll (toPyL ds) + 1 ≤ 64 := by omega
  exact decide_eq_true this
theorem os_in : OpS2 B oIn (fun x y H Q => rIn B.K false x y H Q ∨ rInD B.K x y H Q) := by
  intro S e g g1 σ H0 H x y z vx vy Q R x0 i1 ox oy hz hq
  unfold oIn at hz
  split at hz
  · rename_i c ds
    split at hz
    · rename_i k
      cases hz
      cases oy with
      | @tup a xs _ h1 h2 =>
      refine .inl ⟨a, xs, rfl, .inr (tup_seq h1), flat_scl ox k.1, flats_scl h2 k.2, ?_⟩
      rw [if_neg Bool.false_ne_true, inV_any ox k.1 h2 k.2]
      exact hq _ H (.inl rfl) (.bl _)
    · cases hz
  · split at hz
    · rename_i ds hs
      split at hz
      · rename_i k
        cases hz
        obtain ⟨p, xs, rfl, hp, ap⟩ := oy.items R hs
        have ax := ox.weak R
        refine .inr ⟨_, _, dp_of ax k.1, .lst (SqL.of hp) (dpL_of ap k.2), shaped_of ax k.1 (by omega), shapedL_of ap k.2 (by omega), ?_⟩
        rw [toPyL_any ⟨_, k.1⟩ ds k.2]
        exact hq _ H (.inl rfl) (.bl _)
      · cases hz
    · cases hz
theorem os_ni : OpS2 B oNi (fun x y H Q => rIn B.K true x y H Q ∨ rNotInD B.K x y H Q) := by
  intro S e g g1 σ H0 H x y z vx vy Q R x0 i1 ox oy hz hq
  unfold oNi at hz
  split at hz
  · rename_i c ds
    split at hz
    · rename_i k
      cases hz
      cases oy with
      | @tup a xs _ h1 h2 =>
      refine .inl ⟨a, xs, rfl, .inr (tup_seq h1), flat_scl ox k.1, flats_scl h2 k.2, ?_⟩
      rw [if_pos rfl, inV_any ox k.1 h2 k.2]
      exact hq _ H (.inl rfl) (.bl _)
    · cases hz
  · split at hz
    · rename_i ds hs
      split at hz
      · rename_i k
        cases hz
        obtain ⟨p, xs, rfl, hp, ap⟩ := oy.items R hs
        have ax := ox.weak R
        refine .inr ⟨_, _, dp_of ax k.1, .lst (SqL.of hp) (dpL_of ap k.2), shaped_of ax k.1 (by omega), shapedL_of ap k.2 (by omega), ?_⟩
        rw [toPyL_any ⟨_, k.1⟩ ds k.2]
        exact hq _ H (.inl rfl) (.bl _)
      · cases hz
    · cases hz
theorem or_in (hK : B.K = X.K) (hu : X.A.units + 65 < cLine) : OpR X (compareOp .In) (fun x y H Q => rIn B.K false x y H Q ∨ rInD B.K x y H Q) := by
  rw [hK]
  exact OpR.or op_in_seq (op_inD hu)
theorem or_ni (hK : B.K = X.K) (hu : X.A.units + 65 < cLine) : OpR X (compareOp .NotIn) (fun x y H Q => rIn B.K true x y H Q ∨ rNotInD B.K x y H Q) := by
  rw [hK]
  exact OpR.or op_notIn_seq (op_notInD hu)
theorem os_inS : OpS2 B oInS (fun x y H Q => ∃ (c : Nat) (z : Str), x = .str ⟨#[c]⟩ ∧ y = .str z ∧ Q (.bl (decide (c ∈ z.cps.toList))) H) := by
  intro S e g g1 σ H0 H x y z vx vy Q R x0 i1 ox oy hz hq
  unfold oInS at hz
  split at hz
  · cases hz
    cases ox
    cases oy
    refine ⟨_, _, rfl, rfl, ?_⟩
    rw [mkS_list]
    exact hq _ H (.inl rfl) (.bl _)
  · cases hz
theorem os_niS : OpS2 B oNiS (fun x y H Q => ∃ (c : Nat) (z : Str), x = .str ⟨#[c]⟩ ∧ y = .str z ∧ Q (.bl (!decide (c ∈ z.cps.toList))) H) := by
  intro S e g g1 σ H0 H x y z vx vy Q R x0 i1 ox oy hz hq
  unfold oNiS at hz
  split at hz
  · cases hz
    cases ox
    cases oy
    refine ⟨_, _, rfl, rfl, ?_⟩
    rw [mkS_list]
    exact hq _ H (.inl rfl) (.bl _)
  · cases hz
theorem all_cut {l : List Nat} {p : Nat → Bool} (h : l.all p = true) (lo hi : Option Int) : (PB.cut l lo hi).all p = true := by
  rw [List.all_eq_true] at h ⊢
  intro x hx
  exact h x (List.mem_of_mem_drop (List.mem_of_mem_take hx))
theorem os_ix : OpS2 B oIx (rIx B.K) := by
  intro S e g g1 σ H0 H x y z vx vy Q R x0 i1 ox oy hz hq
  unfold oIx at hz
  split at hz
  · rename_i ds i
    cases oy
    cases ox with
    | @tup a xs _ h1 h2 =>
    cases k : PB.atI ds i with
    | none =>
      rw [k] at hz
      cases hz
    | some d =>
      rw [k] at hz
      cases hz
      obtain ⟨v, e1, a1⟩ := h2.atI k
      exact .inr (.inl ⟨a, xs, i, v, rfl, rfl, tup_seq h1, e1, hq _ H (.inl rfl) a1⟩)
  · rename_i s i
    cases oy
    cases ox with
    | str _ h1 h2 =>
    cases k : PB.atI s i with
    | none =>
      rw [k] at hz
      cases hz
    | some c =>
      rw [k] at hz
      cases hz
      refine .inr (.inr ⟨mkS s, i, c, rfl, rfl, by rw [mkS_len]; exact szle h1, by rw [mkS_list]; exact k, hq _ H (.inl rfl) (At.str [c] (by show 1 ≤ 16777216; omega) ?_)⟩)
      have hm : c ∈ s := by
        unfold PB.atI at k
        cases q : PB.ixN s.length i with
        | none =>
          rw [q] at k
          cases k
        | some j =>
          rw [q] at k
          exact List.mem_of_getElem? (by simpa using k)
      rw [List.all_eq_true] at h2
      rw [List.all_cons, h2 c hm]
      rfl
  · split at hz
    · rename_i ds hs
      obtain ⟨p, xs, rfl, hp, ap⟩ := ox.items R hs
      cases oy
      rename_i i _ _ _
      cases k : PB.atI ds i with
      | none =>
        rw [k] at hz
        cases hz
      | some d =>
        rw [k] at hz
        cases hz
        obtain ⟨v, e1, a1⟩ := ap.atI k
        exact .inl ⟨p, xs, i, v, rfl, rfl, SqL.of hp, e1, hq _ H (.inl rfl) a1⟩
    · cases hz
  · cases hz
theorem ir_ix (hK : B.K = X.K) : IxR X (rIx B.K) := by
  rw [hK]
  exact ix_seq
/-! calls -/
theorem items_cases {x : Rv} {ds : List D} (h : x.items = some ds) : x = .dat (.lst ds) ∨ x = .own ds ∨ x = .bor ds := by
  cases x with
  | dat d =>
    cases d with
    | lst es =>
      cases h
      exact .inl rfl
    | _ => cases h
  | own es =>
    cases h
    exact .inr (.inl rfl)
  | bor es =>
    cases h
    exact .inr (.inr rfl)
theorem os_len : OpSN B oLen (fun xs H Q => ∃ x n, xs = [x] ∧ LenV B.K x H n ∧ Q (.int n) H) := by
  intro S e g g1 σ H0 H xs z vs Q R x0 i1 os hz hq
  unfold oLen at hz
  split at hz
  · cases hz
    cases os with
    | cons o os =>
    cases os
    cases o with
    | str _ h1 h2 => exact ⟨_, _, rfl, ⟨by rw [mkS_len]; exact szle h1, (mkS_len _).symm⟩, hq _ H (.inl rfl) (.int _)⟩
  · cases hz
    cases os with
    | cons o os =>
    cases os
    cases o with
    | @tup a ys _ h1 h2 => exact ⟨_, _, rfl, .inr ⟨ys, tup_seq h1, h2.length.symm⟩, hq _ H (.inl rfl) (.int _)⟩
  · rename_i x _ _
    cases k : x.items with
    | none =>
      rw [k] at hz
      cases hz
    | some ds =>
      rw [k] at hz
      cases hz
      cases os with
      | cons o os =>
      cases os
      obtain ⟨p, ys, rfl, hp, ap⟩ := o.items R k
      exact ⟨_, ds.length, rfl, .inl ⟨ys, SqL.of hp, ap.length.symm⟩, hq _ H (.inl rfl) (.int _)⟩
  · cases hz
theorem cl_len (hK : B.K = X.K) : CallR X (.builtin "len") (fun xs H Q => ∃ x n, xs = [x] ∧ LenV B.K x H n ∧ Q (.int n) H) := by
  rw [hK]
  exact call_len
theorem os_abs : OpSN B oAbs (fun xs H Q => ∃ i, xs = [.int i] ∧ Q (.int (if i < 0 then -i else i)) H) := by
  intro S e g g1 σ H0 H xs z vs Q R x0 i1 os hz hq
  unfold oAbs at hz
  split at hz
  · cases hz
    cases os with
    | cons o os =>
    cases os
    cases o
    exact ⟨_, rfl, hq _ H (.inl rfl) (.int _)⟩
  · cases hz
theorem os_max2 : OpSN B oMax2 (fun xs H Q => ∃ i j, xs = [.int i, .int j] ∧ Q (.int (if j > i then j else i)) H) := by
  intro S e g g1 σ H0 H xs z vs Q R x0 i1 os hz hq
  unfold oMax2 at hz
  split at hz
  · cases hz
    cases os with
    | cons o os =>
    cases os with
    | cons o2 os =>
    cases os
    cases o
    cases o2
    exact ⟨_, _, rfl, hq _ H (.inl rfl) (.int _)⟩
  · cases hz
theorem os_min2 : OpSN B oMin2 (fun xs H Q => ∃ i j, xs = [.int i, .int j] ∧ Q (.int (if j < i then j else i)) H) := by
  intro S e g g1 σ H0 H xs z vs Q R x0 i1 os hz hq
  unfold oMin2 at hz
  split at hz
  · cases hz
    cases os with
    | cons o os =>
    cases os with
    | cons o2 os =>
    cases os
    cases o
    cases o2
    exact ⟨_, _, rfl, hq _ H (.inl rfl) (.int _)⟩
  · cases hz
theorem os_sum : OpSN B oSum (rSum B.K) := by
  intro S e g g1 σ H0 H xs z vs Q R x0 i1 os hz hq
  unfold oSum at hz
  split at hz
  · split at hz
    · rename_i ds k
      cases e2 : dInts ds with
      | none =>
        rw [e2] at hz
        cases hz
      | some ns =>
        rw [e2] at hz
        cases hz
        cases os with
        | cons o os =>
        cases os
        obtain ⟨p, ys, rfl, hp, ap⟩ := o.items R k
        rw [ap.dInts e2] at hp
        exact ⟨p, ns, rfl, SqL.of hp, hq _ H (.inl rfl) (.int _)⟩
    · cases hz
  · cases hz
theorem lmax_mem : ∀ (n : Int) (ns : List Int), lmax n ns ∈ n :: ns ∧ ∀ y ∈ n :: ns, y ≤ lmax n ns
  | n, [] => by simp [lmax]
  | n, x :: xs => by
    obtain ⟨h1, h2⟩ := lmax_mem (if x > n then x else n) xs
    unfold lmax
    have h3 := h2 _ List.mem_cons_self
    have h4 : n ≤ (if x > n then x else n) ∧ x ≤ (if x > n then x else n) := by split <;> omega
    refine ⟨?_, fun y hy => ?_⟩
    · rcases List.mem_cons.mp h1 with h | h
      · rw [h]
        split <;> simp
      · simp [h]
    · rcases List.mem_cons.mp hy with e | hy
      · rw [e]
        exact Int.le_trans h4.1 h3
      · rcases List.mem_cons.mp hy with e | hy
        · rw [e]
          exact Int.le_trans h4.2 h3
        · exact h2 _ (List.mem_cons_of_mem _ hy)
theorem lmin_mem : ∀ (n : Int) (ns : List Int), lmin n ns ∈ n :: ns ∧ ∀ y ∈ n :: ns, lmin n ns ≤ y
  | n, [] => by simp [lmin]
  | n, x :: xs => by
    obtain ⟨h1, h2⟩ := lmin_mem (if x < n then x else n) xs
    unfold lmin
    have h3 := h2 _ List.mem_cons_self
    have h4 : (if x < n then x else n) ≤ n ∧ (if x < n then x else n) ≤ x := by split <;> omega
    refine ⟨?_, fun y hy => ?_⟩
    · rcases List.mem_cons.mp h1 with h | h
      · rw [h]
        split <;> simp
      · simp [h]
    · rcases List.mem_cons.mp hy with e | hy
      · rw [e]
        exact Int.le_trans h3 h4.1
      · rcases List.mem_cons.mp hy with e | hy
        · rw [e]
          exact Int.le_trans h3 h4.2
        · exact h2 _ (List.mem_cons_of_mem _ hy)
theorem os_maxL : OpSN B oMaxL (rMax B.K) := by
  intro S e g g1 σ H0 H xs z vs Q R x0 i1 os hz hq
  unfold oMaxL at hz
  split at hz
  · split at hz
    · rename_i ds k
      split at hz
      · rename_i n ns e2
        cases hz
        cases os with
        | cons o os =>
        cases os
        obtain ⟨p, ys, rfl, hp, ap⟩ := o.items R k
        rw [ap.dInts e2] at hp
        refine ⟨p, n :: ns, rfl, SqL.of hp, Nat.succ_pos _, fun m hm hle => ?_⟩
        obtain ⟨h1, h2⟩ := lmax_mem n ns
        have : m = lmax n ns := by
          have := hle _ h1
          have := h2 _ hm
          omega
        rw [this]
        exact hq _ H (.inl rfl) (.int _)
      · cases hz
    · cases hz
  · cases hz
theorem os_minL : OpSN B oMinL (rMin B.K) := by
  intro S e g g1 σ H0 H xs z vs Q R x0 i1 os hz hq
  unfold oMinL at hz
  split at hz
  · split at hz
    · rename_i ds k
      split at hz
      · rename_i n ns e2
        cases hz
        cases os with
        | cons o os =>
        cases os
        obtain ⟨p, ys, rfl, hp, ap⟩ := o.items R k
        rw [ap.dInts e2] at hp
        refine ⟨p, n :: ns, rfl, SqL.of hp, Nat.succ_pos _, fun m hm hle => ?_⟩
        obtain ⟨h1, h2⟩ := lmin_mem n ns
        have : m = lmin n ns := by
          have := hle _ h1
          have := h2 _ hm
          omega
        rw [this]
        exact hq _ H (.inl rfl) (.int _)
      · cases hz
    · cases hz
  · cases hz
theorem os_all : OpSN B oAll (rAll B.K) := by
  intro S e g g1 σ H0 H xs z vs Q R x0 i1 os hz hq
  unfold oAll at hz
  split at hz
  · split at hz
    · rename_i ds k
      cases e2 : dBls ds with
      | none =>
        rw [e2] at hz
        cases hz
      | some ns =>
        rw [e2] at hz
        cases hz
        cases os with
        | cons o os =>
        cases os
        obtain ⟨p, ys, rfl, hp, ap⟩ := o.items R k
        rw [ap.dBls e2] at hp
        exact ⟨p, ns, rfl, SqL.of hp, hq _ H (.inl rfl) (.bl _)⟩
    · cases hz
  · cases hz
theorem os_any : OpSN B oAny (rAny B.K) := by
  intro S e g g1 σ H0 H xs z vs Q R x0 i1 os hz hq
  unfold oAny at hz
  split at hz
  · split at hz
    · rename_i ds k
      cases e2 : dBls ds with
      | none =>
        rw [e2] at hz
        cases hz
      | some ns =>
        rw [e2] at hz
        cases hz
        cases os with
        | cons o os =>
        cases os
        obtain ⟨p, ys, rfl, hp, ap⟩ := o.items R k
        rw [ap.dBls e2] at hp
        exact ⟨p, ns, rfl, SqL.of hp, hq _ H (.inl rfl) (.bl _)⟩
    · cases hz
  · cases hz
theorem os_tuple : OpSN B oTuple (fun xs H Q => ∃ p ys, xs = [.ref p] ∧ ((SqL B.K H p ys ∧ ∀ l, H l = none → Q (.ref l) (upd H l (.tup ys))) ∨ (SqT B.K H p ys ∧ Q (.ref p) H))) := by
  intro S e g g1 σ H0 H xs z vs Q R x0 i1 os hz hq
  unfold oTuple at hz
  split at hz
  · cases hz
    cases os with
    | cons o os =>
    cases os
    have oc := o
    cases o with
    | @tup a ys ds h1 h2 => exact ⟨a, ys, rfl, .inr ⟨tup_seq h1, hq _ H (.inl rfl) oc⟩⟩
  · rename_i x _
    cases k : x.items with
    | none =>
      rw [k] at hz
      cases hz
    | some ds =>
      rw [k] at hz
      cases hz
      cases os with
      | cons o os =>
      cases os
      obtain ⟨p, ys, rfl, hp, ap⟩ := o.items R k
      exact ⟨p, ys, rfl, .inl ⟨SqL.of hp, fun l hl => hq _ _ (.inr ⟨l, _, hl, rfl⟩) (At.mkT R x0 i1 ap hl)⟩⟩
  · cases hz
theorem os_list : OpSN B oList (fun xs H Q => ∃ p ys, xs = [.ref p] ∧ (SqL B.K H p ys ∨ SqT B.K H p ys) ∧ ∀ l, H l = none → Q (.ref l) (upd H l (.lst ys))) := by
  intro S e g g1 σ H0 H xs z vs Q R x0 i1 os hz hq
  unfold oList at hz
  split at hz
  · cases hz
    cases os with
    | cons o os =>
    cases os
    cases o with
    | @tup a ys ds h1 h2 => exact ⟨a, ys, rfl, .inr (tup_seq h1), fun l hl => hq _ _ (.inr ⟨l, _, hl, rfl⟩) (VOk.mk x0 i1 h2 hl)⟩
  · rename_i x _
    cases k : x.items with
    | none =>
      rw [k] at hz
      cases hz
    | some ds =>
      rw [k] at hz
      cases hz
      cases os with
      | cons o os =>
      cases os
      obtain ⟨p, ys, rfl, hp, ap⟩ := o.items R k
      exact ⟨p, ys, rfl, .inl (SqL.of hp), fun l hl => hq _ _ (.inr ⟨l, _, hl, rfl⟩) (VOk.mk x0 i1 ap hl)⟩
  · cases hz
theorem os_int : OpSN B oInt (fun xs H Q => (∃ i, xs = [.int i] ∧ Q (.int i) H) ∨ ∃ k, xs = [.bl k] ∧ Q (.int (if k then 1 else 0)) H) := by
  intro S e g g1 σ H0 H xs z vs Q R x0 i1 os hz hq
  unfold oInt at hz
  split at hz
  · cases hz
    cases os with
    | cons o os =>
    cases os
    cases o
    exact .inl ⟨_, rfl, hq _ H (.inl rfl) (.int _)⟩
  · cases hz
    cases os with
    | cons o os =>
    cases os
    cases o
    exact .inr ⟨_, rfl, hq _ H (.inl rfl) (.int _)⟩
  · cases hz
theorem cl_sum (hK : B.K = X.K) (hc : X.calm = true) : CallR X (.builtin "sum") (rSum B.K) := by
  rw [hK]
  exact cr_sum hc
theorem cl_max (hK : B.K = X.K) (hc : X.calm = true) : CallR X (.builtin "max") (rMax B.K) := by
  rw [hK]
  exact cr_max hc
theorem cl_min (hK : B.K = X.K) (hc : X.calm = true) : CallR X (.builtin "min") (rMin B.K) := by
  rw [hK]
  exact cr_min hc
theorem cl_all (hK : B.K = X.K) (hc : X.calm = true) : CallR X (.builtin "all") (rAll B.K) := by
  rw [hK]
  exact cr_all hc
theorem cl_any (hK : B.K = X.K) (hc : X.calm = true) : CallR X (.builtin "any") (rAny B.K) := by
  rw [hK]
  exact cr_any hc
theorem cl_tuple (hK : B.K = X.K) : CallR X (.type "tuple") (fun xs H Q => ∃ p ys, xs = [.ref p] ∧ ((SqL B.K H p ys ∧ ∀ l, H l = none → Q (.ref l) (upd H l (.tup ys))) ∨ (SqT B.K H p ys ∧ Q (.ref p) H))) := by
  rw [hK]
  exact call_tuple_of
theorem cl_list (hK : B.K = X.K) : CallR X (.type "list") (fun xs H Q => ∃ p ys, xs = [.ref p] ∧ (SqL B.K H p ys ∨ SqT B.K H p ys) ∧ ∀ l, H l = none → Q (.ref l) (upd H l (.lst ys))) := by
  rw [hK]
  exact call_list_of
end
end PB

set_option Elab.async false
set_option linter.all false
set_option maxRecDepth 100000
set_option maxHeartbeats 4000000
namespace PB
open PySem PySem.Spec PyProof.Rows L2
section
variable {γ ι : Type} {B : Bs γ ι} {W : WX} {X : Cx} {pos : Pos} {a b c e : Expr} {es : List Expr} {ma mb mc : ME γ} {mr : MA γ} {ta tb tc : MT γ}
/-! ### arguments, displays -/
theorem pb_nil : PA X [] (RA B W mNil) := pa_w pa_nil fun σ H Q ⟨S, e, g, R, h⟩ => h [] H (.refl H) R.gh .nil
theorem pb_cons (ha : PE X e (RE B W ma)) (hr : PA X es (RA B W mr)) (hs : starEach (e :: es) X.env = (false, eval e X.env) :: starEach es X.env := by rfl) : PA X (e :: es) (RA B W (mCons ma mr)) := by
  refine pa_w (pa_cons ha hr hs) fun σ H Q ⟨S, e, g, R, h⟩ => ?_
  refine ⟨S, e, g, R, RK.bind (.refl H) h fun x g1 vx H1 _ x1 i1 o1 h1 => ?_⟩
  refine ⟨S, e, g1, R.exe x1 i1, RK.bind x1 h1 fun y g2 vy H2 x12 x2 i2 o2 h2 => ?_⟩
  exact h2 (vx :: vy) H2 x2 i2 (.cons (o1.step R x12) (o2.pre x1 i1))
theorem pb_tup {x1} (h : PA X es (RA B W mr)) : PE X (.Tuple es x1 pos) (RE B W (mTup mr)) := by
  refine pe_w (pe_tup h) fun σ H Q ⟨S, e, g, R, h⟩ => ?_
  refine ⟨S, e, g, R, RK.bind (.refl H) h fun x g1 vx H1 _ x1 i1 o1 h1 => ?_⟩
  split at h1
  · rename_i ds hs
    split at h1
    · rename_i hl
      have al := o1.sto R hs
      exact ⟨by rw [al.length]; exact szle hl, fun p hp => h1 _ _ (x1.trans (.new hp)) (Gho.new i1 hp) (At.mkT R x1 i1 al hp)⟩
    · exact h1.elim
  · exact h1.elim
theorem pb_lst (h : PA X es (RA B W mr)) : PE X (.List es pos) (RE B W (mLst mr)) := by
  refine pe_w (pe_lst h) fun σ H Q ⟨S, e, g, R, h⟩ => ?_
  refine ⟨S, e, g, R, RK.bind (.refl H) h fun x g1 vx H1 _ x1 i1 o1 h1 => ?_⟩
  split at h1
  · rename_i ds hs
    split at h1
    · rename_i hl
      have al := o1.sto R hs
      exact ⟨by rw [al.length]; exact szle hl, fun p hp => h1 _ _ (x1.trans (.new hp)) (Gho.new i1 hp) (VOk.mk x1 i1 al hp)⟩
    · exact h1.elim
  · exact h1.elim
/-- a built-in function by its name -/
theorem pb_cb {x : Str} {p : Pos} {id : String} {f : OpN} {r : List V → Hp → VK → Prop} (hc : CallR X (.builtin id) r) (hs : OpSN B f r) (hg : Gl X x) (hm : X.mg x = none) (hv : bootBuiltins x = some (.builtin id)) (ha : PA X (e :: es) (RA B W mr)) (hn : x ≠ "__name__" := by decide) (hdb : (x == ("__debug__" : Str)) = false := by decide)
    (he : starEach (e :: es) X.env = (false, eval e X.env) :: starEach es X.env := by rfl) (hpl : (backTo pos (starEach es X.env)).any (·.1) = false := by rfl) : PE X (.Call (.Name x p) (e :: es) [] pos) (RE B W (mOpN f mr)) :=
  pe_w (pe_callB hc hg hm hv ha hn hdb he hpl) fun _ _ _ => re_opN hs
theorem pb_ct {x : Str} {p : Pos} {T : String} {f : OpN} {r : List V → Hp → VK → Prop} (hc : CallR X (.type T) r) (hs : OpSN B f r) (hg : Gl X x) (hm : X.mg x = none) (hv : bootBuiltins x = some (.type T)) (ha : PA X (e :: es) (RA B W mr)) (hn : x ≠ "__name__" := by decide) (hdb : (x == ("__debug__" : Str)) = false := by decide)
    (he : starEach (e :: es) X.env = (false, eval e X.env) :: starEach es X.env := by rfl) (hpl : (backTo pos (starEach es X.env)).any (·.1) = false := by rfl) : PE X (.Call (.Name x p) (e :: es) [] pos) (RE B W (mOpN f mr)) :=
  pe_w (pe_callTy hc hg hm hv ha hn hdb he hpl) fun _ _ _ => re_opN hs
/-! ### chains, slices, choices -/
theorem vok_bl {A : Act γ ι} {e : Env} {σ : L2.St} {H0 H : Hp} {b : Bool} : VOk A e σ H0 H (dB b) (.bl b) := .bl b
theorem pb_chain {op op' : CmpOp} {f f' : Op2} {r r' : R2} (ho : OpR X (compareOp op) r) (hs : OpS2 B f r) (ho' : OpR X (compareOp op') r') (hs' : OpS2 B f' r') (ha : PE X a (RE B W ma)) (hb : PE X b (RE B W mb)) (hc : PE X c (RE B W mc))
    (hm : lastMarks [op, op'] [b, c] = false := by with_unfolding_all rfl) : PE X (.Compare a [op, op'] [b, c] pos) (RE B W (mChain f f' ma mb mc)) := by
  refine pe_w (pe_chain ho ho' ha hb hc hm) fun σ H Q ⟨S, e, g, R, h⟩ => ?_
  refine ⟨S, e, g, R, RK.bind (.refl H) h fun x g1 vx H1 _ x1 i1 o1 h1 => ?_⟩
  refine ⟨S, e, g1, R.exe x1 i1, RK.bind x1 h1 fun y g2 vy H2 x12 x2 i2 o2 h2 => ?_⟩
  have o1' := o1.step R x12
  have o2' := o2.pre x1 i1
  split at h2
  · rename_i q
    refine hs S e g g2 σ H H2 x y _ vx vy _ R x2 i2 o1' o2' q fun v H3 n o => ?_
    cases o
    have x23 := x2.trans (n.exe (A := ⟨B, S⟩))
    refine ⟨true, rfl, ?_⟩
    rw [if_pos rfl]
    refine ⟨S, e, g2, R.exe x23 (n.gh i2), RK.bind x23 h2 fun z g3 vz H4 x34 x4 i4 o3 h3 => ?_⟩
    obtain ⟨w, ew, q4⟩ := h3.ofO
    exact hs' S e g g3 σ H H4 y z w vy vz Q R x4 i4 (o2'.step R (n.exe.trans x34)) (o3.pre x23 (n.gh i2)) ew fun v H' n o => q4 v H' (x4.trans n.exe) (n.gh i4) o
  · rename_i q
    refine hs S e g g2 σ H H2 x y _ vx vy _ R x2 i2 o1' o2' q fun v H3 n o => ?_
    cases o
    refine ⟨false, rfl, ?_⟩
    rw [if_neg Bool.false_ne_true]
    exact h2 _ H3 (x2.trans n.exe) (n.gh i2) (.bl _)
  · exact h2.elim
theorem pb_if {p q : Expr} (ht : PT X c (RT B W tc)) (ha : PE X p (RE B W ma)) (hb : PE X q (RE B W mb)) : PE X (.IfExp c p q pos) (RE B W (mIf tc ma mb)) := by
  refine pe_w (pe_ifExp ht ha hb) fun σ H Q ⟨S, e, g, R, h⟩ => ?_
  refine ⟨S, e, g, R, RK.bind (.refl H) h fun x g1 vx H1 _ x1 i1 o1 h1 => ?_⟩
  cases o1
  cases x with
  | true =>
    rw [if_pos rfl]
    refine ⟨S, e, g1, R.exe x1 i1, ?_⟩
    refine RK.bind (f := fun r g => .ok r g) x1 (m := ma e g1) (by cases k : ma e g1 <;> (simp only [k] at h1; first | exact h1 | skip)) fun y g2 vy H2 x12 x2 i2 o2 h2 => h2 vy H2 x2 i2 (o2.pre x1 i1)
  | false =>
    rw [if_neg Bool.false_ne_true]
    refine ⟨S, e, g1, R.exe x1 i1, ?_⟩
    refine RK.bind (f := fun r g => .ok r g) x1 (m := mb e g1) (by cases k : mb e g1 <;> (simp only [k] at h1; first | exact h1 | skip)) fun y g2 vy H2 x12 x2 i2 o2 h2 => h2 vy H2 x2 i2 (o2.pre x1 i1)
/-- going on from a later heap -/
theorem RK.late {A : Act γ ι} {e : Env} {g1 : γ} {σ : L2.St} {H H1 : Hp} {r : Rs γ Rv} {Q : VK} (x1 : ExE A H H1) (i1 : A.G.I g1 H1) (h : RK VOk A W e σ H r Q) : RK VOk A W e σ H1 r Q := by
  cases r with
  | no => exact h
  | ex y g => exact fun c od H' x' => h c od H' (x1.trans x')
  | ok y g => exact fun v H' x' i o => h v H' (x1.trans x') i (o.pre x1 i1)
theorem RK.lateB {A : Act γ ι} {e : Env} {σ : L2.St} {H H1 : Hp} {r : Rs γ Bool} {Q : Bool → Hp → Prop} (x1 : ExE A H H1) (h : RK PB_ A W e σ H r Q) : RK PB_ A W e σ H1 r Q := by
  cases r with
  | no => exact h
  | ex y g => exact fun c od H' x' => h c od H' (x1.trans x')
  | ok y g => exact fun v H' x' i o => h v H' (x1.trans x') i o
/-! ### truths as values -/
theorem pb_one {op} (h : PE X a (RE B W ma)) : PE X (.BoolOp op [a] pos) (RE B W ma) := pe_one h
theorem pb_andV {rest : List Expr} (ha : PE X a (RE B W ma)) (hb : PE X (.BoolOp .And (b :: rest) pos) (RE B W mb)) : PE X (.BoolOp .And (a :: b :: rest) pos) (RE B W (mAndV ma mb)) := by
  refine pe_w (pe_and ha hb) fun σ H Q ⟨S, e, g, R, h⟩ => ?_
  refine ⟨S, e, g, R, RK.bind (.refl H) h fun x g1 vx H1 _ x1 i1 o1 h1 => ?_⟩
  split at h1
  · cases o1
    refine ⟨true, rfl, ?_⟩
    rw [if_pos rfl]
    exact ⟨S, e, g1, R.exe x1 i1, h1.late x1 i1⟩
  · cases o1
    refine ⟨false, rfl, ?_⟩
    rw [if_neg Bool.false_ne_true]
    exact h1 _ H1 x1 i1 (.bl _)
  · exact h1.elim
theorem pb_orV {rest : List Expr} (ha : PE X a (RE B W ma)) (hb : PE X (.BoolOp .Or (b :: rest) pos) (RE B W mb)) : PE X (.BoolOp .Or (a :: b :: rest) pos) (RE B W (mOrV ma mb)) := by
  refine pe_w (pe_or ha hb) fun σ H Q ⟨S, e, g, R, h⟩ => ?_
  refine ⟨S, e, g, R, RK.bind (.refl H) h fun x g1 vx H1 _ x1 i1 o1 h1 => ?_⟩
  split at h1
  · cases o1
    refine ⟨true, rfl, ?_⟩
    rw [if_pos rfl]
    exact h1 _ H1 x1 i1 (.bl _)
  · cases o1
    refine ⟨false, rfl, ?_⟩
    rw [if_neg Bool.false_ne_true]
    exact ⟨S, e, g1, R.exe x1 i1, h1.late x1 i1⟩
  · exact h1.elim
theorem pb_notV (ha : PE X a (RE B W ma)) : PE X (.UnaryOp .Not a pos) (RE B W (mNotV ma)) := by
  refine pe_w (pe_not ha) fun σ H Q ⟨S, e, g, R, h⟩ => ?_
  refine ⟨S, e, g, R, RK.bind (.refl H) h fun x g1 vx H1 _ x1 i1 o1 h1 => ?_⟩
  split at h1
  · cases o1
    exact ⟨_, rfl, h1 _ H1 x1 i1 (.bl _)⟩
  · exact h1.elim
/-! ### tests -/
theorem rt_test {σ : L2.St} {H : Hp} {Q : Bool → Hp → Prop} (h : RT B W (mTest ma) σ H Q) : RE B W ma σ H fun x H' => ∃ k, x = .bl k ∧ Q k H' := by
  obtain ⟨S, e, g, R, h⟩ := h
  refine ⟨S, e, g, R, RK.bind (.refl H) h fun x g1 vx H1 _ x1 i1 o1 h1 => ?_⟩
  split at h1
  · cases o1
    exact ⟨_, rfl, h1 _ H1 x1 i1 rfl⟩
  · exact h1.elim
/-- any expression that comes to a truth, as a test -/
theorem pb_val (h : PE X a (RE B W ma)) (he : ∀ whole, isTrue a X.env whole = (do let v ← whole; standAt a.pos; holding [v] (truthy v)) := by intro _; rfl) : PT X a (RT B W (mTest ma)) := pt_w (pt_val h he) fun _ _ _ => rt_test
/-- a comparison as a test -/
theorem pb_tcmp {op : CmpOp} {f : Op2} {r : R2} (ho : OpR X (compareOp op) r) (hs : OpS2 B f r) (ha : PE X a (RE B W ma)) (hb : PE X b (RE B W mb)) (hm : behindInMarks op b = false) : PT X (.Compare a [op] [b] pos) (RT B W (mTest (mOp2 f ma mb))) := by
  refine pt_w (pt_cmpR ho ha hb hm) fun σ H Q h => ?_
  have h' := rt_test h
  exact re_op2 hs h'
theorem pb_tchain {op op' : CmpOp} {f f' : Op2} {r r' : R2} (ho : OpR X (compareOp op) r) (hs : OpS2 B f r) (ho' : OpR X (compareOp op') r') (hs' : OpS2 B f' r') (ha : PE X a (RE B W ma)) (hb : PE X b (RE B W mb)) (hc : PE X c (RE B W mc))
    (hm : lastMarks [op, op'] [b, c] = false := by with_unfolding_all rfl) : PT X (.Compare a [op, op'] [b, c] pos) (RT B W (mTest (mChain f f' ma mb mc))) := by
  refine pt_w (pt_chain ho ho' ha hb hc hm) fun σ H Q h => ?_
  obtain ⟨S, e, g, R, h⟩ := rt_test h
  refine ⟨S, e, g, R, RK.bind (.refl H) h fun x g1 vx H1 _ x1 i1 o1 h1 => ?_⟩
  refine ⟨S, e, g1, R.exe x1 i1, RK.bind x1 h1 fun y g2 vy H2 x12 x2 i2 o2 h2 => ?_⟩
  have o1' := o1.step R x12
  have o2' := o2.pre x1 i1
  split at h2
  · rename_i q
    refine hs S e g g2 σ H H2 x y _ vx vy _ R x2 i2 o1' o2' q fun v H3 n o => ?_
    cases o
    have x23 := x2.trans (n.exe (A := ⟨B, S⟩))
    refine ⟨true, rfl, ?_⟩
    rw [if_pos rfl]
    refine ⟨S, e, g2, R.exe x23 (n.gh i2), RK.bind x23 h2 fun z g3 vz H4 x34 x4 i4 o3 h3 => ?_⟩
    obtain ⟨w, ew, q4⟩ := h3.ofO
    exact hs' S e g g3 σ H H4 y z w vy vz _ R x4 i4 (o2'.step R (n.exe.trans x34)) (o3.pre x23 (n.gh i2)) ew fun v H' n o => q4 v H' (x4.trans n.exe) (n.gh i4) o
  · rename_i q
    refine hs S e g g2 σ H H2 x y _ vx vy _ R x2 i2 o1' o2' q fun v H3 n o => ?_
    cases o
    refine ⟨false, rfl, ?_⟩
    rw [if_neg Bool.false_ne_true]
    exact h2 _ H3 (x2.trans n.exe) (n.gh i2) (.bl _)
  · exact h2.elim
theorem tru_of {A : Act γ ι} {e : Env} {g g1 : γ} {σ : L2.St} {H0 H : Hp} (R : Rep A e g σ H0) {x : Rv} {v : V} {k : Bool} (o : VOk A e σ H0 H x v) (h : oTru x = some k) : TruV A.K v H k := by
  unfold oTru at h
  split at h
  · cases h
    cases o
    exact rfl
  · cases h
    cases o
    exact rfl
  · cases h
    cases o
    exact rfl
  · rename_i s
    cases h
    cases o with
    | str _ h1 h2 =>
    refine ⟨by rw [mkS_len]; exact szle h1, ?_⟩
    rw [mkS_len]
    cases s with
    | nil => rfl
    | cons c r =>
      rw [Bool.eq_iff_iff]
      simp
      omega
  · cases h
    cases o with
    | @tup a xs _ h1 h2 =>
    refine .inr (.inl ⟨xs, tup_seq h1, ?_⟩)
    cases h2 <;> rfl
  · cases h
  · obtain ⟨ds, k2, ek⟩ := Option.map_eq_some_iff.mp h
    obtain ⟨p, ys, rfl, hp, ap⟩ := o.items R k2
    refine .inl ⟨ys, SqL.of hp, ?_⟩
    rw [← ek]
    cases ap <;> rfl
theorem pb_tru (hK : B.K = X.K) (ha : PE X a (RE B W ma)) (he : ∀ whole, isTrue a X.env whole = (do let v ← whole; standAt a.pos; holding [v] (truthy v)) := by intro _; rfl) : PT X a (RT B W (mTru ma)) := by
  refine pt_w (pt_truth ha he) fun σ H Q ⟨S, e, g, R, h⟩ => ?_
  refine ⟨S, e, g, R, RK.bind (.refl H) h fun x g1 vx H1 _ x1 i1 o1 h1 => ?_⟩
  obtain ⟨k, ek, q⟩ := h1.ofO
  refine ⟨k, ?_, q k H1 x1 i1 rfl⟩
  rw [← hK]
  exact tru_of (g1 := g1) R o1 ek
theorem rt_and {σ : L2.St} {H : Hp} {Q : Bool → Hp → Prop} (h : RT B W (mAnd ta tb) σ H Q) : tAnd (RT B W ta) (RT B W tb) σ H Q := by
  obtain ⟨S, e, g, R, h⟩ := h
  refine ⟨S, e, g, R, RK.bind (.refl H) h fun x g1 vx H1 _ x1 i1 o1 h1 => ?_⟩
  cases o1
  cases x with
  | true =>
    rw [if_pos rfl]
    exact ⟨S, e, g1, R.exe x1 i1, RK.lateB x1 h1⟩
  | false =>
    rw [if_neg Bool.false_ne_true]
    exact h1 _ H1 x1 i1 rfl
theorem rt_or {σ : L2.St} {H : Hp} {Q : Bool → Hp → Prop} (h : RT B W (mOr ta tb) σ H Q) : tOr (RT B W ta) (RT B W tb) σ H Q := by
  obtain ⟨S, e, g, R, h⟩ := h
  refine ⟨S, e, g, R, RK.bind (.refl H) h fun x g1 vx H1 _ x1 i1 o1 h1 => ?_⟩
  cases o1
  cases x with
  | false =>
    rw [if_neg Bool.false_ne_true]
    exact ⟨S, e, g1, R.exe x1 i1, RK.lateB x1 h1⟩
  | true =>
    rw [if_pos rfl]
    exact h1 _ H1 x1 i1 rfl
theorem pb_and1 (ha : PT X a (RT B W ta)) : PW X (.BoolOp .And [a] pos) (RT B W ta) := pw_and1 ha
theorem pb_or1 (ha : PT X a (RT B W ta)) : PW X (.BoolOp .Or [a] pos) (RT B W ta) := pw_or1 ha
theorem pb_and {rest : List Expr} (ha : PT X a (RT B W ta)) (hb : PW X (.BoolOp .And (b :: rest) pos) (RT B W tb)) : PW X (.BoolOp .And (a :: b :: rest) pos) (RT B W (mAnd ta tb)) := pw_w (pw_and ha hb) fun _ _ _ => rt_and
theorem pb_or {rest : List Expr} (ha : PT X a (RT B W ta)) (hb : PW X (.BoolOp .Or (b :: rest) pos) (RT B W tb)) : PW X (.BoolOp .Or (a :: b :: rest) pos) (RT B W (mOr ta tb)) := pw_w (pw_or ha hb) fun _ _ _ => rt_or
theorem pb_not (ha : PT X a (RT B W ta)) : PT X (.UnaryOp .Not a pos) (RT B W (mNot ta)) := by
  refine pt_w (pt_not ha) fun σ H Q ⟨S, e, g, R, h⟩ => ?_
  refine ⟨S, e, g, R, RK.bind (.refl H) h fun x g1 vx H1 _ x1 i1 o1 h1 => ?_⟩
  cases o1
  exact h1 _ H1 x1 i1 rfl
end
end PB

set_option Elab.async false
set_option linter.all false
set_option maxRecDepth 100000
set_option maxHeartbeats 4000000
namespace PB
open PySem PySem.Spec PyProof.Rows L2
/-! ### the promise of a def -/
section
variable {γ ι : Type}
/-- what is handed back -/
def FRet (K : Frag) (S : Addr → Prop) (H H' : Hp) (r : Rv) (v : V) : Prop := match r with
  | .dat d => At K S H' v d
  | .own ds => ∃ p xs, v = .ref p ∧ H p = none ∧ H' p = some (.lst xs) ∧ AtL K (fun a => S a ∨ a = p) H' xs ds
  | .bor _ => False
/-- .. that no exception leaves -/
def spOf (K : Frag) (fam : ι → Gho γ) (n : Nat) (F : MF γ) : Sp := fun vs H Q E => ∃ (i : ι) (S : Addr → Prop) (ds : List D) (g : γ), vs.length = n ∧ (∀ a, (fam i).F a → S a) ∧ (∀ a, S a → Stk (H a)) ∧ AtL K S H vs ds ∧ (fam i).I g H ∧
  match F ds g with
  | .ok r g' => ∀ v H', (∀ b o, H b = some o → ¬ (fam i).F b → H' b = some o) → (fam i).I g' H' → FRet K S H H' r v → Q v H'
  | .ex x g' => False
  | .no => False
variable {B : Bs γ ι} {W : WX} {X : Cx} {pos pz : Pos} {e : Expr} {es : List Expr} {mr : MA γ} {F : MF γ}
theorem VOkL.length {A : Act γ ι} {e : Env} {σ : L2.St} {H0 H : Hp} : ∀ {rs : List Rv} {vs : List V}, VOkL A e σ H0 H rs vs → vs.length = rs.length
  | _, _, .nil => rfl
  | _, _, .cons _ h => by rw [List.length_cons, List.length_cons, h.length]
theorem fret_vok {A : Act γ ι} {e : Env} {g g1 : γ} {σ : L2.St} {H0 H H' : Hp} (R : Rep A e g σ H0) (x : ExE A H0 H) (i1 : A.G.I g1 H) {r : Rv} {v : V} (h : FRet A.K (Om A e σ) H H' r v) : VOk A e σ H0 H' r v := by
  cases r with
  | dat d => exact h
  | own ds =>
    obtain ⟨q, xs, e1, h0, k, a⟩ := h
    exact ⟨q, xs, e1, x.back h0 i1, k, a⟩
  | bor ds => exact h.elim
theorem call_go {n : Nat} {σ : L2.St} {H : Hp} {Q : VK} (h : RE B W (mCall F mr) σ H Q) (hl : ∀ e g rs g', mr e g = .ok rs g' → rs.length = n) : tCall (spOf B.K B.fam n F) [] E0 (RA B W mr) σ H Q := by
  obtain ⟨S, e, g, R, h⟩ := h
  refine ⟨S, e, g, R, ?_⟩
  have hl' := hl e g
  unfold mCall at h
  cases q : mr e g with
  | no =>
    rw [q] at h
    exact h
  | ex y g1 =>
    rw [q] at h
    exact h
  | ok rs g1 =>
    rw [q] at h
    intro vs H1 x1 i1 o1
    have h1 : RK VOk ⟨B, S⟩ W e σ H (match stoL rs with | some ds => okO (F ds g1) | none => .no) Q := h
    cases ks : stoL rs with
    | none =>
      rw [ks] at h1
      exact h1.elim
    | some ds =>
      rw [ks] at h1
      have al := o1.sto R ks
      have R1 := R.exe x1 i1
      have hn : rs.length = n := hl' _ _ q
      have hvl : vs.length = n := by rw [← hn, o1.length]
      have h1 : RK VOk ⟨B, S⟩ W e σ H (okO (F ds g1)) Q := h1
      rw [List.append_nil]
      refine ⟨B.i, Om ⟨B, S⟩ e σ, ds, g1, hvl, fun a z => .inl (R.fx a z), fun a z => R1.oms z, al, i1, ?_⟩
      cases kf : F ds g1 with
      | no =>
        rw [kf] at h1
        exact h1
      | ex y g2 =>
        rw [kf] at h1
        exact h1
      | ok r g2 =>
        rw [kf] at h1
        exact fun v H' x' i' o' => h1 v H' (x1.trans x') i' (fret_vok R x1 i1 o')
theorem len_nil : ∀ (e : Env) (g : γ) rs g', (mNil : MA γ) e g = .ok rs g' → rs.length = 0 := fun e g rs g' h => by
  cases h
  rfl
theorem len_cons {a : ME γ} {r : MA γ} {n : Nat} (hr : ∀ e g rs g', r e g = .ok rs g' → rs.length = n) : ∀ (e : Env) (g : γ) rs g', mCons a r e g = .ok rs g' → rs.length = n + 1 := fun e g rs g' h => by
  unfold mCons at h
  cases q : a e g with
  | no =>
    rw [q] at h
    cases h
  | ex y g1 =>
    rw [q] at h
    cases h
  | ok x g1 =>
    rw [q] at h
    have h2 : (r e g1).bind (fun xs g2 => .ok (x :: xs) g2) = .ok rs g' := h
    cases q2 : r e g1 with
    | no =>
      rw [q2] at h2
      cases h2
    | ex y g1 =>
      rw [q2] at h2
      cases h2
    | ok xs g2 =>
      rw [q2] at h2
      cases h2
      rw [List.length_cons, hr _ _ _ _ q2]
/-- f(..), no exception leaves f -/
theorem pb_call {k : Nat} {n : Nat} {f : Addr} {fd : FuncData} {ps : List Str} {x : Str} (G : FnOk X.prog X.w X.K X.mg X.base CX0 k f fd ps (spOf B.K B.fam n F)) (hr : Room k X.A) (hg : Gl X x) (hm : X.mg x = some (.ref f)) (hk : PySem.W.keepIn X.K (.ref f) = true) (hb : Binds X.K fd ps [])
    (ha : PA X (e :: es) (RA B W mr)) (hl : ∀ e g rs g', mr e g = .ok rs g' → rs.length = n) (hdb : (x == ("__debug__" : Str)) = false := by decide) (he : starEach (e :: es) X.env = (false, eval e X.env) :: starEach es X.env := by rfl) (hpl : (backTo pos (starEach es X.env)).any (·.1) = false := by rfl) :
    PE X (.Call (.Name x pz) (e :: es) [] pos) (RE B W (mCall F mr)) :=
  pe_w (pe_call G hr hg hm hk hb .nil pass0 ha hdb he hpl) fun σ H Q h => call_go h hl

/-! ### slots -/
theorem gt_st (e : Env) (i j : Nat) (x : Sl) : gt (st e i x) j = if j = i ∧ i < e.length then x else gt e j := by
  induction e generalizing i j with
  | nil => simp [st, gt]
  | cons s r ih =>
    cases i with
    | zero =>
      cases j with
      | zero => simp [st, gt]
      | succ j => simp [st, gt]
    | succ i =>
      cases j with
      | zero => simp [st, gt]
      | succ j =>
        simp only [st, gt, ih, List.length_cons, Nat.add_right_cancel_iff, Nat.add_lt_add_iff_right]
theorem len_st (e : Env) (i : Nat) (x : Sl) : (st e i x).length = e.length := by
  induction e generalizing i with
  | nil => rfl
  | cons s r ih =>
    cases i with
    | zero => rfl
    | succ i => simp [st, ih]
theorem gt_out {e : Env} {i : Nat} (h : e.length ≤ i) : gt e i = .un := by
  induction e generalizing i with
  | nil => rfl
  | cons s r ih =>
    cases i with
    | zero => simp at h
    | succ i => exact ih (by simpa using h)
theorem set_at {σ : L2.St} {i j : Nat} {v : Option V} : (σ.set i v)[j]? = if j = i ∧ i < σ.length then some v else σ[j]? := by
  rw [List.getElem?_set]
  by_cases h : i = j
  · subst h
    by_cases h2 : i < σ.length
    · rw [if_pos rfl, if_pos h2, if_pos ⟨rfl, h2⟩]
    · rw [if_pos rfl, if_neg h2, if_neg (fun z => h2 z.2)]
      exact (List.getElem?_eq_none (by omega)).symm
  · rw [if_neg h, if_neg (fun z => h z.1.symm)]
/-- a step of statements -/
structure Stp (A : Act γ ι) (e : Env) (σ : L2.St) (H : Hp) (e' : Env) (σ' : L2.St) (H' : Hp) : Prop where
  keep : ∀ b o, H b = some o → ¬ Mu A e σ b → H' b = some o
  mu : ∀ b, OwnA e' σ' b → OwnA e σ b ∨ H b = none
section
variable {A : Act γ ι} {e e' e2 : Env} {g g1 g2 : γ} {σ σ' σ2 : L2.St} {H H' H2 H1 H0 : Hp} {v : V} {d : D} {i : Nat} {p : Addr}
theorem Stp.refl : Stp A e σ H e σ H := ⟨fun _ _ h _ => h, fun _ h => .inl h⟩
theorem Stp.exe (R : Rep A e g σ H) (x : ExE A H H') : Stp A e σ H e σ H' := ⟨fun b o h n => x b o h fun z => n (.inl z), fun _ h => .inl h⟩
theorem Stp.trans (R' : Rep A e' g σ' H') (a : Stp A e σ H e' σ' H') (b : Stp A e' σ' H' e2 σ2 H2) : Stp A e σ H e2 σ2 H2 where
  keep := fun c o h n => b.keep c o (a.keep c o h n) fun z => z.elim (fun z => n (.inl z)) fun z => (a.mu c z).elim (fun z => n (.inr z)) fun z => by
    rw [z] at h
    cases h
  mu := fun c z => by
    rcases b.mu c z with z | z
    · exact a.mu c z
    · by_cases q : OwnA e σ c
      · exact .inl q
      · cases k : H c with
        | none => exact .inr rfl
        | some o =>
          by_cases f : A.G.F c
          · exact absurd z (A.G.trk _ _ _ R'.gh f)
          · have := a.keep c o k fun z => z.elim f q
            rw [z] at this
            cases this
/-- values through a step -/
theorem Stp.go (R : Rep A e g σ H) (s : Stp A e σ H e' σ' H') : ∀ a o, H a = some o → ¬ Om A e σ a → H' a = some o ∧ ¬ Om A e' σ' a := fun a o q n =>
  ⟨s.keep a o q fun z => n (R.muom z), fun z => z.elim (fun z => n (.inl z)) fun z => (s.mu a z).elim (fun z => n (.inr z)) fun z => by
    rw [z] at q
    cases q⟩
/-- a name's slot comes to hold data -/
theorem own_st (h : OwnA (st e i (.dat d)) (σ.set i (some v)) p) (hl : σ.length = e.length) : OwnA e σ p := by
  obtain ⟨j, ds, h1, h2⟩ := h
  rw [gt_st] at h1
  rw [set_at] at h2
  by_cases c : j = i ∧ i < e.length
  · rw [if_pos c] at h1
    cases h1
  · rw [if_neg c] at h1
    rw [hl, if_neg c] at h2
    exact ⟨j, ds, h1, h2⟩
theorem Rep.set (R : Rep A e g σ H) (a : At A.K (Om A e σ) H v d) (i : Nat) : Rep A (st e i (.dat d)) g (σ.set i (some v)) H where
  len := by rw [List.length_set, len_st, R.len]
  sl := fun j => by
    have less : ∀ a, Om A (st e i (.dat d)) (σ.set i (some v)) a → Om A e σ a := fun a z => z.elim .inl fun z => .inr (own_st z R.len)
    rw [gt_st, set_at, R.len]
    by_cases c : j = i ∧ i < e.length
    · rw [if_pos c, if_pos c]
      exact ⟨v, rfl, a.less less⟩
    · rw [if_neg c, if_neg c]
      have q := R.sl j
      cases h : gt e j with
      | un => trivial
      | dat d2 =>
        rw [h] at q
        obtain ⟨w, e1, a1⟩ := q
        exact ⟨w, e1, a1.less less⟩
      | own ds =>
        rw [h] at q
        obtain ⟨p, xs, e1, k, a1⟩ := q
        exact ⟨p, xs, e1, k, a1.less less⟩
      | xc y =>
        rw [h] at q
        exact q
      | gh y =>
        rw [h] at q
        exact q
  inj := fun j k dj dk p h1 h2 h3 h4 => by
    rw [gt_st] at h1 h2
    rw [set_at, R.len] at h3 h4
    by_cases c : j = i ∧ i < e.length
    · rw [if_pos c] at h1
      cases h1
    · by_cases c2 : k = i ∧ i < e.length
      · rw [if_pos c2] at h2
        cases h2
      · rw [if_neg c] at h1 h3
        rw [if_neg c2] at h2 h4
        exact R.inj j k dj dk p h1 h2 h3 h4
  nx := fun a z => R.nx a (own_st z R.len)
  gh := R.gh
  fx := R.fx
  xs := R.xs
theorem Stp.set (R : Rep A e g σ H) (i : Nat) : Stp A e σ H (st e i (.dat d)) (σ.set i (some v)) H := ⟨fun _ _ h _ => h, fun _ z => .inl (own_st z R.len)⟩
/-- .. a new list of its own -/
theorem Rep.setO (R0 : Rep A e g σ H0) (x : ExE A H0 H) (R : Rep A e g1 σ H) {ds : List D} (o : VOk A e σ H0 H (.own ds) v) (i : Nat) : Rep A (st e i (.own ds)) g1 (σ.set i (some v)) H ∧ ∀ b, OwnA (st e i (.own ds)) (σ.set i (some v)) b → OwnA e σ b ∨ H0 b = none := by
  obtain ⟨p, xs, e1, h0, k, al⟩ := o
  subst e1
  have own : ∀ b, OwnA (st e i (.own ds)) (σ.set i (some (.ref p))) b → OwnA e σ b ∨ b = p := fun b ⟨j, es, h1, h2⟩ => by
    rw [gt_st] at h1
    rw [set_at, R.len] at h2
    by_cases c : j = i ∧ i < e.length
    · rw [if_pos c] at h2
      cases h2
      exact .inr rfl
    · rw [if_neg c] at h1 h2
      exact .inl ⟨j, es, h1, h2⟩
  have np : ¬ A.X p := fun z => R0.xt p z h0
  have nown : ¬ OwnA e σ p := fun z => by
    obtain ⟨xs, q⟩ := z.some R0
    rw [h0] at q
    cases q
  have go : ∀ a o, H0 a = some o → ¬ Om A e σ a → H a = some o ∧ ¬ Om A (st e i (.own ds)) (σ.set i (some (.ref p))) a := fun a o q n =>
    ⟨x a o q fun z => n (.inl (R0.fx a z)), fun z => z.elim (fun z => n (.inl z)) fun z => (own a z).elim (fun z => n (.inr z)) fun z => by
      subst z
      rw [h0] at q
      cases q⟩
  refine ⟨⟨by rw [List.length_set, len_st, R.len], fun j => ?_, fun j k2 dj dk q h1 h2 h3 h4 => ?_, fun a z => ?_, R.gh, R.fx, R.xs⟩, fun b z => (own b z).elim .inl fun z => .inr (by rw [z]; exact h0)⟩
  · rw [gt_st, set_at, R.len]
    by_cases c : j = i ∧ i < e.length
    · rw [if_pos c, if_pos c]
      exact ⟨p, xs, rfl, k, al.less fun a z => z.elim (fun z => .inl (.inl z)) fun z => (own a z).elim (fun z => .inl (.inr z)) .inr⟩
    · rw [if_neg c, if_neg c]
      have q := R0.sl j
      cases h : gt e j with
      | un => trivial
      | dat d2 =>
        rw [h] at q
        obtain ⟨w, e1, a1⟩ := q
        exact ⟨w, e1, a1.go go⟩
      | own es =>
        rw [h] at q
        obtain ⟨q2, ys, e1, k1, a1⟩ := q
        exact ⟨q2, ys, e1, x _ _ k1 (R0.notF ⟨j, es, h, e1⟩), a1.go go⟩
      | xc y =>
        rw [h] at q
        exact ⟨q.1, q.2.go fun p fs k => x p _ k fun z => R0.nxd k (.inl (R0.fx p z))⟩
      | gh y =>
        rw [h] at q
        exact q
  · rw [gt_st] at h1 h2
    rw [set_at, R.len] at h3 h4
    by_cases c : j = i ∧ i < e.length
    · by_cases c2 : k2 = i ∧ i < e.length
      · rw [c.1, c2.1]
      · rw [if_pos c] at h3
        cases h3
        rw [if_neg c2] at h2 h4
        exact absurd ⟨k2, dk, h2, h4⟩ nown
    · by_cases c2 : k2 = i ∧ i < e.length
      · rw [if_pos c2] at h4
        cases h4
        rw [if_neg c] at h1 h3
        exact absurd ⟨j, dj, h1, h3⟩ nown
      · rw [if_neg c] at h1 h3
        rw [if_neg c2] at h2 h4
        exact R.inj j k2 dj dk q h1 h2 h3 h4
  · rcases own a z with z | z
    · exact R.nx a z
    · rw [z]
      exact np
end

/-! ### statements -/
/-- what is handed back: seen from a statement's beginning -/
def VRet (A : Act γ ι) (e : Env) (σ : L2.St) (H H' : Hp) (r : Rv) (v : V) : Prop := match r.ret with
  | .dat d => At A.K A.X H' v d
  | .own ds => ∃ p xs, v = .ref p ∧ (OwnA e σ p ∨ H p = none) ∧ ¬ A.X p ∧ H' p = some (.lst xs) ∧ AtL A.K (fun a => A.X a ∨ a = p) H' xs ds
  | .bor _ => False
def RSK (A : Act γ ι) (W : WX) (e : Env) (σ : L2.St) (H : Hp) (r : Rs γ Fl) (Dd : Ends) : Prop := match r with
  | .ok (.nx e') g' => ∀ σ' H', Rep A e' g' σ' H' → Stp A e σ H e' σ' H' → Dd.nx σ' H'
  | .ok (.bk e') g' => ∀ σ' H', Rep A e' g' σ' H' → Stp A e σ H e' σ' H' → Dd.bk σ' H'
  | .ok (.ct e') g' => ∀ σ' H', Rep A e' g' σ' H' → Stp A e σ H e' σ' H' → Dd.ct σ' H'
  | .ok (.rt r) g' => ∀ v H', (∀ b o, H b = some o → ¬ Mu A e σ b → H' b = some o) → A.G.I g' H' → VRet A e σ H H' r v → Dd.rt v H'
  | .ex x g' => ∀ c od σ' H', (∀ b o, H b = some o → ¬ Mu A e σ b → H' b = some o) → A.G.I g' H' → A.R x c od H' → W c od σ' H'
  | .no => False
def RS (B : Bs γ ι) (W : WX) (m : MS γ) : TS := fun Dd σ H => ∃ (S : Addr → Prop) (e : Env) (g : γ), Rep ⟨B, S⟩ e g σ H ∧ RSK ⟨B, S⟩ W e σ H (m e g) Dd
section
variable {A : Act γ ι} {e0 e' e2 : Env} {g g1 g2 : γ} {σ σ' σ2 : L2.St} {H H' H2 H1 H0 : Hp} {v : V} {d : D} {i : Nat}
theorem VRet.pre (R' : Rep A e' g σ' H') (s : Stp A e0 σ H e' σ' H') {r : Rv} (h : VRet A e' σ' H' H2 r v) : VRet A e0 σ H H2 r v := by
  unfold VRet at h ⊢
  cases k : r.ret with
  | dat d =>
    rw [k] at h
    exact h
  | own ds =>
    rw [k] at h
    obtain ⟨p, xs, e1, h0, nx, kk, a⟩ := h
    refine ⟨p, xs, e1, ?_, nx, kk, a⟩
    rcases h0 with z | z
    · exact s.mu p z
    · cases q : H p with
      | none => exact .inr rfl
      | some o =>
        by_cases f : Mu A e0 σ p
        · rcases f with f | f
          · exact absurd z (A.G.trk _ _ _ R'.gh f)
          · exact .inl f
        · have := s.keep p o q f
          rw [z] at this
          cases this
  | bor ds =>
    rw [k] at h
    exact h.elim
theorem Stp.kp (R' : Rep A e' g σ' H') (s : Stp A e0 σ H e' σ' H') (h : ∀ b o, H' b = some o → ¬ Mu A e' σ' b → H2 b = some o) : ∀ b o, H b = some o → ¬ Mu A e0 σ b → H2 b = some o := fun b o q n =>
  h b o (s.keep b o q n) fun z => z.elim (fun z => n (.inl z)) fun z => (s.mu b z).elim (fun z => n (.inr z)) fun z => by
    rw [z] at q
    cases q
/-- the rest, from a later place -/
theorem RSK.late {Dd : Ends} {r : Rs γ Fl} (R' : Rep A e' g σ' H') (s : Stp A e0 σ H e' σ' H') (h : RSK A W e0 σ H r Dd) : RSK A W e' σ' H' r Dd := by
  cases r with
  | no => exact h
  | ex x g' => exact fun c od σ2 H2 k => h c od σ2 H2 (s.kp R' k)
  | ok f g' =>
    cases f with
    | nx e2 => exact fun σ2 H2 R2 s2 => h σ2 H2 R2 (s.trans R' s2)
    | bk e2 => exact fun σ2 H2 R2 s2 => h σ2 H2 R2 (s.trans R' s2)
    | ct e2 => exact fun σ2 H2 R2 s2 => h σ2 H2 R2 (s.trans R' s2)
    | rt r => exact fun v H2 k i o => h v H2 (s.kp R' k) i (o.pre R' s)
/-- a statement that begins with an expression -/
theorem RSK.bind {α β : Type} {P : Act γ ι → Env → L2.St → Hp → Hp → α → β → Prop} {m : Rs γ α} {f : α → γ → Rs γ Fl} {Dd : Ends} {k : β → Hp → Prop} (R : Rep A e0 g σ H) (h : RSK A W e0 σ H (m.bind f) Dd)
    (hk : ∀ a g1 b H2, ExE A H H2 → A.G.I g1 H2 → P A e0 σ H H2 a b → RSK A W e0 σ H (f a g1) Dd → k b H2) : RK P A W e0 σ H m k := by
  cases m with
  | no => exact h
  | ex y g => exact fun c od H' x i r => h c od σ H' (fun b o q n => x b o q fun z => n (.inl z)) i r
  | ok a g => exact fun b H' x' i p => hk a g b H' x' i p h
end
variable {Dd : Ends} {σ : L2.St} {H : Hp} {ma mb : ME γ} {ta : MT γ} {s1 s2 : MS γ} {a : Expr}
theorem pb_snil : PSs X [] (RS B W mPass) := pss_w pss_nil fun Dd σ H ⟨S, e, g, R, h⟩ => h σ H R .refl
theorem pb_sone {st : Stmt} (h : PS X st (RS B W s1)) : PSs X [st] (RS B W s1) := pss_one h
theorem rs_seq (h : RS B W (mSeq s1 s2) Dd σ H) : tSeq (RS B W s1) (RS B W s2) Dd σ H := by
  obtain ⟨S, e, g, R, h⟩ := h
  refine ⟨S, e, g, R, ?_⟩
  unfold mSeq at h
  cases k : s1 e g with
  | no =>
    rw [k] at h
    exact h
  | ex x g' =>
    rw [k] at h
    exact h
  | ok f g' =>
    rw [k] at h
    cases f with
    | nx e1 => exact fun σ' H' R' s' => ⟨S, e1, g', R', RSK.late R' s' h⟩
    | rt r => exact h
    | bk e1 => exact h
    | ct e1 => exact h
theorem pb_scons {st : Stmt} {rest : List Stmt} (h1 : PS X st (RS B W s1)) (h2 : PSs X rest (RS B W s2)) : PSs X (st :: rest) (RS B W (mSeq s1 s2)) := pss_w (pss_cons h1 h2) fun _ _ _ => rs_seq
/-- ahead of a block a name's list becomes data -/
theorem frz_own {A : Act γ ι} {e : Env} {g : γ} {σ : L2.St} {H : Hp} (R : Rep A e g σ H) {i : Nat} {ds : List D} (hi : gt e i = .own ds) : Rep A (st e i (.dat (.lst ds))) g σ H ∧ Stp A e σ H (st e i (.dat (.lst ds))) σ H := by
  have q := R.sl i
  rw [hi] at q
  obtain ⟨p, xs, e1, k, al⟩ := q
  have own : ∀ b, OwnA (st e i (.dat (.lst ds))) σ b → OwnA e σ b ∧ b ≠ p := fun b ⟨j, es, h1, h2⟩ => by
    rw [gt_st] at h1
    by_cases c : j = i ∧ i < e.length
    · rw [if_pos c] at h1
      cases h1
    · rw [if_neg c] at h1
      refine ⟨⟨j, es, h1, h2⟩, fun z => ?_⟩
      subst z
      have hji := R.inj j i es ds b h1 hi h2 e1
      subst hji
      apply c
      refine ⟨rfl, ?_⟩
      by_cases hlt : j < e.length
      · exact hlt
      · rw [gt_out (by omega)] at hi
        cases hi
  have less : ∀ a, Om A (st e i (.dat (.lst ds))) σ a → Om A e σ a := fun a z => z.elim .inl fun z => .inr (own a z).1
  refine ⟨⟨by rw [len_st, R.len], fun j => ?_, fun j k2 dj dk q h1 h2 h3 h4 => ?_, fun a z => R.nx a (own a z).1, R.gh, R.fx, R.xs⟩, ⟨fun _ _ h _ => h, fun b z => .inl (own b z).1⟩⟩
  · rw [gt_st]
    by_cases c : j = i ∧ i < e.length
    · rw [if_pos c, c.1, e1]
      exact ⟨_, rfl, .lst k (fun z => z.elim (fun z => R.nx p ⟨i, ds, hi, e1⟩ z) fun z => (own p z).2 rfl) (al.less less)⟩
    · rw [if_neg c]
      have q := R.sl j
      cases h : gt e j with
      | un => trivial
      | dat d2 =>
        rw [h] at q
        obtain ⟨w, e1, a1⟩ := q
        exact ⟨w, e1, a1.less less⟩
      | own es =>
        rw [h] at q
        obtain ⟨q2, ys, e1, k1, a1⟩ := q
        exact ⟨q2, ys, e1, k1, a1.less less⟩
      | xc y =>
        rw [h] at q
        exact q
      | gh y =>
        rw [h] at q
        exact q
  · rw [gt_st] at h1 h2
    by_cases c : j = i ∧ i < e.length
    · rw [if_pos c] at h1
      cases h1
    · by_cases c2 : k2 = i ∧ i < e.length
      · rw [if_pos c2] at h2
        cases h2
      · rw [if_neg c] at h1
        rw [if_neg c2] at h2
        exact R.inj j k2 dj dk q h1 h2 h3 h4
theorem pb_frz (i : Nat) {sts : List Stmt} (h : PSs X sts (RS B W s2)) : PSs X sts (RS B W (mSeq (mFrz i) s2)) := pss_w h fun Dd σ H ⟨S, e, g, R, h⟩ => by
  unfold mSeq mFrz at h
  cases k : gt e i with
  | un =>
    rw [k] at h
    exact ⟨S, e, g, R, h⟩
  | dat d =>
    rw [k] at h
    exact ⟨S, e, g, R, h⟩
  | xc y =>
    rw [k] at h
    exact ⟨S, e, g, R, h⟩
  | gh y =>
    rw [k] at h
    exact ⟨S, e, g, R, h⟩
  | own ds =>
    rw [k] at h
    obtain ⟨R2, s2⟩ := frz_own R k
    exact ⟨S, _, g, R2, RSK.late R2 s2 h⟩
theorem pb_pass : PS X (.Pass pos) (RS B W mPass) := ps_w ps_pass fun Dd σ H ⟨S, e, g, R, h⟩ => h σ H R .refl
theorem pb_brk : PS X (.Break pos) (RS B W mBreak) := ps_w ps_break fun Dd σ H ⟨S, e, g, R, h⟩ => h σ H R .refl
theorem pb_cont : PS X (.Continue pos) (RS B W mCont) := ps_w ps_continue fun Dd σ H ⟨S, e, g, R, h⟩ => h σ H R .refl
theorem pb_expr (ha : PE X a (RE B W ma)) (hs : swapsWith a none pos.line X.env = pure false := by rfl) : PS X (.Expr a pos) (RS B W (mDrop ma)) := ps_w (ps_expr ha hs) fun Dd σ H ⟨S, e, g, R, h⟩ =>
  ⟨S, e, g, R, RSK.bind R h fun x g1 v H1 x1 i1 o1 h1 => h1 σ H1 (R.exe x1 i1) (.exe R x1)⟩
theorem vret_of {A : Act γ ι} {e : Env} {g : γ} {σ : L2.St} {H H' : Hp} (R : Rep A e g σ H) {r : Rv} {v : V} (o : VOk A e σ H H' r v) : VRet A e σ H H' r v := by
  cases r with
  | dat d => exact At.less (fun a z => .inl z) o
  | own ds =>
    obtain ⟨p, xs, e1, h0, k, a⟩ := o
    exact ⟨p, xs, e1, .inr h0, fun z => R.xt p z h0, k, a.less fun a z => z.elim (fun z => .inl (.inl z)) .inr⟩
  | bor ds =>
    obtain ⟨p, xs, e1, h0, k, a⟩ := o
    exact ⟨p, xs, e1, .inl h0, R.nx p h0, k, a.less fun a z => z.elim .inl fun z => by
      rw [z]
      exact .inr h0⟩
theorem pb_ret (ha : PE X a (RE B W ma)) : PS X (.Return (some a) pos) (RS B W (mRet ma)) := ps_w (ps_ret ha) fun Dd σ H ⟨S, e, g, R, h⟩ =>
  ⟨S, e, g, R, RSK.bind R h fun x g1 v H1 x1 i1 o1 h1 => h1 v H1 (fun b o q n => x1 b o q fun z => n (.inl z)) i1 (vret_of R o1)⟩
theorem pb_retN : PS X (.Return none pos) (RS B W mRetN) := ps_w ps_retN fun Dd σ H ⟨S, e, g, R, h⟩ => h .non H (fun _ _ q _ => q) R.gh .non
theorem rs_lateE {A : Act γ ι} {e : Env} {g g1 : γ} {σ : L2.St} {H H1 : Hp} {r : Rs γ Fl} (R : Rep A e g σ H) (x1 : ExE A H H1) (i1 : A.G.I g1 H1) (h : RSK A W e σ H r Dd) : RSK A W e σ H1 r Dd := RSK.late (R.exe x1 i1) (.exe R x1) h
theorem pb_sif {c : Expr} {p q : List Stmt} (hc : PT X c (RT B W ta)) (hp : PSs X p (RS B W s1)) (hq : PSs X q (RS B W s2)) : PS X (.If c p q pos) (RS B W (mIfS ta s1 s2)) := ps_w (ps_if hc hp hq) fun Dd σ H ⟨S, e, g, R, h⟩ => by
  refine ⟨S, e, g, R, RSK.bind R h fun x g1 v H1 x1 i1 o1 h1 => ?_⟩
  cases o1
  cases x with
  | true =>
    rw [if_pos rfl]
    exact ⟨S, e, g1, R.exe x1 i1, rs_lateE R x1 i1 h1⟩
  | false =>
    rw [if_neg Bool.false_ne_true]
    exact ⟨S, e, g1, R.exe x1 i1, rs_lateE R x1 i1 h1⟩
theorem pb_nev {st : Stmt} : PS X st (RS B W mNev) := ps_w ps_never fun Dd σ H ⟨S, e, g, R, h⟩ => h
theorem pb_set {i : Nat} {x : Str} {pos' : Pos} (hN : X.N.Nodup) (hi : X.N[i]? = some x) (hx : Loc X.env.scope x) (ha : PE X a (RE B W ma)) (hs : swapsWith a (some (.Name x pos')) pos.line X.env = pure false := by rfl) (hf : X.fn x = true ∨ X.env.scope.names.lookup x = some .local := by first | exact .inl rfl | exact .inr rfl | assumption) :
    PS X (.Assign [.Name x pos'] a pos) (RS B W (mSet i ma)) := ps_w (ps_set hN hi hx ha hs hf) fun Dd σ H ⟨S, e, g, R, h⟩ => by
  refine ⟨S, e, g, R, RSK.bind R h fun r g1 v H1 x1 i1 o1 h1 => ?_⟩
  have R1 := R.exe x1 i1
  cases r with
  | dat d =>
    have o1' : At B.K (Om ⟨B, S⟩ e σ) H1 v d := o1
    exact h1 _ _ (R1.set o1' i) (.trans R1 (.exe R x1) (.set R1 i))
  | own ds =>
    obtain ⟨R2, ow⟩ := Rep.setO R x1 R1 o1 i
    exact h1 _ _ R2 ⟨fun b o q n => x1 b o q fun z => n (.inl z), ow⟩
  | bor ds => exact h1.elim
theorem pb_par {i j : Nat} {x y : Str} {a b : Expr} {px py pt : Pos} {kt k2 pt2} (hc : X.calm = true) (hN : X.N.Nodup) (hi : X.N[i]? = some x) (hj : X.N[j]? = some y) (hij : i ≠ j)
    (hx : X.env.scope.names.lookup x = some .local) (hy : X.env.scope.names.lookup y = some .local) (ha : PE X a (RE B W ma)) (hb : PE X b (RE B W mb))
    (hw : swappedStores [.Tuple [.Name x px, .Name y py] kt pt] (.Tuple [a, b] k2 pt2) X.env = pure (some [x, y]) := by rfl)
    (hs : swapsWithSole [.Tuple [.Name x px, .Name y py] kt pt] (.Tuple [a, b] k2 pt2) pos.line X.env = pure false := by rfl)
    (hsa : starEach [a, b] X.env = (false, eval a X.env) :: starEach [b] X.env := by rfl) (hsb : starEach [b] X.env = (false, eval b X.env) :: starEach [] X.env := by rfl) :
    PS X (.Assign [.Tuple [.Name x px, .Name y py] kt pt] (.Tuple [a, b] k2 pt2) pos) (RS B W (mPar i j ma mb)) := by
  refine ps_w (ps_par hc hN hi hj hij hx hy (pa_cons ha (pa_cons hb pa_nil hsb) hsa) hw hs) fun Dd σ H ⟨S, e, g, R, h⟩ => ?_
  refine ⟨S, e, g, R, RSK.bind R h fun r g1 v H1 x1 i1 o1 h1 => ?_⟩
  have R1 := R.exe x1 i1
  refine ⟨S, e, g1, R1, RSK.bind R1 (rs_lateE R x1 i1 h1) fun r2 g2 v2 H2 x2 i2 o2 h2 => ?_⟩
  have R2 := R1.exe x2 i2
  split at h2
  · rename_i d1 d2
    have a1 : At B.K (Om ⟨B, S⟩ e σ) H2 v d1 := R.at x2 o1
    have a2 : At B.K (Om ⟨B, S⟩ e σ) H2 v2 _ := o2
    refine ⟨v, v2, rfl, ?_⟩
    have R3 := R2.set a1 i
    have s3 := Stp.set (v := v) (d := d1) R2 i
    have a2' := a2.go (s3.go R2)
    exact h2 _ _ (R3.set a2' j) (.trans R2 (.exe R1 x2) (.trans R3 s3 (.set R3 j)))
  · exact h2.elim
end
end PB

set_option Elab.async false
set_option linter.all false
set_option maxRecDepth 100000
set_option maxHeartbeats 4000000
namespace PB
open PySem PySem.Spec PyProof.Rows L2
section
variable {γ ι : Type} {B : Bs γ ι} {W : WX} {X : Cx} {pos pz : Pos}
theorem PI.or {tg iter : Expr} {w w' : TI} (h : PI X tg iter w) (h' : PI X tg iter w') : PI X tg iter (fun σ H R => w σ H R ∨ w' σ H R) := ⟨fun pins s σ H R I q => q.elim (h.run pins s σ H R I) (h'.run pins s σ H R I)⟩
/-! ### what is walked -/
def ItOk (A : Act γ ι) (e : Env) (σ : L2.St) (H' : Hp) (J : It) (ds : List D) : Prop := ∀ H1 : Hp, (∀ b o, H' b = some o → ¬ Mu A e σ b → H1 b = some o) →
  (∀ i, ds.length ≤ i → J.stop i H1) ∧ ∀ i d, ds[i]? = some d → J.go i H1 ∧ ∀ x H2, J.yld i H1 x H2 → Nw H1 H2 ∧ ∀ O' : Addr → Prop, (∀ a, O' a → Om A e σ a ∨ H' a = none) → (∀ a, O' a → H1 a ≠ none) → At A.K O' H2 x d
abbrev PIt : Act γ ι → Env → L2.St → Hp → Hp → List D → It → Prop := fun A e σ _ H' ds J => ItOk A e σ H' J ds
abbrev RI (B : Bs γ ι) (W : WX) (m : MI γ) : TI := RG PIt B W m
theorem at_it {A : Act γ ι} {e : Env} {g : γ} {σ : L2.St} {H0 H' H1 : Hp} (R : Rep A e g σ H0) {O' : Addr → Prop} (h1 : ∀ b o, H' b = some o → ¬ Mu A e σ b → H1 b = some o) (h2 : ∀ a, O' a → Om A e σ a ∨ H' a = none) {v : V} {d : D} (h : At A.K (Om A e σ) H' v d) : At A.K O' H1 v d :=
  h.go fun a o q n => ⟨h1 a o q fun z => n (R.muom z), fun z => (h2 a z).elim n fun z => by
    rw [z] at q
    cases q⟩
theorem it_list {A : Act γ ι} {e : Env} {g : γ} {σ : L2.St} {H0 H' : Hp} (R : Rep A e g σ H0) {p : Addr} {xs : List V} {ds : List D} (hp : H' p = some (.lst xs)) (np : ¬ Mu A e σ p) (al : AtL A.K (Om A e σ) H' xs ds) : ItOk A e σ H' (Itl A.K p) ds := fun H1 h1 => by
  have hp1 := h1 p _ hp np
  refine ⟨fun i hi => ⟨xs, SqL.of hp1, by rw [al.length]; exact hi⟩, fun i d hd => ?_⟩
  obtain ⟨v, hv, av⟩ := al.get hd
  refine ⟨⟨xs, v, SqL.of hp1, hv⟩, fun x H2 hy => ?_⟩
  obtain ⟨e1, hx⟩ := hy
  subst e1
  have : x = v := Option.some.inj ((hx xs (SqL.of hp1)).symm.trans hv)
  subst this
  exact ⟨.inl rfl, fun O' h2 h3 => at_it R h1 h2 av⟩
theorem it_tup {A : Act γ ι} {e : Env} {g : γ} {σ : L2.St} {H0 H' : Hp} (R : Rep A e g σ H0) {p : Addr} {xs : List V} {ds : List D} (hp : (H' p = some (.tup xs) ∧ ¬ Om A e σ p) ∨ KT A.K p xs) (al : AtL A.K (Om A e σ) H' xs ds) : ItOk A e σ H' (Itt A.K p) ds := fun H1 h1 => by
  have hp1 : SqT A.K H1 p xs := by
    rcases hp with ⟨a, b⟩ | k
    · exact SqT.of (h1 p _ a fun z => b (R.muom z))
    · exact .inr k
  refine ⟨fun i hi => ⟨xs, hp1, by rw [al.length]; exact hi⟩, fun i d hd => ?_⟩
  obtain ⟨v, hv, av⟩ := al.get hd
  refine ⟨⟨xs, v, hp1, hv⟩, fun x H2 hy => ?_⟩
  obtain ⟨e1, hx⟩ := hy
  subst e1
  have : x = v := Option.some.inj ((hx xs hp1).symm.trans hv)
  subst this
  exact ⟨.inl rfl, fun O' h2 h3 => at_it R h1 h2 av⟩
variable {a b c e : Expr} {es : List Expr} {ma mb mc : ME γ} {mr : MA γ} {tg : Expr}
theorem pb_items (hK : B.K = X.K) (h : PE X a (RE B W ma)) : PI X tg a (RI B W (mItems ma)) := by
  refine pi_w (PI.or (pi_list h) (pi_tup h)) fun σ H Q ⟨S, e, g, R, h⟩ => ?_
  cases q : ma e g with
  | no =>
    unfold mItems at h
    rw [q] at h
    exact h.elim
  | ex y g1 =>
    unfold mItems at h
    rw [q] at h
    refine .inl ⟨S, e, g, R, ?_⟩
    show RK _ _ _ _ _ _ (ma e g) _
    rw [q]
    exact h
  | ok r g1 =>
    unfold mItems at h
    rw [q] at h
    obtain ⟨ds, k, h1⟩ := RK.ofO (P := PIt) (A := ⟨B, S⟩) (o := seqOf r) (g := g1) h
    unfold seqOf at k
    split at k
    · cases k
      refine .inr ⟨S, e, g, R, ?_⟩
      show RK _ _ _ _ _ _ (ma e g) _
      rw [q]
      intro v H1 x1 i1 o1
      cases o1 with
      | @tup p xs _ k al =>
      exact ⟨p, rfl, ⟨xs, by rw [← hK]; exact tup_seq k⟩, by rw [← hK]; exact h1 _ H1 x1 i1 (it_tup R k al)⟩
    · cases k
      refine .inl ⟨S, e, g, R, ?_⟩
      show RK _ _ _ _ _ _ (ma e g) _
      rw [q]
      intro v H1 x1 i1 o1
      cases o1 with
      | @lst p xs _ k k2 al =>
      exact ⟨p, rfl, ⟨xs, SqL.of k⟩, by rw [← hK]; exact h1 _ H1 x1 i1 (it_list R k (fun z => k2 (R.muom z)) al)⟩
    · cases k
      refine .inl ⟨S, e, g, R, ?_⟩
      show RK _ _ _ _ _ _ (ma e g) _
      rw [q]
      intro v H1 x1 i1 o1
      obtain ⟨p, xs, e1, h0, k, al⟩ := o1
      subst e1
      exact ⟨p, rfl, ⟨xs, SqL.of k⟩, by rw [← hK]; exact h1 _ H1 x1 i1 (it_list R k (fun z => R.omt (R.muom z) h0) (al.less fun a z => .inl z))⟩
    · cases k
theorem rng_get (lo : Int) (n : Nat) : ∀ i, (rng lo n)[i]? = if i < n then some (.int (lo + i)) else none := by
  induction n generalizing lo with
  | zero => intro i; simp [rng]
  | succ n ih =>
    intro i
    cases i with
    | zero => simp [rng]
    | succ i =>
      simp only [rng, List.getElem?_cons_succ, ih]
      by_cases h : i < n
      · rw [if_pos h, if_pos (by omega)]
        congr 2
        omega
      · rw [if_neg h, if_neg (by omega)]
theorem rng_len (lo : Int) (n : Nat) : (rng lo n).length = n := by
  induction n generalizing lo with
  | zero => rfl
  | succ n ih => simp [rng, ih]
theorem it_rng {A : Act γ ι} {e : Env} {σ : L2.St} {H' : Hp} (lo : Int) (n : Nat) : ItOk A e σ H' (Itr lo n) (rng lo n) := fun H1 h1 => by
  refine ⟨fun i hi => by rw [rng_len] at hi; exact hi, fun i d hd => ?_⟩
  rw [rng_get] at hd
  by_cases hi : i < n
  · rw [if_pos hi] at hd
    cases hd
    refine ⟨hi, fun x H2 hy => ?_⟩
    obtain ⟨e1, e2⟩ := hy
    subst e1 e2
    exact ⟨.inl rfl, fun _ _ _ => .int _⟩
  · rw [if_neg hi] at hd
    cases hd
theorem rngOk_bd {n : Int} (h : RngOk n) : -(2 ^ 62) ≤ n ∧ n < 2 ^ 62 := by
  by_cases h0 : n.natAbs = 0
  · omega
  · have := (Nat.log2_lt h0).mp h
    omega
theorem pb_range1 {p : Pos} (hg : Gl X "range") (hm : X.mg "range" = none) (ha : PE X a (RE B W ma)) (hs : starEach [a] X.env = [(false, eval a X.env)] := by rfl) : PI X tg (.Call (.Name "range" p) [a] [] pos) (RI B W (mRange1 ma)) := by
  refine pi_w (pi_range1 hg hm (pa_cons ha pa_nil (by rw [hs] <;> rfl)) hs) fun σ H Q ⟨S, e, g, R, h⟩ => ?_
  refine ⟨S, e, g, R, RK.bind (.refl H) h fun x g1 vx H1 _ x1 i1 o1 h1 => ?_⟩
  split at h1
  · split at h1
    · rename_i c
      cases o1
      exact ⟨_, rfl, (rngOk_bd c).1, (rngOk_bd c).2, h1 _ H1 x1 i1 (it_rng _ _)⟩
    · exact h1.elim
  · exact h1.elim
theorem zip_get : ∀ (xs ys : List D) (i : Nat), (zipD xs ys)[i]? = match xs[i]?, ys[i]? with
    | some x, some y => some (.tup [x, y])
    | _, _ => none
  | [], ys, i => by cases ys <;> simp [zipD]
  | x :: xs, [], i => by
    simp only [zipD, List.getElem?_nil]
    split <;> first | rfl | (rename_i h; cases h)
  | x :: xs, y :: ys, 0 => rfl
  | x :: xs, y :: ys, i + 1 => by
    simp only [zipD, List.getElem?_cons_succ]
    exact zip_get xs ys i
theorem zip_len : ∀ (xs ys : List D), (zipD xs ys).length = min xs.length ys.length
  | [], ys => by cases ys <;> simp [zipD]
  | x :: xs, [] => by simp [zipD]
  | x :: xs, y :: ys => by
    simp only [zipD, List.length_cons, zip_len xs ys]
    omega
theorem it_zip {A : Act γ ι} {e : Env} {g : γ} {σ : L2.St} {H0 H' : Hp} (R : Rep A e g σ H0) {p q : Addr} {xs ys : List V} {ds es : List D} (hp : H' p = some (.lst xs)) (np : ¬ Mu A e σ p) (al : AtL A.K (Om A e σ) H' xs ds) (hq : H' q = some (.lst ys)) (nq : ¬ Mu A e σ q) (al2 : AtL A.K (Om A e σ) H' ys es) :
    ItOk A e σ H' (Itz A.K p q) (zipD ds es) := fun H1 h1 => by
  have hp1 := h1 p _ hp np
  have hq1 := h1 q _ hq nq
  refine ⟨fun i hi => ⟨xs, ys, SqL.of hp1, SqL.of hq1, by rw [zip_len] at hi; rw [al.length, al2.length]; omega⟩, fun i d hd => ?_⟩
  rw [zip_get] at hd
  split at hd
  · rename_i x y hx hy
    cases hd
    obtain ⟨v, hv, av⟩ := al.get hx
    obtain ⟨w, hw, aw⟩ := al2.get hy
    refine ⟨⟨xs, ys, v, w, SqL.of hp1, SqL.of hq1, hv, hw⟩, fun z H2 hz => ?_⟩
    obtain ⟨T, x', y', rfl, hT, rfl, f1, f2⟩ := hz
    have : x' = v := Option.some.inj ((f1 xs (SqL.of hp1)).symm.trans hv)
    subst this
    have : y' = w := Option.some.inj ((f2 ys (SqL.of hq1)).symm.trans hw)
    subst this
    refine ⟨.inr ⟨T, _, hT, rfl⟩, fun O' h2 h3 => ?_⟩
    have up : ∀ {v : V} {d : D}, At A.K O' H1 v d → At A.K O' (upd H1 T (.tup [x', y'])) v d := fun h => h.go fun a o q n => ⟨by rw [upd_ne (ne_of_none q hT)]; exact q, n⟩
    exact .tup (.inl ⟨upd_same, fun z => h3 T z hT⟩) (.cons (up (at_it R h1 h2 av)) (.cons (up (at_it R h1 h2 aw)) .nil))
  · cases hd
theorem it_zipT {A : Act γ ι} {e : Env} {g : γ} {σ : L2.St} {H0 H' : Hp} (R : Rep A e g σ H0) {p q : Addr} {xs ys : List V} {ds es : List D} (hp : (H' p = some (.tup xs) ∧ ¬ Om A e σ p) ∨ KT A.K p xs) (al : AtL A.K (Om A e σ) H' xs ds) (hq : (H' q = some (.tup ys) ∧ ¬ Om A e σ q) ∨ KT A.K q ys) (al2 : AtL A.K (Om A e σ) H' ys es) :
    ItOk A e σ H' (RZ.ItzT A.K p q) (zipD ds es) := fun H1 h1 => by
  have hp1 : SqT A.K H1 p xs := by
    rcases hp with ⟨a, b⟩ | k
    · exact SqT.of (h1 p _ a fun z => b (R.muom z))
    · exact .inr k
  have hq1 : SqT A.K H1 q ys := by
    rcases hq with ⟨a, b⟩ | k
    · exact SqT.of (h1 q _ a fun z => b (R.muom z))
    · exact .inr k
  refine ⟨fun i hi => ⟨xs, ys, hp1, hq1, by rw [zip_len] at hi; rw [al.length, al2.length]; omega⟩, fun i d hd => ?_⟩
  rw [zip_get] at hd
  split at hd
  · rename_i x y hx hy
    cases hd
    obtain ⟨v, hv, av⟩ := al.get hx
    obtain ⟨w, hw, aw⟩ := al2.get hy
    refine ⟨⟨xs, ys, v, w, hp1, hq1, hv, hw⟩, fun z H2 hz => ?_⟩
    obtain ⟨T, x', y', rfl, hT, rfl, f1, f2⟩ := hz
    have : x' = v := Option.some.inj ((f1 xs hp1).symm.trans hv)
    subst this
    have : y' = w := Option.some.inj ((f2 ys hq1).symm.trans hw)
    subst this
    refine ⟨.inr ⟨T, _, hT, rfl⟩, fun O' h2 h3 => ?_⟩
    have up : ∀ {v : V} {d : D}, At A.K O' H1 v d → At A.K O' (upd H1 T (.tup [x', y'])) v d := fun h => h.go fun a o q n => ⟨by rw [upd_ne (ne_of_none q hT)]; exact q, n⟩
    exact .tup (.inl ⟨upd_same, fun z => h3 T z hT⟩) (.cons (up (at_it R h1 h2 av)) (.cons (up (at_it R h1 h2 aw)) .nil))
  · cases hd
/-- where a new list or a datum's list stands, it is not changed by the run -/
theorem seq_lst {A : Act γ ι} {e : Env} {g : γ} {σ : L2.St} {H0 H1 H : Hp} (R : Rep A e g σ H0) (x : ExE A H0 H1) {g1 : γ} (i : A.G.I g1 H1) {r : Rv} {v : V} {ds : List D} (o : VOk A e σ H1 H r v) (hs : r = .dat (.lst ds) ∨ r = .own ds) : ∃ p xs, v = .ref p ∧ H p = some (.lst xs) ∧ ¬ Mu A e σ p ∧ AtL A.K (Om A e σ) H xs ds := by
  rcases hs with rfl | rfl
  · cases o with
    | @lst p xs _ k k2 al => exact ⟨p, xs, rfl, k, fun z => k2 (R.muom z), al⟩
  · obtain ⟨p, xs, e1, h0, k, al⟩ := o
    exact ⟨p, xs, e1, k, fun z => R.omt (R.muom z) (x.back h0 i), al.less fun a z => .inl z⟩
theorem pb_zip {p tpos : Pos} {elts : List Expr} {kk : Nat} (hK : B.K = X.K) (hg : Gl X "zip") (hm : X.mg "zip" = none) (ha : PE X a (RE B W ma)) (hb : PE X b (RE B W mb)) (hs : starEach [a, b] X.env = (false, eval a X.env) :: starEach [b] X.env := by rfl) (hs2 : starEach [b] X.env = (false, eval b X.env) :: starEach [] X.env := by rfl)
    (hpl : (backTo pos (starEach [b] X.env)).any (·.1) = false := by rfl) : PI X (.Tuple elts kk tpos) (.Call (.Name "zip" p) [a, b] [] pos) (RI B W (mZip2 ma mb)) := by
  refine pi_w (RZ.pi_zipA hg hm (pa_cons ha (pa_cons hb pa_nil hs2) hs) hs hpl) fun σ H Q ⟨S, e, g, R, h⟩ => ?_
  refine ⟨S, e, g, R, RK.bind (.refl H) h fun x g1 vx H1 _ x1 i1 o1 h1 => ?_⟩
  refine ⟨S, e, g1, R.exe x1 i1, RK.bind x1 h1 fun y g2 vy H2 x12 x2 i2 o2 h2 => ?_⟩
  have o1' := o1.step R x12
  have o2' := o2.pre x1 i1
  rw [← hK]
  obtain ⟨zs, k, h2⟩ := h2.ofO
  unfold zip2 at k
  split at k
  · cases k
    cases o1' with
    | @tup p xs _ k al =>
    cases o2' with
    | @tup q ys _ k2 al2 =>
    exact ⟨p, q, xs, ys, rfl, .inr ⟨tup_seq k, tup_seq k2, h2 _ H2 x2 i2 (it_zipT R k al k2 al2)⟩⟩
  all_goals first
    | (cases k; done)
    | (cases k
       obtain ⟨p, xs, e1, k, n, al⟩ := seq_lst R (.refl H) R.gh o1' (by first | exact .inl rfl | exact .inr rfl)
       obtain ⟨q, ys, e2, k2, n2, al2⟩ := seq_lst R (.refl H) R.gh o2' (by first | exact .inl rfl | exact .inr rfl)
       subst e1 e2
       exact ⟨p, q, xs, ys, rfl, .inl ⟨SqL.of k, SqL.of k2, h2 _ H2 x2 i2 (it_zip R k n al k2 n2 al2)⟩⟩)
theorem pb_signs (h : PE X a (RE B W ma)) : PI X tg a (RI B W (mSigns ma)) := by
  refine pi_w (pi_str h) fun σ H Q ⟨S, e, g, R, h⟩ => ?_
  refine ⟨S, e, g, R, RK.bind (.refl H) h fun x g1 vx H1 _ x1 i1 o1 h1 => ?_⟩
  split at h1
  · rename_i s
    cases o1 with
    | str _ k1 k2 =>
    refine ⟨mkS s, rfl, h1 _ H1 x1 i1 fun H2 h2 => ⟨fun i hi => ?_, fun i d hd => ?_⟩⟩
    · show (mkS s).cps.size ≤ i
      simpa [mkS] using hi
    · rw [List.getElem?_map] at hd
      cases q : s[i]? with
      | none =>
        rw [q] at hd
        cases hd
      | some c =>
        rw [q] at hd
        cases hd
        have hi : i < s.length := (List.getElem?_eq_some_iff.mp q).1
        refine ⟨by show i < (mkS s).cps.size; simpa [mkS] using hi, fun x H3 hy => ?_⟩
        obtain ⟨e1, c', hc, e2⟩ := hy
        subst e1 e2
        have : c' = c := by
          have : (mkS s).cps[i]? = s[i]? := by simp [mkS]
          rw [this, q] at hc
          exact (Option.some.inj hc).symm
        subst this
        refine ⟨.inl rfl, fun O' _ _ => .str [c'] (by show 1 ≤ 16777216; omega) ?_⟩
        rw [List.all_eq_true] at k2
        rw [List.all_cons, k2 c' (List.mem_of_getElem? q)]
        rfl
  · exact h1.elim
/-! ### targets -/
def TgS (B : Bs γ ι) (g : TG) (tg : MG) (is : List Nat) : Prop := ∀ (S : Addr → Prop) (e : Env) (gm : γ) (σ : L2.St) (H : Hp) (v : V) (d : D) (e' : Env) (Q : L2.St → Hp → Prop), Rep ⟨B, S⟩ e gm σ H → At B.K (Om ⟨B, S⟩ e σ) H v d → tg d e = some e' →
  (∀ σ', Rep ⟨B, S⟩ e' gm σ' H → Stp ⟨B, S⟩ e σ H e' σ' H → σ'.length = σ.length → (∀ j, j ∉ is → gt e' j = gt e j ∧ σ'[j]? = σ[j]?) → Q σ' H) → g v σ H Q
theorem ts_name (i : Nat) : TgS B (gName i) (tgN i) [i] := fun S e gm σ H v d e' Q R a h q => by
  cases h
  refine q _ (R.set a i) (.set R i) List.length_set fun j hj => ?_
  have hj : j ≠ i := by simpa using hj
  rw [gt_st, if_neg (fun z => hj z.1), List.getElem?_set_ne (Ne.symm hj)]
  exact ⟨rfl, rfl⟩
/-- the targets of a tuple, one after another -/
inductive TgL (B : Bs γ ι) : TGs → List Nat → Prop
  | nil : TgL B gNil []
  | cons {u : TGs} {i : Nat} {is : List Nat} (h : TgL B u is) : TgL B (gCons (gName i) u) (i :: is)
theorem ts_list {u : TGs} {is : List Nat} (h : TgL B u is) : ∀ (S : Addr → Prop) (e : Env) (gm : γ) (σ : L2.St) (H : Hp) (vs : List V) (ds : List D) (e' : Env) (Q : L2.St → Hp → Prop), Rep ⟨B, S⟩ e gm σ H → AtL B.K (Om ⟨B, S⟩ e σ) H vs ds → tgL is ds e = some e' →
    (∀ σ', Rep ⟨B, S⟩ e' gm σ' H → Stp ⟨B, S⟩ e σ H e' σ' H → σ'.length = σ.length → (∀ j, j ∉ is → gt e' j = gt e j ∧ σ'[j]? = σ[j]?) → Q σ' H) → u vs σ H Q := by
  induction h with
  | nil =>
    intro S e gm σ H vs ds e' Q R a h q
    cases ds with
    | nil =>
      cases a
      cases h
      exact ⟨rfl, q σ R .refl rfl fun _ _ => ⟨rfl, rfl⟩⟩
    | cons d ds => cases h
  | @cons u i is _ ih =>
    intro S e gm σ H vs ds e' Q R a h q
    cases ds with
    | nil => cases h
    | cons d ds =>
      cases a with
      | @cons v _ vs _ a1 a2 =>
      have R1 := R.set a1 i
      have s1 := Stp.set (v := v) (d := d) R i
      refine ⟨v, vs, rfl, ih S _ gm _ H vs ds e' Q R1 (a2.go (s1.go R)) h fun σ' R' s' l k => q σ' R' (.trans R1 s1 s') (by rw [l, List.length_set]) fun j hj => ?_⟩
      have hj1 : j ≠ i := fun z => hj (by rw [z]; exact List.mem_cons_self)
      obtain ⟨k1, k2⟩ := k j fun z => hj (List.mem_cons_of_mem _ z)
      rw [k1, k2, gt_st, if_neg (fun z => hj1 z.1), List.getElem?_set_ne (Ne.symm hj1)]
      exact ⟨rfl, rfl⟩
theorem tgL_len : ∀ {is : List Nat} {ds : List D} {e e' : Env}, tgL is ds e = some e' → ds.length = is.length
  | [], [], _, _, _ => rfl
  | [], _ :: _, _, _, h => by cases h
  | _ :: _, [], _, _, h => by cases h
  | _ :: is, _ :: ds, _, _, h => by
    rw [List.length_cons, List.length_cons, tgL_len (is := is) (ds := ds) h]
theorem ts_tup {u : TGs} {is : List Nat} {n : Nat} {K : Frag} (hK : B.K = K) (hn : is.length = n) (h : TgL B u is) : TgS B (gTup K n u) (tgT is) is := fun S e gm σ H v d e' Q R a ht q => by
  subst hn hK
  unfold tgT at ht
  split at ht
  · cases a with
    | @tup p xs _ k al =>
    exact ⟨p, xs, rfl, tup_seq k, by rw [al.length]; exact tgL_len ht, ts_list h S e gm σ H xs _ e' Q R al ht q⟩
  · cases ht
/-! ### for -/
theorem drop_at {α : Type} {l : List α} {i : Nat} {d : α} (h : l[i]? = some d) : l.drop i = d :: l.drop (i + 1) := by
  obtain ⟨hl, e⟩ := List.getElem?_eq_some_iff.mp h
  rw [List.drop_eq_getElem_cons hl, e]
theorem pb_for {iter : Expr} {body : List Stmt} {g : TG} {tgm : MG} {is : List Nat} {mi : MI γ} {sb : MS γ} (hp : PassesOwn (model X.prog X.w) X.A X.env X.xe) (hc : X.calm = true) (hi : PI X tg iter (RI B W mi)) (hg : PG X tg g) (ts : TgS B g tgm is) (hb : PSs X body (RS B W sb))
    (hs : ∀ x, foldedSetIterable iter X.env x = pure x := by intro _; rfl) : PS X (.For tg iter body [] pos) (RS B W (mFor mi tgm sb)) := by
  refine ps_w (ps_for hp hc hi hg hb hs) fun Dd σ H ⟨S, e, gm, R, h⟩ => ?_
  refine ⟨S, e, gm, R, RSK.bind R h fun ds g1 J H1 x1 i1 it h1 => ?_⟩
  have R1 := R.exe x1 i1
  have h1' := rs_lateE R x1 i1 h1
  refine ⟨fun i m σ1 H2 => ∃ e1 g2, Rep ⟨B, S⟩ e1 g2 σ1 H2 ∧ Stp ⟨B, S⟩ e σ H1 e1 σ1 H2 ∧ m = ds.length - i ∧ i ≤ ds.length ∧ RSK ⟨B, S⟩ W e1 σ1 H2 (forL tgm sb (ds.drop i) e1 g2) Dd, ⟨ds.length, e, g1, R1, .refl, by simp, Nat.zero_le _, h1'⟩, ?_⟩
  rintro i m σ1 H2 ⟨e1, g2, R2, st2, rfl, hi, h2⟩
  obtain ⟨stop, go⟩ := it H2 st2.keep
  by_cases hlt : i < ds.length
  · obtain ⟨d, hd⟩ : ∃ d, ds[i]? = some d := ⟨ds[i], by simp [hlt]⟩
    obtain ⟨g1', gy⟩ := go i d hd
    rw [drop_at hd] at h2
    unfold forL at h2
    refine .inr ⟨g1', fun σ' H' => ∃ e3 g3, Rep ⟨B, S⟩ e3 g3 σ' H' ∧ Stp ⟨B, S⟩ e σ H1 e3 σ' H' ∧ RSK ⟨B, S⟩ W e3 σ' H' (forL tgm sb (ds.drop (i + 1)) e3 g3) Dd, fun σ' H' ⟨e3, g3, R3, s3, h3⟩ => ⟨ds.length - (i + 1), by omega, e3, g3, R3, s3, rfl, hlt, h3⟩, fun x Hy hy => ?_⟩
    obtain ⟨nw, at1⟩ := gy x Hy hy
    have a1 := at1 (Om ⟨B, S⟩ e1 σ1) (fun a z => z.elim (fun z => .inl (.inl z)) fun z => (st2.mu a z).elim (fun z => .inl (.inr z)) .inr) (fun a z => R2.omt z)
    have Ry := R2.exe nw.exe (nw.gh R2.gh)
    have sy : Stp ⟨B, S⟩ e1 σ1 H2 e1 σ1 Hy := .exe R2 nw.exe
    cases kt : tgm d e1 with
    | none =>
      rw [kt] at h2
      exact h2.elim
    | some e2 =>
      rw [kt] at h2
      refine ts S e1 g2 σ1 Hy x d e2 _ Ry a1 kt fun σ2 R3 s3 _ _ => ?_
      have s13 : Stp ⟨B, S⟩ e1 σ1 H2 e2 σ2 Hy := .trans Ry sy s3
      have h3 := RSK.late R3 s13 h2
      have stq := Stp.trans R2 st2 s13
      refine ⟨S, e2, g2, R3, ?_⟩
      simp only at h3
      cases kb : sb e2 g2 with
      | no =>
        rw [kb] at h3
        exact h3
      | ex y g3 =>
        rw [kb] at h3
        exact h3
      | ok f g3 =>
        rw [kb] at h3
        cases f with
        | nx e3 => exact fun σ' H' R' s' => ⟨e3, g3, R', .trans R3 stq s', RSK.late R' s' h3⟩
        | ct e3 => exact fun σ' H' R' s' => ⟨e3, g3, R', .trans R3 stq s', RSK.late R' s' h3⟩
        | bk e3 => exact h3
        | rt r => exact h3
  · have e2 : i = ds.length := by omega
    subst e2
    rw [List.drop_length] at h2
    exact .inl ⟨stop _ (Nat.le_refl _), h2 σ1 H2 R2 .refl⟩
/-! ### while -/
theorem pb_while {c : Expr} {body : List Stmt} {tc : MT γ} {sb : MS γ} (n : Nat) (hp : PassesOwn (model X.prog X.w) X.A X.env X.xe) (hc : PT X c (RT B W tc)) (hb : PSs X body (RS B W sb)) : PS X (.While c body [] pos) (RS B W (mWhile tc sb n)) := by
  refine ps_w (ps_while hp hc hb) fun Dd σ H ⟨S, e, g, R, h⟩ => ?_
  refine ⟨fun m σ1 H1 => ∃ e1 g1, Rep ⟨B, S⟩ e1 g1 σ1 H1 ∧ RSK ⟨B, S⟩ W e1 σ1 H1 (mWhile tc sb m e1 g1) Dd, ⟨n, e, g, R, h⟩, ?_⟩
  rintro m σ1 H1 ⟨e1, g1, R1, h1⟩
  cases m with
  | zero => exact h1.elim
  | succ m =>
    unfold mWhile at h1
    refine ⟨S, e1, g1, R1, ?_⟩
    cases kc : tc e1 g1 with
    | no =>
      rw [kc] at h1
      exact h1
    | ex y g2 =>
      rw [kc] at h1
      exact fun c od H' x i r => h1 c od σ1 H' (fun b o q n => x b o q fun z => n (.inl z)) i r
    | ok b g2 =>
      rw [kc] at h1
      intro b' H2 x2 i2 eb
      cases eb
      have R2 := R1.exe x2 i2
      have s2 : Stp ⟨B, S⟩ e1 σ1 H1 e1 σ1 H2 := .exe R1 x2
      cases b with
      | false =>
        rw [if_neg Bool.false_ne_true]
        exact h1 σ1 H2 R2 s2
      | true =>
        rw [if_pos rfl]
        refine ⟨fun σ' H' => ∃ e1 g1, Rep ⟨B, S⟩ e1 g1 σ' H' ∧ RSK ⟨B, S⟩ W e1 σ' H' (mWhile tc sb m e1 g1) Dd, fun σ' H' q => ⟨m, Nat.lt_succ_self m, q⟩, S, e1, g2, R2, ?_⟩
        have h3 := RSK.late R2 s2 h1
        simp only at h3
        cases kb : sb e1 g2 with
        | no =>
          rw [kb] at h3
          exact h3
        | ex y g3 =>
          rw [kb] at h3
          exact h3
        | ok f g3 =>
          rw [kb] at h3
          cases f with
          | nx e3 => exact fun σ' H' R' s' => ⟨e3, g3, R', RSK.late R' s' h3⟩
          | ct e3 => exact fun σ' H' R' s' => ⟨e3, g3, R', RSK.late R' s' h3⟩
          | bk e3 => exact h3
          | rt r => exact h3
end
end PB

set_option Elab.async false
set_option linter.all false
set_option maxRecDepth 100000
set_option maxHeartbeats 4000000
namespace PB
open PySem PySem.Spec PyProof.Rows L2
section
variable {γ ι : Type} {B : Bs γ ι} {W : WX} {X : Cx} {pos : Pos} {a b c e : Expr} {es : List Expr} {ma mb mc : ME γ} {mr : MA γ} {tg : Expr}
/-! ### comprehensions -/
theorem gt_wp : ∀ (is : List Nat) (e : Env) (j : Nat), gt (wp e is) j = if j ∈ is then .un else gt e j
  | [], e, j => by simp [wp]
  | i :: is, e, j => by
    unfold wp
    rw [gt_wp is, gt_st]
    by_cases h : j ∈ is
    · rw [if_pos h, if_pos (List.mem_cons_of_mem _ h)]
    · rw [if_neg h]
      by_cases h2 : j = i
      · subst h2
        rw [if_pos (List.mem_cons_self)]
        by_cases h3 : j < e.length
        · rw [if_pos ⟨rfl, h3⟩]
        · rw [if_neg (fun z => h3 z.2), gt_out (by omega)]
      · rw [if_neg (fun z => h2 z.1), if_neg (by simp [h2, h])]
theorem len_wp : ∀ (is : List Nat) (e : Env), (wp e is).length = e.length
  | [], e => rfl
  | i :: is, e => by
    unfold wp
    rw [len_wp is, len_st]
theorem wipe_get : ∀ (vs : List Nat) (σ : L2.St) (j : Nat), (wipe σ vs)[j]? = if j ∈ vs then (if j < σ.length then some none else none) else σ[j]?
  | [], σ, j => by simp [wipe]
  | v :: vs, σ, j => by
    unfold wipe
    rw [set_at, wipe_length, wipe_get vs σ j]
    by_cases h : j = v
    · subst h
      rw [if_pos List.mem_cons_self]
      by_cases h3 : j < σ.length
      · rw [if_pos ⟨rfl, h3⟩, if_pos h3]
      · rw [if_neg (fun z => h3 z.2), if_neg h3]
        split <;> first | rfl | exact List.getElem?_eq_none (by omega)
    · rw [if_neg (fun z => h z.1)]
      by_cases h2 : j ∈ vs
      · rw [if_pos h2, if_pos (List.mem_cons_of_mem _ h2)]
      · rw [if_neg h2, if_neg (by simp [h, h2])]
theorem wipe_eq {σ σ' : L2.St} {vs is : List Nat} (hl : σ'.length = σ.length) (hs : ∀ i ∈ is, i ∈ vs) (h : ∀ j, j ∉ is → σ'[j]? = (wipe σ vs)[j]?) : wipe σ' vs = wipe σ vs := by
  apply List.ext_getElem?
  intro j
  rw [wipe_get, wipe_get, hl]
  by_cases hj : j ∈ vs
  · rw [if_pos hj, if_pos hj]
  · rw [if_neg hj, if_neg hj, h j (fun z => hj (hs j z)), wipe_get, if_neg hj]
/-- all but what lies beside is kept -/
theorem Rep.exX {A : Act γ ι} {e : Env} {g g' : γ} {σ : L2.St} {H H' : Hp} (R : Rep A e g σ H) (x : ∀ b o, H b = some o → ¬ A.X b → H' b = some o) (t : ∀ a, A.X a → Stk (H' a)) (i : A.G.I g' H') : Rep A e g' σ H' where
  len := R.len
  sl := fun j => by
    have q := R.sl j
    cases h : gt e j with
    | un => trivial
    | dat d =>
      rw [h] at q
      obtain ⟨v, e1, a⟩ := q
      exact ⟨v, e1, a.go fun a o q n => ⟨x a o q fun z => n (.inl z), n⟩⟩
    | own ds =>
      rw [h] at q
      obtain ⟨p, xs, e1, k, a⟩ := q
      exact ⟨p, xs, e1, x p _ k (R.nx p ⟨j, ds, h, e1⟩), a.go fun a o q n => ⟨x a o q fun z => n (.inl z), n⟩⟩
    | xc y =>
      rw [h] at q
      exact ⟨q.1, q.2.go fun p fs k => x p _ k fun z => R.nxd k (.inl z)⟩
    | gh y =>
      rw [h] at q
      exact q
  inj := R.inj
  nx := R.nx
  gh := i
  fx := R.fx
  xs := t
/-- within a comprehension: the new list lies beside -/
def Bl (A : Act γ ι) (e : Env) (σ : L2.St) (vs : List Nat) (Dp : Addr) : Addr → Prop := fun a => (Om A e σ a ∧ ¬ OwnA (wp e vs) (wipe σ vs) a) ∨ a = Dp
theorem own_wp {e : Env} {σ : L2.St} {vs : List Nat} {a : Addr} (h : OwnA (wp e vs) (wipe σ vs) a) : OwnA e σ a := by
  obtain ⟨j, ds, h1, h2⟩ := h
  rw [gt_wp] at h1
  rw [wipe_get] at h2
  by_cases hj : j ∈ vs
  · rw [if_pos hj] at h1
    cases h1
  · rw [if_neg hj] at h1 h2
    exact ⟨j, ds, h1, h2⟩
theorem bl_om {A : Act γ ι} {e : Env} {σ : L2.St} {vs : List Nat} {Dp a : Addr} : Om ⟨A.B, Bl A e σ vs Dp⟩ (wp e vs) (wipe σ vs) a ↔ (Om A e σ a ∨ a = Dp) := by
  constructor
  · rintro (z | z)
    · exact z.elim (fun z => .inl z.1) .inr
    · exact .inl (.inr (own_wp z))
  · rintro (z | z)
    · by_cases q : OwnA (wp e vs) (wipe σ vs) a
      · exact .inr q
      · exact .inl (.inl ⟨z, q⟩)
    · exact .inl (.inr z)
theorem Rep.blk {A : Act γ ι} {e : Env} {g : γ} {σ : L2.St} {H : Hp} (R : Rep A e g σ H) (vs : List Nat) {Dp : Addr} (hD : H Dp = none) (xs : List V) : Rep ⟨A.B, Bl A e σ vs Dp⟩ (wp e vs) g (wipe σ vs) (upd H Dp (.lst xs)) where
  len := by rw [wipe_length, len_wp, R.len]
  sl := fun j => by
    rw [gt_wp, wipe_get]
    by_cases hj : j ∈ vs
    · rw [if_pos hj]
      trivial
    · rw [if_neg hj, if_neg hj]
      have q := R.sl j
      have go : ∀ a o, H a = some o → ¬ Om A e σ a → upd H Dp (.lst xs) a = some o ∧ ¬ Om ⟨A.B, Bl A e σ vs Dp⟩ (wp e vs) (wipe σ vs) a := fun a o q n => ⟨by rw [upd_ne (ne_of_none q hD)]; exact q, fun z => (bl_om.mp z).elim n fun z => by
        rw [z, hD] at q
        cases q⟩
      cases h : gt e j with
      | un => trivial
      | dat d =>
        rw [h] at q
        obtain ⟨v, e1, a⟩ := q
        exact ⟨v, e1, a.go go⟩
      | own ds =>
        rw [h] at q
        obtain ⟨p, ys, e1, k, a⟩ := q
        exact ⟨p, ys, e1, by rw [upd_ne (ne_of_none k hD)]; exact k, a.go go⟩
      | xc y =>
        rw [h] at q
        exact ⟨q.1, q.2.go fun p fs k => by rw [upd_ne (ne_of_none k hD)]; exact k⟩
      | gh y =>
        rw [h] at q
        exact q
  inj := fun i j di dj p h1 h2 h3 h4 => by
    rw [gt_wp] at h1 h2
    rw [wipe_get] at h3 h4
    by_cases hi : i ∈ vs
    · rw [if_pos hi] at h1
      cases h1
    · by_cases hj : j ∈ vs
      · rw [if_pos hj] at h2
        cases h2
      · rw [if_neg hi] at h1 h3
        rw [if_neg hj] at h2 h4
        exact R.inj i j di dj p h1 h2 h3 h4
  nx := fun a z q => by
    rcases q with q | q
    · exact q.2 z
    · obtain ⟨xs, k⟩ := (own_wp z).some R
      rw [q, hD] at k
      cases k
  gh := Gho.new R.gh hD
  fx := fun a z => .inl ⟨.inl (R.fx a z), fun q => R.nx a (own_wp q) (R.fx a z)⟩
  xs := fun a z => by
    rcases z with z | z
    · have := R.oms z.1
      by_cases q : a = Dp
      · rw [q]
        exact .lst upd_same
      · rw [upd_ne q]
        exact this
    · rw [z]
      exact .lst upd_same
theorem pts_yes {X : Cx} : PTs X [] (RT B W0 mYes) := ⟨fun pins s σ H Q I ⟨S, e, g, R, h⟩ => pts_nil.run pins s σ H Q I (h true H (.refl H) R.gh rfl)⟩
theorem pts_if {X : Cx} {c : Expr} {t : TT} (h : PT X c t) : PTs X [c] t := pts_one h
theorem lc_go {mi : MI γ} {g : TG} {tgm : MG} {is vs : List Nat} {mt : MT γ} {me : ME γ} (ts : TgS B g tgm is) (hsub : ∀ i ∈ is, i ∈ vs) {σ : L2.St} {H : Hp} {Q : VK} (h : RE B W (mLc mi tgm mt me vs) σ H Q) : tLc (RI B W mi) g (RT B W0 mt) (RE B W0 me) vs σ H Q := by
  obtain ⟨S, e, gm, R, h⟩ := h
  refine ⟨S, e, gm, R, RK.bind (.refl H) h fun ds g1 J H1 _ x1 i1 it h1 => fun Dp hD => ?_⟩
  have R1 := R.exe x1 i1
  refine ⟨fun i m H2 => ∃ gi acc av, Rep ⟨B, Bl ⟨B, S⟩ e σ vs Dp⟩ (wp e vs) gi (wipe σ vs) H2 ∧ (∀ b o, H1 b = some o → ¬ (B.fam B.i).F b → H2 b = some o) ∧ H2 Dp = some (.lst av) ∧ AtL B.K (fun a => Om ⟨B, S⟩ e σ a ∨ a = Dp) H2 av acc ∧ m = ds.length - i ∧ i ≤ ds.length ∧
      RK VOk ⟨B, S⟩ W e σ H (lcL tgm mt me (wp e vs) (ds.drop i) acc gi) Q, ⟨ds.length, g1, [], [], R1.blk vs hD [], fun b o q _ => by rw [upd_ne (ne_of_none q hD)]; exact q, upd_same, .nil, by simp, Nat.zero_le _, h1⟩, ?_⟩
  rintro i m H2 ⟨gi, acc, av, Ri, kp, hD2, aacc, rfl, hi, hr⟩
  have nF : ∀ a, (B.fam B.i).F a → H1 a ≠ none := fun a z => (B.fam B.i).trk _ _ _ i1 z
  have DF : ¬ (B.fam B.i).F Dp := fun z => nF Dp z hD
  obtain ⟨stop, go⟩ := it H2 fun b o q n => kp b o q fun z => n (.inl z)
  by_cases hlt : i < ds.length
  · obtain ⟨d, hd⟩ : ∃ d, ds[i]? = some d := ⟨ds[i], by simp [hlt]⟩
    obtain ⟨gJ, gy⟩ := go i d hd
    rw [drop_at hd] at hr
    unfold lcL at hr
    refine .inr ⟨gJ, fun H' => ∃ m', m' < ds.length - i ∧ ∃ gi acc av, Rep ⟨B, Bl ⟨B, S⟩ e σ vs Dp⟩ (wp e vs) gi (wipe σ vs) H' ∧ (∀ b o, H1 b = some o → ¬ (B.fam B.i).F b → H' b = some o) ∧ H' Dp = some (.lst av) ∧ AtL B.K (fun a => Om ⟨B, S⟩ e σ a ∨ a = Dp) H' av acc ∧ m' = ds.length - (i + 1) ∧ i + 1 ≤ ds.length ∧
      RK VOk ⟨B, S⟩ W e σ H (lcL tgm mt me (wp e vs) (ds.drop (i + 1)) acc gi) Q, fun H' q => q, fun x Hy hy => ?_⟩
    obtain ⟨nw, at1⟩ := gy x Hy hy
    have a1 := at1 (Om ⟨B, Bl ⟨B, S⟩ e σ vs Dp⟩ (wp e vs) (wipe σ vs)) (fun a z => (bl_om.mp z).elim .inl fun z => .inr (by rw [z]; exact hD)) (fun a z => Ri.omt z)
    have Ry := Ri.exe nw.exe (nw.gh Ri.gh)
    cases kt : tgm d (wp e vs) with
    | none =>
      rw [kt] at hr
      exact hr.elim
    | some e2 =>
      rw [kt] at hr
      refine ts _ (wp e vs) gi (wipe σ vs) Hy x d e2 _ Ry a1 kt fun σ2 R2 s2 wl kj => ?_
      refine ⟨wipe_eq (by rw [wl, wipe_length]) hsub fun j hj => (kj j hj).2, ?_⟩
      -- what a name holds around the comprehension is held in the turn
      have own2 : ∀ a, OwnA (wp e vs) (wipe σ vs) a → OwnA e2 σ2 a := fun a ⟨j, es, k1, k2⟩ => by
        have hj : j ∉ is := fun z => by
          rw [gt_wp, if_pos (hsub j z)] at k1
          cases k1
        obtain ⟨q1, q2⟩ := kj j hj
        exact ⟨j, es, by rw [q1]; exact k1, by rw [q2]; exact k2⟩
      have om2 : ∀ a, (Om ⟨B, S⟩ e σ a ∨ a = Dp) → Om ⟨B, Bl ⟨B, S⟩ e σ vs Dp⟩ e2 σ2 a := fun a z => by
        rcases bl_om.mpr z with q | q
        · exact .inl q
        · exact .inr (own2 a q)
      have nxD : ∀ b, (B.fam B.i).F b → Bl ⟨B, S⟩ e σ vs Dp b := fun b z => R2.fx b z
      refine ⟨_, e2, gi, R2, ?_⟩
      have hr2 : RK VOk ⟨B, S⟩ W e σ H (match mt e2 gi with
        | .ok true g1 => match me e2 g1 with
          | .ok r g2 => match r.sto with
            | some y => if acc.length < SZ then lcL tgm mt me (wp e vs) (ds.drop (i + 1)) (acc ++ [y]) g2 else .no
            | none => .no
          | _ => .no
        | .ok false g1 => lcL tgm mt me (wp e vs) (ds.drop (i + 1)) acc g1
        | _ => .no) Q := hr
      cases km : mt e2 gi with
      | no =>
        rw [km] at hr2
        exact hr2.elim
      | ex y g3 =>
        rw [km] at hr2
        exact hr2.elim
      | ok b g3 =>
        rw [km] at hr2
        intro b' H3 x3 i3 eb
        cases eb
        have R3 := R2.exe x3 i3
        have kp3 : ∀ b o, H1 b = some o → ¬ (B.fam B.i).F b → H3 b = some o := fun b o q n => x3 b o (nw.exe (A := ⟨B, S⟩) b o (kp b o q n) n) n
        have hDy : Hy Dp = some (.lst av) := nw.exe (A := ⟨B, S⟩) Dp _ hD2 DF
        have hD3 : H3 Dp = some (.lst av) := x3 Dp _ hDy DF
        have goD : ∀ {Ha Hb : Hp}, (∀ b o, Ha b = some o → ¬ (B.fam B.i).F b → Hb b = some o) → ∀ a o, Ha a = some o → ¬ (Om ⟨B, S⟩ e σ a ∨ a = Dp) → Hb a = some o ∧ ¬ (Om ⟨B, S⟩ e σ a ∨ a = Dp) := fun {Ha Hb} k a o q n => ⟨k a o q fun z => n (.inl (.inl (R.fx a z))), n⟩
        have acc3 : AtL B.K (fun a => Om ⟨B, S⟩ e σ a ∨ a = Dp) H3 av acc := (aacc.go (goD (nw.exe (A := ⟨B, S⟩)))).go (goD x3)
        cases b with
        | false =>
          rw [if_neg Bool.false_ne_true]
          exact ⟨ds.length - (i + 1), by omega, g3, acc, av, (Ry.exe x3 i3), kp3, hD3, acc3, rfl, hlt, hr2⟩
        | true =>
          rw [if_pos rfl]
          refine ⟨_, e2, g3, R3, ?_⟩
          have hr3 : RK VOk ⟨B, S⟩ W e σ H (match me e2 g3 with
            | .ok r g2 => match r.sto with
              | some y => if acc.length < SZ then lcL tgm mt me (wp e vs) (ds.drop (i + 1)) (acc ++ [y]) g2 else .no
              | none => .no
            | _ => .no) Q := hr2
          cases ke : me e2 g3 with
          | no =>
            rw [ke] at hr3
            exact hr3.elim
          | ex y g4 =>
            rw [ke] at hr3
            exact hr3.elim
          | ok r g4 =>
            rw [ke] at hr3
            intro yv H4 x4 i4 oy
            have hr4 : RK VOk ⟨B, S⟩ W e σ H (match r.sto with
              | some y => if acc.length < SZ then lcL tgm mt me (wp e vs) (ds.drop (i + 1)) (acc ++ [y]) g4 else .no
              | none => .no) Q := hr3
            cases ks : r.sto with
            | none =>
              rw [ks] at hr4
              exact hr4.elim
            | some y =>
              rw [ks] at hr4
              have hr5 : RK VOk ⟨B, S⟩ W e σ H (if acc.length < SZ then lcL tgm mt me (wp e vs) (ds.drop (i + 1)) (acc ++ [y]) g4 else .no) Q := hr4
              by_cases hz : acc.length < SZ
              · rw [if_pos hz] at hr5
                have ay : At B.K (fun a => Om ⟨B, S⟩ e σ a ∨ a = Dp) H4 yv y := (oy.sto R3 ks).less om2
                have hD4 : H4 Dp = some (.lst av) := x4 Dp _ hD3 DF
                have acc4 : AtL B.K (fun a => Om ⟨B, S⟩ e σ a ∨ a = Dp) H4 av acc := acc3.go (goD x4)
                refine ⟨av, hD4, by rw [acc4.length]; exact szlt hz, ds.length - (i + 1), by omega, g4, acc ++ [y], av ++ [yv], ?_, fun b o q n => ?_, upd_same, ?_, rfl, hlt, hr5⟩
                · have R4 := (Ry.exe x3 i3).exe x4 i4
                  refine R4.exX (fun b o q n => ?_) (fun a z => ?_) ((B.fam B.i).stab _ _ _ i4 (fun a z => ?_) (fun a xs q => by rw [upd_ne (fun z => by rw [z, hD4] at q; cases q)]; exact q))
                  · have : b ≠ Dp := fun z => n (.inr z)
                    rw [upd_ne this]
                    exact q
                  · by_cases q : a = Dp
                    · rw [q]
                      exact .lst upd_same
                    · rw [upd_ne q]
                      exact R4.xs a z
                  · have : a ≠ Dp := fun q => DF (by rw [← q]; exact z)
                    rw [upd_ne this]
                · have : b ≠ Dp := ne_of_none q hD
                  rw [upd_ne this]
                  exact x4 b o (kp3 b o q n) n
                · have go : ∀ a o, H4 a = some o → ¬ (Om ⟨B, S⟩ e σ a ∨ a = Dp) → upd H4 Dp (.lst (av ++ [yv])) a = some o ∧ ¬ (Om ⟨B, S⟩ e σ a ∨ a = Dp) := fun a o q n => ⟨by rw [upd_ne (fun z => n (.inr z))]; exact q, n⟩
                  exact (acc4.go go).app (.cons (ay.go go) .nil)
              · rw [if_neg hz] at hr5
                exact hr5.elim
  · have e2 : i = ds.length := by omega
    subst e2
    rw [List.drop_length] at hr
    refine .inl ⟨stop _ (Nat.le_refl _), hr (.ref Dp) H2 (fun b o q n => kp b o (x1 b o q n) n) Ri.gh ⟨Dp, av, rfl, x1.back hD i1, hD2, aacc⟩⟩
theorem pb_lc {elt iter : Expr} {ifs : List Expr} {scope : Scope} {own : List (Str × Nat)} {mi : MI γ} {g : TG} {tgm : MG} {is : List Nat} {mt : MT γ} {me : ME γ} (hc : X.calm = true) (hN : X.N.Nodup) (hi : PI X tg iter (RI B W mi)) (ok : BlkOk X.N X.env.scope scope own)
    (hg : ∀ (s : Shared) (H : Hp) (C : Addr) (cl : List (Str × Addr)) (fp : List Addr), PG (X.blk s H scope (compEnvC scope cl C X.env) fp) tg g) (ts : TgS B g tgm is) (hsub : ∀ i ∈ is, i ∈ own.map (·.2)) (ht : ∀ (s : Shared) (H : Hp) (C : Addr) (cl : List (Str × Addr)) (fp : List Addr), PTs (X.blk s H scope (compEnvC scope cl C X.env) fp) ifs (RT B W0 mt))
    (he : ∀ (s : Shared) (H : Hp) (C : Addr) (cl : List (Str × Addr)) (fp : List Addr), PE (X.blk s H scope (compEnvC scope cl C X.env) fp) elt (RE B W0 me)) (hs : ∀ x, foldedSetIterable iter X.env x = pure x := by intro _; rfl) :
    PE X (.ListComp elt [⟨tg, iter, ifs, 0⟩] scope pos) (RE B W (mLc mi tgm mt me (own.map (·.2)))) := pe_w (pe_lc hc hN hi ok hg ht he hs) fun _ _ _ => lc_go ts hsub
theorem pb_setLc {i : Nat} {y : Str} {py spos : Pos} {elt iter : Expr} {ifs : List Expr} {scope : Scope} {own : List (Str × Nat)} {mi : MI γ} {g : TG} {tgm : MG} {is : List Nat} {mt : MT γ} {me : ME γ} (hc : X.calm = true) (hN : X.N.Nodup) (hy : X.N[i]? = some y) (hyl : X.env.scope.names.lookup y = some .local)
    (hsw : swapsWith (.ListComp elt [⟨tg, iter, ifs, 0⟩] scope pos) (some (.Name y py)) spos.line X.env = pure true) (hi : PI X tg iter (RI B W mi)) (ok : BlkOk X.N X.env.scope scope own)
    (hg : ∀ (s : Shared) (H : Hp) (C : Addr) (cl : List (Str × Addr)) (fp : List Addr), PG (X.blk s H scope (compEnvC scope cl C X.env) fp) tg g) (ts : TgS B g tgm is) (hsub : ∀ i ∈ is, i ∈ own.map (·.2)) (ht : ∀ (s : Shared) (H : Hp) (C : Addr) (cl : List (Str × Addr)) (fp : List Addr), PTs (X.blk s H scope (compEnvC scope cl C X.env) fp) ifs (RT B W0 mt))
    (he : ∀ (s : Shared) (H : Hp) (C : Addr) (cl : List (Str × Addr)) (fp : List Addr), PE (X.blk s H scope (compEnvC scope cl C X.env) fp) elt (RE B W0 me)) (hs : ∀ x, foldedSetIterable iter X.env x = pure x := by intro _; rfl) :
    PS X (.Assign [.Name y py] (.ListComp elt [⟨tg, iter, ifs, 0⟩] scope pos) spos) (RS B W (mSet i (mLc mi tgm mt me (own.map (·.2))))) := by
  refine ps_w (ps_setLc hc hN hy hyl hsw hi ok hg ht he hs) fun Dd σ H ⟨S, e, g, R, h⟩ => ?_
  have q : RE B W (mLc mi tgm mt me (own.map (·.2))) σ H fun v H1 => Dd.nx (σ.set i (some v)) H1 := by
    refine ⟨S, e, g, R, RSK.bind R h fun r g1 v H1 x1 i1 o1 h1 => ?_⟩
    have R1 := R.exe x1 i1
    cases r with
    | dat d =>
      have o1' : At B.K (Om ⟨B, S⟩ e σ) H1 v d := o1
      exact h1 _ _ (R1.set o1' i) (.trans R1 (.exe R x1) (.set R1 i))
    | own ds =>
      obtain ⟨R2, ow⟩ := Rep.setO R x1 R1 o1 i
      exact h1 _ _ R2 ⟨fun b o q n => x1 b o q fun z => n (.inl z), ow⟩
    | bor ds => exact h1.elim
  exact lc_go ts hsub q
end
end PB

set_option Elab.async false
set_option linter.all false
set_option maxRecDepth 100000
set_option maxHeartbeats 4000000
namespace PB
open PySem PySem.Spec PyProof.Rows L2
section
variable {γ ι : Type} {B : Bs γ ι} {W : WX} {X : Cx} {pos : Pos} {a b c e : Expr} {es : List Expr} {ma mb mc : ME γ} {mr : MA γ} {tg : Expr}
/-! ### is None, is True, isinstance, join -/
theorem os_isN : OpS1 B oIsN (fun x H Q => Q (.bl (decide (x = .non))) H) := by
  intro S e g g1 σ H0 H x z vx Q R x0 i1 ox hz hq
  have key : ∀ {v : V} {d : D}, At B.K S H v d → (∀ n, d ≠ .ref n) → decide (v = .non) = isNon d := by
    intro v d h hd
    cases h <;> first | rfl | (simp; done) | exact absurd rfl (hd _)
  have w := ox.weak R
  unfold oIsN at hz
  split at hz
  · cases hz
  · rename_i hn
    cases hz
    have e1 : decide (vx = .non) = isNon x.val := by
      cases x with
      | dat d => exact key w fun n z => hn n (by rw [show d = .ref n from z])
      | own ds => exact key w fun n z => by cases z
      | bor ds => exact key w fun n z => by cases z
    rw [e1]
    exact hq _ H (.inl rfl) (.bl _)
theorem os_notN : OpS1 B oNotN (fun x H Q => Q (.bl (!decide (x = .non))) H) := by
  intro S e g g1 σ H0 H x z vx Q R x0 i1 ox hz hq
  have key : ∀ {v : V} {d : D}, At B.K S H v d → (∀ n, d ≠ .ref n) → decide (v = .non) = isNon d := by
    intro v d h hd
    cases h <;> first | rfl | (simp; done) | exact absurd rfl (hd _)
  have w := ox.weak R
  unfold oNotN at hz
  split at hz
  · cases hz
  · rename_i hn
    cases hz
    have e1 : decide (vx = .non) = isNon x.val := by
      cases x with
      | dat d => exact key w fun n z => hn n (by rw [show d = .ref n from z])
      | own ds => exact key w fun n z => by cases z
      | bor ds => exact key w fun n z => by cases z
    rw [e1]
    exact hq _ H (.inl rfl) (.bl _)
theorem pb_isN {j pos'} (ha : PE X a (RE B W ma)) : PE X (.Compare a [.Is] [.Constant .none j pos'] pos) (RE B W (mOp1 oIsN ma)) := pe_w (pe_cmp (pc_isN ha) rfl) fun _ _ _ => re_op1 os_isN
theorem pb_notN {j pos'} (ha : PE X a (RE B W ma)) : PE X (.Compare a [.IsNot] [.Constant .none j pos'] pos) (RE B W (mOp1 oNotN ma)) := pe_w (pe_cmp (pc_notN ha) rfl) fun _ _ _ => re_op1 os_notN
theorem pb_tisN {j pos'} (ha : PE X a (RE B W ma)) : PT X (.Compare a [.Is] [.Constant .none j pos'] pos) (RT B W (mTest (mOp1 oIsN ma))) := pt_w (pt_cmp (pc_isN ha) rfl) fun _ _ _ h => re_op1 os_isN (rt_test h)
theorem pb_tnotN {j pos'} (ha : PE X a (RE B W ma)) : PT X (.Compare a [.IsNot] [.Constant .none j pos'] pos) (RT B W (mTest (mOp1 oNotN ma))) := pt_w (pt_cmp (pc_notN ha) rfl) fun _ _ _ h => re_op1 os_notN (rt_test h)
theorem os_is2 : OpS2 B oIs2 rIsB := by
  intro S e g g1 σ H0 H x y z vx vy Q R x0 i1 ox oy hz hq
  unfold oIs2 at hz
  split at hz
  · cases hz
    cases ox
    cases oy
    exact ⟨_, _, rfl, rfl, hq _ H (.inl rfl) (.bl _)⟩
  · cases hz
theorem os_isnot2 : OpS2 B oIsNot2 rNotB := by
  intro S e g g1 σ H0 H x y z vx vy Q R x0 i1 ox oy hz hq
  unfold oIsNot2 at hz
  split at hz
  · cases hz
    cases ox
    cases oy
    exact ⟨_, _, rfl, rfl, hq _ H (.inl rfl) (.bl _)⟩
  · cases hz
/-- isinstance of a built-in class -/
def Ty.nm : Ty → String
  | .int => "int" | .bool => "bool" | .str => "str" | .tuple => "tuple" | .list => "list"
def oIsI (T : Ty) : OpN
  | [x] => oIs T x
  | _ => none
theorem kit_tab (K : Frag) (t n : String) (b : Bool) (h : (t = "NoneType" ∨ t = "int" ∨ t = "bool" ∨ t = "str" ∨ t = "tuple" ∨ t = "list") ∧ (n = "int" ∨ n = "bool" ∨ n = "str" ∨ n = "tuple" ∨ n = "list")) (hb : b = (t == n || (t == "bool" && n == "int"))) : PySem.W.kitOne K (.type t) (.type n) = some b := by
  subst hb
  obtain ⟨h1, h2⟩ := h
  rcases h1 with rfl | rfl | rfl | rfl | rfl | rfl <;> rcases h2 with rfl | rfl | rfl | rfl | rfl <;> exact kit_ty (by decide +kernel)
theorem ty_of {K : Frag} {O : Addr → Prop} {H : Hp} {v : V} {d : D} (h : At K O H v d) (hd : ∀ n, d ≠ .ref n) (T : Ty) : ∃ t, TyX K H v t ∧ PySem.W.kitOne K t (.type T.nm) = some (isTy T d) := by
  cases h with
  | non => exact ⟨_, .base .non, by cases T <;> exact kit_tab K "NoneType" _ _ (by simp [Ty.nm]) (by simp [Ty.nm])⟩
  | bl b => exact ⟨_, .base (.bl b), by cases T <;> exact kit_tab K "bool" _ _ (by simp [Ty.nm]) (by simp [Ty.nm])⟩
  | int i => exact ⟨_, .base (.int i), by cases T <;> exact kit_tab K "int" _ _ (by simp [Ty.nm]) (by simp [Ty.nm])⟩
  | str l h1 h2 => exact ⟨_, .base (.str _), by cases T <;> exact kit_tab K "str" _ _ (by simp [Ty.nm]) (by simp [Ty.nm])⟩
  | @tup a xs ds h1 h2 =>
    refine ⟨.type "tuple", ?_, by cases T <;> exact kit_tab K "tuple" _ _ (by simp [Ty.nm]) (by simp [Ty.nm])⟩
    rcases h1 with ⟨k, _⟩ | ⟨o, its, n, k, hc, _⟩
    · exact .base (.tup k)
    · exact .kTuple k hc
  | @lst a xs ds h1 h2 h3 => exact ⟨_, .base (.lst h1), by cases T <;> exact kit_tab K "list" _ _ (by simp [Ty.nm]) (by simp [Ty.nm])⟩
  | ref a => exact absurd rfl (hd a)
theorem os_isI (T : Ty) : OpSN B (fun xs => match xs with
    | [x, .dat (.ref _)] => oIs T x
    | _ => none) (rIsi B.K) → True := fun _ => trivial
/-- isinstance(x, T): the class is no datum -/
theorem pb_isi {p p2 : Pos} {T : Str} (t : Ty) (hK : B.K = X.K) (hg : Gl X "isinstance") (hm : X.mg "isinstance" = none) (hgT : Gl X T) (hmT : X.mg T = none) (hvT : bootBuiltins T = some (.type t.nm)) (ha : PE X a (RE B W ma))
    (hnT : T ≠ "__name__" := by decide) (hdT : (T == ("__debug__" : Str)) = false := by decide)
    (hs : starEach [a, .Name T p2] X.env = (false, eval a X.env) :: starEach [.Name T p2] X.env := by rfl) (hs2 : starEach [.Name T p2] X.env = (false, eval (.Name T p2) X.env) :: starEach [] X.env := by rfl) (hpl : (backTo pos (starEach [.Name T p2] X.env)).any (·.1) = false := by rfl) :
    PE X (.Call (.Name "isinstance" p) [a, .Name T p2] [] pos) (RE B W (mOp1 (oIs t) ma)) := by
  refine pe_w (pe_callB call_isi hg hm (by decide +kernel) (pa_cons ha (pa_cons (pe_bltn (v := .ty t.nm) hgT hmT hvT rfl hnT hdT) pa_nil hs2) hs) (by decide) (by decide) hs hpl) fun σ H Q ⟨S, e, g, R, h⟩ => ?_
  refine ⟨S, e, g, R, RK.bind (.refl H) h fun x g1 vx H1 _ x1 i1 o1 h1 => ?_⟩
  obtain ⟨z, ez, q⟩ := h1.ofO
  have w := o1.weak R
  unfold oIs at ez
  split at ez
  · cases ez
  · rename_i hn
    cases ez
    obtain ⟨ty, h2, h3⟩ := ty_of w (by
      cases x with
      | dat d => exact fun n z => hn n (by rw [show d = .ref n from z])
      | own ds => exact fun n z => by cases z
      | bor ds => exact fun n z => by cases z) t
    rw [← hK]
    exact ⟨vx, .ty t.nm, ty, .type t.nm, _, rfl, .ty _, h2, h3, q _ H1 x1 i1 (.bl _)⟩
theorem joinL_eq (s : List Nat) : ∀ l, PB.joinL s l = TL.joinL s l
  | [] => rfl
  | [x] => rfl
  | x :: y :: r => by
    show x ++ s ++ PB.joinL s (y :: r) = x ++ (s ++ TL.joinL s (y :: r))
    rw [joinL_eq s (y :: r), List.append_assoc]
theorem joinL_len (s : List Nat) : ∀ l : List (List Nat), (PB.joinL s l).length ≤ (l.map List.length).sum + s.length * l.length
  | [] => Nat.zero_le _
  | [x] => by simp [PB.joinL]
  | x :: y :: r => by
    have := joinL_len s (y :: r)
    simp only [PB.joinL, List.length_append, List.map_cons, List.sum_cons, List.length_cons] at this ⊢
    rw [Nat.mul_add s.length (r.length + 1) 1]
    omega
theorem joinL_all {p : Nat → Bool} {s : List Nat} (hs : s.all p = true) : ∀ l : List (List Nat), (∀ x ∈ l, x.all p = true) → (PB.joinL s l).all p = true
  | [], _ => rfl
  | [x], h => h x List.mem_cons_self
  | x :: y :: r, h => by
    simp only [PB.joinL, List.all_append, Bool.and_eq_true]
    exact ⟨⟨h x List.mem_cons_self, hs⟩, joinL_all hs (y :: r) fun z hz => h z (List.mem_cons_of_mem _ hz)⟩
theorem pb_join {apos : Pos} (ha : PE X a (RE B W ma)) (hb : PE X b (RE B W mb)) (hK : B.K = X.K) (hs : starEach [b] X.env = [(false, eval b X.env)] := by rfl) (hbase : attributeBase a "join" X.env (eval a X.env) = eval a X.env := by rfl) (hline : (apos.endLine == pos.line) = true := by rfl) :
    PE X (.Call (.Attribute a "join" apos) [b] [] pos) (RE B W (mS1 oJoin ma mb)) := by
  refine pe_w (pe_join ha hb hs hbase hline) fun σ H Q ⟨S, e, g, R, h⟩ => ?_
  refine ⟨S, e, g, R, RK.bind (.refl H) h fun x g1 vx H1 _ x1 i1 o1 h1 => ?_⟩
  split at h1
  · rename_i sep
    cases o1 with
    | str _ k1 k2 =>
    refine ⟨⟨_, rfl⟩, S, e, g1, R.exe x1 i1, RK.bind x1 h1 fun y g2 vy H2 x12 x2 i2 o2 h2 => ?_⟩
    obtain ⟨z, ez, q⟩ := h2.ofO
    have o2' := o2.pre x1 i1
    unfold oJoin at ez
    split at ez
    · rename_i ds kd
      split at ez
      · rename_i ss ks
        split at ez
        · rename_i hl
          cases ez
          obtain ⟨p, xs, rfl, hp, ap⟩ := o2'.items R kd
          obtain ⟨e1, hs'⟩ := ap.dStrs ks
          subst e1
          have e2 : ss.map (fun l => V.str (mkS l)) = (ss.map mkS).map V.str := by simp
          rw [e2] at hp
          refine ⟨mkS sep, p, ss.map mkS, rfl, rfl, .inl (SqL.of hp), ?_, ?_⟩
          · rw [List.map_map, List.length_map, mkS_len]
            have e3 : ((fun x => x.length) ∘ mkS) = (fun l : List Nat => l.length) := by
              funext l
              exact mkS_len l
            rw [e3, Nat.mul_comm ss.length]
            exact hl
          · have e4 : Txt.join (mkS sep) (ss.map mkS) = mkS (PB.joinL sep ss) := by
              apply TL.ext_tl
              rw [TL.join_eq, TL.tl_join, joinL_eq]
              have : (ss.map mkS).map TL.tl = ss := by
                rw [List.map_map]
                have : TL.tl ∘ mkS = id := by
                  funext l
                  exact mkS_list l
                rw [this, List.map_id]
              rw [this]
              rfl
            rw [e4]
            exact q _ H2 x2 i2 (.str _ (Nat.le_trans (joinL_len sep ss) hl) (joinL_all k2 ss fun x hx => (hs' x hx).2))
        · cases ez
      · cases ez
    · cases ez
  · exact h1.elim
/-! ### slices -/
theorem po_part {o : Option Expr} {m : Option (ME γ)} (h : match o, m with
    | none, none => True
    | some e, some m => PE X e (RE B W m)
    | _, _ => False) : PO X o (fun σ H Q => ∃ (S : Addr → Prop) (e : Env) (g : γ), Rep ⟨B, S⟩ e g σ H ∧ RK (fun _ _ _ _ _ a b => a = b) ⟨B, S⟩ W e σ H (mPart m e g) Q) := by
  cases o with
  | none =>
    cases m with
    | none => exact po_w po_none fun σ H Q ⟨S, e, g, R, h⟩ => h none H (.refl H) R.gh rfl
    | some m => exact h.elim
  | some a =>
    cases m with
    | none => exact h.elim
    | some m =>
      refine po_w (po_some h) fun σ H Q ⟨S, e, g, R, h⟩ => ?_
      refine ⟨S, e, g, R, RK.bind (.refl H) h fun x g1 vx H1 _ x1 i1 o1 h1 => ?_⟩
      split at h1
      · cases o1
        exact ⟨_, rfl, h1 _ H1 x1 i1 rfl⟩
      · exact h1.elim
theorem cut_len {α : Type} (xs : List α) (lo hi : Option Int) : (PB.cut xs lo hi).length ≤ xs.length := by
  unfold PB.cut
  rw [List.length_take, List.length_drop]
  omega
theorem pb_slice {lo hi : Option Expr} {ml mh : Option (ME γ)} {p2 : Pos} (hK : B.K = X.K) (ha : PE X a (RE B W ma)) (hl : match lo, ml with
    | none, none => True
    | some e, some m => PE X e (RE B W m)
    | _, _ => False) (hh : match hi, mh with
    | none, none => True
    | some e, some m => PE X e (RE B W m)
    | _, _ => False) : PE X (.Subscript a (.Slice lo hi none p2) pos) (RE B W (mCut ma ml mh)) := by
  refine pe_w (pe_slice (SlR.or sl_list (SlR.or sl_tupA sl_str)) ha (po_part hl) (po_part hh)) fun σ H Q ⟨S, e, g, R, h⟩ => ?_
  refine ⟨S, e, g, R, RK.bind (.refl H) h fun x g1 vx H1 _ x1 i1 o1 h1 => ?_⟩
  refine ⟨S, e, g1, R.exe x1 i1, RK.bind x1 h1 fun l g2 l' H2 x12 x2 i2 o2 h2 => ?_⟩
  cases o2
  refine ⟨S, e, g2, R.exe x2 i2, RK.bind x2 h2 fun u g3 u' H3 x23 x3 i3 o3 h3 => ?_⟩
  cases o3
  obtain ⟨z, ez, q⟩ := h3.ofO
  have o1' := (o1.step R x12).step R x23
  rw [← hK]
  unfold oCut at ez
  split at ez
  · rename_i ds
    cases ez
    cases o1' with
    | @tup p xs _ k al =>
    refine .inr (.inl ⟨p, xs, rfl, tup_seq k, fun hw => ?_, fun hw r hr => ?_⟩)
    · have : PB.cut ds l u = ds := by
        have hw' : PB.sIx ds.length 0 l = 0 ∧ PB.sIx ds.length ds.length u = ds.length := by
          rw [← al.length]
          exact hw
        unfold PB.cut
        rw [hw'.1, hw'.2]
        simp
      rw [this] at q
      exact q _ H3 x3 i3 (.tup k al)
    · have q2 := At.mkT (A := ⟨B, S⟩) R x3 i3 (al.cut l u) hr
      exact q _ _ (x3.trans (.new hr)) (Gho.new i3 hr) q2
  · rename_i s
    cases ez
    cases o1' with
    | str _ k1 k2 =>
    refine .inr (.inr ⟨mkS s, rfl, by rw [mkS_len]; exact szle k1, ?_⟩)
    have : cutS (mkS s) l u = mkS (PB.cut s l u) := by
      unfold cutS
      rw [mkS_len, mkS_list]
      rfl
    rw [this]
    exact q _ H3 x3 i3 (.str _ (Nat.le_trans (cut_len s l u) k1) (all_cut k2 l u))
  · split at ez
    · rename_i ds kd
      cases ez
      obtain ⟨p, xs, rfl, hp, al⟩ := o1'.items R kd
      exact .inl ⟨p, xs, rfl, SqL.of hp, fun r hr => q _ _ (x3.trans (.new hr)) (Gho.new i3 hr) (VOk.mk x3 i3 (al.cut l u) hr)⟩
    · cases ez
/-! ### statements that change -/
theorem pb_tgt {tgm : MG} {is : List Nat} {g : TG} {tge : Expr} (ha : PE X a (RE B W ma)) (hg : PG X tge g) (ts : TgS B g tgm is) (hs : swapsWithSole [tge] a pos.line X.env = pure false := by rfl) (hw : swappedStores [tge] a X.env = pure none := by rfl)
    (h1 : (assignEach [tge] X.env).map (·.2) = [assign tge X.env] := by rfl) : PS X (.Assign [tge] a pos) (RS B W (mTgt tgm ma)) := by
  refine ps_w (ps_asg ha hg hs hw h1) fun Dd σ H ⟨S, e, g, R, h⟩ => ?_
  refine ⟨S, e, g, R, RSK.bind R h fun r g1 v H1 x1 i1 o1 h1 => ?_⟩
  have R1 := R.exe x1 i1
  split at h1
  · rename_i d
    split at h1
    · rename_i e1 kt
      exact ts S e g1 σ H1 v d e1 _ R1 o1 kt fun σ' R' s' _ _ => h1 σ' H1 R' (.trans R1 (.exe R x1) s')
    · exact h1.elim
  · exact h1.elim
theorem pb_tgtL {is : List Nat} {u : TGs} {n : Nat} {tge : Expr} (hK : B.K = X.K) (hn : is.length = n) (ha : PE X a (RE B W ma)) (hg : PG X tge (gUnl X.K n u)) (ts : TgL B u is) (hs : swapsWithSole [tge] a pos.line X.env = pure false := by rfl) (hw : swappedStores [tge] a X.env = pure none := by rfl)
    (h1 : (assignEach [tge] X.env).map (·.2) = [assign tge X.env] := by rfl) : PS X (.Assign [tge] a pos) (RS B W (mTgtL is ma)) := by
  subst hn
  refine ps_w (ps_asg ha hg hs hw h1) fun Dd σ H ⟨S, e, g, R, h⟩ => ?_
  refine ⟨S, e, g, R, RSK.bind R h fun r g1 v H1 x1 i1 o1 h1 => ?_⟩
  have R1 := R.exe x1 i1
  split at h1
  · rename_i ds kds
    split at h1
    · rename_i e1 kt
      obtain ⟨p, xs, ev, k, al⟩ := o1.items R kds
      refine ⟨p, xs, ev, by rw [← hK]; exact SqL.of k, by rw [al.length]; exact tgL_len kt, ?_⟩
      exact ts_list ts S e g1 σ H1 xs ds e1 _ R1 al kt fun σ' R' s' _ _ => h1 σ' H1 R' (.trans R1 (.exe R x1) s')
    · exact h1.elim
  · exact h1.elim
/-- x op= e: numbers, texts -/
theorem pb_aug {i : Nat} {x : Str} {op : Operator} {f : Op2} {r : R2} {pos' : Pos} (ho : OpR X (inplaceOp op) r) (hf2 : OpS2 B f r) (hN : X.N.Nodup) (hi : X.N[i]? = some x) (hx : Loc X.env.scope x) (ha : PE X a (RE B W ma)) (hf : X.fn x = true ∨ X.env.scope.names.lookup x = some .local := by first | exact .inl rfl | exact .inr rfl | assumption) :
    PS X (.AugAssign (.Name x pos') op a pos) (RS B W (mAug i f ma)) := by
  have hp : PIp X op r := fun pins s σ H x y v u Q I rx ry q => ho pins s σ H x y v u Q I rx ry q
  refine ps_w (ps_aug hN hi hx ha hp hf) fun Dd σ H ⟨S, e, g, R, h⟩ => ?_
  unfold mAug at h
  have sl := R.sl i
  cases k : gt e i with
  | un =>
    rw [k] at h
    exact h.elim
  | xc y =>
    rw [k] at h
    exact h.elim
  | gh y =>
    rw [k] at h
    exact h.elim
  | own ds =>
    rw [k] at h
    exact h.elim
  | dat d =>
    rw [k] at h sl
    obtain ⟨v, ev, av⟩ := sl
    refine ⟨v, ev, S, e, g, R, RSK.bind R h fun y g1 vy H1 x1 i1 o1 h1 => ?_⟩
    have R1 := R.exe x1 i1
    split at h1
    · rename_i r kf
      refine hf2 S e g g1 σ H H1 (.dat d) y r v vy _ R x1 i1 (R.at x1 av) o1 kf fun w H2 n o => ?_
      have xt := x1.trans (n.exe (A := ⟨B, S⟩))
      have R2 := R.exe xt (n.gh i1)
      cases r with
      | dat d' =>
        have o' : At B.K (Om ⟨B, S⟩ e σ) H2 w d' := o
        exact h1 _ _ (R2.set o' i) (.trans R2 (.exe R xt) (.set R2 i))
      | own ds =>
        obtain ⟨R3, ow⟩ := Rep.setO R xt R2 o i
        exact h1 _ _ R3 ⟨fun b o q n => xt b o q fun z => n (.inl z), ow⟩
      | bor ds => exact h1.elim
    · exact h1.elim
/-- a list that a name holds is changed -/
theorem Rep.upd_own {A : Act γ ι} {e : Env} {g : γ} {σ : L2.St} {H : Hp} (R : Rep A e g σ H) {i : Nat} {ds es : List D} {p : Addr} {ys : List V} (hi : gt e i = .own ds) (hp : σ[i]? = some (some (.ref p))) (al : AtL A.K (Om A e σ) H ys es) :
    Rep A (st e i (.own es)) g σ (upd H p (.lst ys)) ∧ Stp A e σ H (st e i (.own es)) σ (upd H p (.lst ys)) := by
  have op : OwnA e σ p := ⟨i, ds, hi, hp⟩
  have hil : i < e.length := by
    by_cases hlt : i < e.length
    · exact hlt
    · rw [gt_out (by omega)] at hi
      cases hi
  have own : ∀ b, OwnA (st e i (.own es)) σ b ↔ OwnA e σ b := fun b => by
    constructor
    · rintro ⟨j, fs, h1, h2⟩
      rw [gt_st] at h1
      by_cases c : j = i ∧ i < e.length
      · rw [c.1] at h2
        exact ⟨i, ds, hi, h2⟩
      · rw [if_neg c] at h1
        exact ⟨j, fs, h1, h2⟩
    · rintro ⟨j, fs, h1, h2⟩
      by_cases c : j = i
      · exact ⟨i, es, by rw [gt_st, if_pos ⟨rfl, hil⟩], by rw [← c]; exact h2⟩
      · exact ⟨j, fs, by rw [gt_st, if_neg (fun z => c z.1)]; exact h1, h2⟩
  have go : ∀ a o, H a = some o → ¬ Om A e σ a → upd H p (.lst ys) a = some o ∧ ¬ Om A (st e i (.own es)) σ a := fun a o q n =>
    ⟨by rw [upd_ne (fun z => n (.inr (by rw [z]; exact op)))]; exact q, fun z => z.elim (fun z => n (.inl z)) fun z => n (.inr ((own a).mp z))⟩
  refine ⟨⟨by rw [len_st, R.len], fun j => ?_, fun j k2 dj dk q h1 h2 h3 h4 => ?_, fun a z => R.nx a ((own a).mp z), A.G.stab _ _ _ R.gh (fun a z => upd_ne fun q => R.notF op (by rw [← q]; exact z)) (fun a xs q => by rw [upd_ne (fun z => by obtain ⟨zs, k⟩ := op.some R; rw [z, k] at q; cases q)]; exact q), R.fx, fun a z => ?_⟩, ⟨fun b o q n => by rw [upd_ne (fun z => n (.inr (by rw [z]; exact op)))]; exact q, fun b z => .inl ((own b).mp z)⟩⟩
  · rw [gt_st]
    by_cases c : j = i ∧ i < e.length
    · rw [if_pos c, c.1]
      exact ⟨p, ys, hp, upd_same, al.go go⟩
    · rw [if_neg c]
      have q := R.sl j
      cases h : gt e j with
      | un => trivial
      | dat d2 =>
        rw [h] at q
        obtain ⟨w, e1, a1⟩ := q
        exact ⟨w, e1, a1.go go⟩
      | own fs =>
        rw [h] at q
        obtain ⟨q2, zs, e1, k1, a1⟩ := q
        have : q2 ≠ p := fun z => c ⟨R.inj j i fs ds p h hi (by rw [← z]; exact e1) hp, hil⟩
        exact ⟨q2, zs, e1, by rw [upd_ne this]; exact k1, a1.go go⟩
      | xc y =>
        rw [h] at q
        refine ⟨q.1, q.2.go fun b fs k => ?_⟩
        have : b ≠ p := fun z => R.nxd k (.inr (by rw [z]; exact op))
        rw [upd_ne this]
        exact k
      | gh y =>
        rw [h] at q
        exact q
  · rw [gt_st] at h1 h2
    have f1 : ∃ d, gt e j = .own d := by
      by_cases c : j = i ∧ i < e.length
      · exact ⟨ds, by rw [c.1]; exact hi⟩
      · rw [if_neg c] at h1
        exact ⟨_, h1⟩
    have f2 : ∃ d, gt e k2 = .own d := by
      by_cases c : k2 = i ∧ i < e.length
      · exact ⟨ds, by rw [c.1]; exact hi⟩
      · rw [if_neg c] at h2
        exact ⟨_, h2⟩
    obtain ⟨d1, f1⟩ := f1
    obtain ⟨d2, f2⟩ := f2
    exact R.inj j k2 d1 d2 q f1 f2 h3 h4
  · by_cases q : a = p
    · rw [q]
      exact .lst upd_same
    · rw [upd_ne q]
      exact R.xs a z
theorem pb_app {i : Nat} {x : Str} {px apos : Pos} (hK : B.K = X.K) (hN : X.N[i]? = some x) (ha : PE X a (RE B W ma)) (hv : Vis X.env.scope x := by first | exact Or.inl rfl | exact Or.inr (Or.inl rfl)) (hd : (x == ("__debug__" : Str)) = false := by decide) (hcd : (x == ("__classdict__" : Str)) = false := by decide)
    (hbase : attributeBase (.Name x px) "append" X.env (eval (.Name x px) X.env) = eval (.Name x px) X.env := by rfl)
    (hfew : ((backTo pos (starEach [a] X.env)).all (fun x => !x.1) && (backToKw pos (keywordEach [] X.env)).all (fun x => x.1.isSome)
      && decide ([a].length + ([] : List Keyword).length + (if ([] : List Keyword).isEmpty then 0 else 1) < 30)) = true := by rfl)
    (hline : (apos.endLine == pos.line) = true := by rfl) (hs : starEach [a] X.env = (false, eval a X.env) :: starEach [] X.env := by rfl) (hplain : (backTo pos (starEach [] X.env)).any (·.1) = false := by rfl) {epos : Pos}
    (hsw : swapsWith (.Call (.Attribute (.Name x px) "append" apos) [a] [] pos) none epos.line X.env = pure false := by rfl) :
    PS X (.Expr (.Call (.Attribute (.Name x px) "append" apos) [a] [] pos) epos) (RS B W (mApp i ma)) := by
  refine ps_w (ps_expr (pe_bm PySem.F.plainAttrs_list PySem.F.slot_list_append PySem.F.type_list_append mt_append (pe_var hN hv hd hcd) (pa_cons ha pa_nil hs) hbase hfew hline hs hplain) hsw) fun Dd σ H ⟨S, e, g, R, h⟩ => ?_
  unfold mApp at h
  have sl := R.sl i
  cases k : gt e i with
  | un =>
    rw [k] at h
    exact h.elim
  | dat d =>
    rw [k] at h
    exact h.elim
  | xc y =>
    rw [k] at h
    exact h.elim
  | gh y =>
    rw [k] at h
    exact h.elim
  | own ds =>
    rw [k] at h sl
    obtain ⟨p, xs, ev, hp, al⟩ := sl
    refine ⟨.ref p, ev, .inl ⟨rfl, xs, SqL.of hp⟩, S, e, g, R, RSK.bind R h fun y g1 vy H1 x1 i1 o1 h1 => ?_⟩
    have R1 := R.exe x1 i1
    split at h1
    · rename_i d ks
      split at h1
      · rename_i hz
        have op : OwnA e σ p := ⟨i, ds, k, ev⟩
        have hp1 : H1 p = some (.lst xs) := x1 p _ hp (R.notF op)
        have al1 := R.atL x1 al
        obtain ⟨R2, s2⟩ := R1.upd_own (es := ds ++ [d]) k ev (al1.app (.cons (o1.sto R ks) .nil))
        exact ⟨p, xs, vy, rfl, rfl, hp1, by rw [al1.length]; exact szlt hz, h1 _ _ R2 (.trans R1 (.exe R x1) s2)⟩
      · exact h1.elim
    · exact h1.elim
theorem pb_put {i : Nat} {x : Str} {px tp : Pos} {ke : Expr} {mk : ME γ} (hN : X.N[i]? = some x) (hk : PE X ke (RE B W mk)) (ha : PE X a (RE B W ma)) (hv : Vis X.env.scope x := by first | exact Or.inl rfl | exact Or.inr (Or.inl rfl)) (hd : (x == ("__debug__" : Str)) = false := by decide) (hcd : (x == ("__classdict__" : Str)) = false := by decide)
    (hasg : ∀ v, assign (.Subscript (.Name x px) ke tp) X.env v = (do
      let ov ← holding [v] (eval (.Name x px) X.env)
      let iv ← holding [v, ov] (eval ke X.env)
      standAt tp
      holding [v, ov, iv] (setItem ov iv v)
      release [v, ov, iv] []) := by intro _; rfl)
    (hs : swapsWithSole [.Subscript (.Name x px) ke tp] a pos.line X.env = pure false := by rfl) (hw : swappedStores [.Subscript (.Name x px) ke tp] a X.env = pure none := by rfl)
    (h1 : (assignEach [.Subscript (.Name x px) ke tp] X.env).map (·.2) = [assign (.Subscript (.Name x px) ke tp) X.env] := by rfl) :
    PS X (.Assign [.Subscript (.Name x px) ke tp] a pos) (RS B W (mPut i mk ma)) := by
  refine ps_w (ps_asg ha (pg_sub (pe_var hN hv hd hcd) hk set_list hasg) hs hw h1) fun Dd σ H ⟨S, e, g, R, h⟩ => ?_
  refine ⟨S, e, g, R, RSK.bind R h fun y g1 vy H1 x1 i1 o1 h1 => ?_⟩
  have R1 := R.exe x1 i1
  have sl := R1.sl i
  cases k : gt e i with
  | un =>
    rw [k] at h1
    exact h1.elim
  | dat d =>
    rw [k] at h1
    exact h1.elim
  | xc y =>
    rw [k] at h1
    exact h1.elim
  | gh y =>
    rw [k] at h1
    exact h1.elim
  | own ds =>
    rw [k] at h1 sl
    obtain ⟨p, xs, ev, hp, al⟩ := sl
    refine ⟨.ref p, ev, S, e, g1, R1, RSK.bind R1 (rs_lateE R x1 i1 h1) fun z g2 vz H2 x2 i2 o2 h2 => ?_⟩
    have R2 := R1.exe x2 i2
    split at h2
    · rename_i d n ks
      split at h2
      · rename_i j kj
        cases o2
        have op : OwnA e σ p := ⟨i, ds, k, ev⟩
        have hp2 : H2 p = some (.lst xs) := x2 p _ hp (R.notF op)
        have al2 := R1.atL x2 al
        have oy := R.at x2 (o1.sto R ks)
        obtain ⟨R3, s3⟩ := R2.upd_own (es := ds.set j d) k ev (al2.set j oy)
        exact ⟨p, xs, n, j, rfl, rfl, hp2, by rw [al2.length]; exact kj, h2 _ _ R3 (.trans R2 (.exe R1 x2) s3)⟩
      · exact h2.elim
    · exact h2.elim
/-! ### a def keeps its promise -/
theorem start_rep {A : Act γ ι} {N : List Str} {vs : List V} {ds : List D} {g : γ} {H : Hp} (fx : ∀ a, A.G.F a → A.X a) (xt : ∀ a, A.X a → Stk (H a)) (al : AtL A.K A.X H vs ds) (gh : A.G.I g H) (hn : vs.length ≤ N.length) :
    Rep A (ds.map Sl.dat ++ List.replicate (N.length - ds.length) .un) g (L2.start N vs) H := by
  have hl := al.length
  have gtm : ∀ (ds : List D) (m j : Nat), gt (ds.map Sl.dat ++ List.replicate m .un) j = match ds[j]? with
      | some d => .dat d
      | none => .un := by
    intro ds m
    induction ds with
    | nil =>
      intro j
      simp only [List.map_nil, List.nil_append, List.getElem?_nil]
      induction m generalizing j with
      | zero => rfl
      | succ m ih =>
        rw [List.replicate_succ]
        cases j with
        | zero => rfl
        | succ j => exact ih j
    | cons d ds ih =>
      intro j
      cases j with
      | zero => rfl
      | succ j => exact ih j
  have nown : ∀ σ a, ¬ OwnA (ds.map Sl.dat ++ List.replicate (N.length - ds.length) .un) σ a := fun σ a ⟨j, es, h1, _⟩ => by
    rw [gtm] at h1
    split at h1 <;> cases h1
  refine ⟨?_, fun j => ?_, fun i j di dj p h1 _ _ _ => ?_, fun a z => absurd z (nown _ a), gh, fx, xt⟩
  · unfold L2.start
    simp only [List.length_append, List.length_map, List.length_replicate]
    omega
  · rw [gtm]
    cases k : ds[j]? with
    | none => trivial
    | some d =>
      obtain ⟨v, hv, av⟩ := al.get k
      refine ⟨v, ?_, av.less fun a z => z.elim id fun z => absurd z (nown _ a)⟩
      have hj : j < vs.length := (List.getElem?_eq_some_iff.mp hv).1
      unfold L2.start
      rw [List.getElem?_append_left (by simpa using hj), List.getElem?_map, hv]
      rfl
  · rw [gtm] at h1
    split at h1 <;> cases h1
section
variable {P : Program} {w : World} {K : Frag} {mg : Str → Option Value} {base : Heap} {Tx : XT} {xa : Addr × Value × Option Addr} {fam : ι → Gho γ}
/-- THE RULE for a def that no exception leaves -/
theorem fn_pb {x qual : Str} {st : Stmt} {f : Addr} {fd : FuncData} {N ps : List Str} {k : Nat} {m : MS γ} {dvs : List V} (F : FunD K x qual (defArgs st) (defBody st) (defScope st) dvs [] f fd) (Sc : FnScope N ps (defScope st)) (hn : ps.length ≤ N.length)
    (hb : ∀ (i : ι) (cdv : Value) (A : Around) (outer : List PySem.Env) (s : Shared) (H : Hp) (E : XK), Room k (A.deeper (envOfC qual (defScope st) s.heap.objs.size f cdv)) →
      PSs (cxOf CX0 P w K mg base N qual (defScope st) f cdv A outer s H E).nox (defBody st) (RS ⟨K, Tx, fam, i, xa⟩ W0 m)) :
    FnOk P w K mg base CX0 (k + 1) f fd ps (spOf K fam ps.length (mDef N.length ps.length m)) := by
  refine F.ok Sc (fun vs H Q E h => ?_) (fun cdv A outer s H vs Q E hr h => ?_)
  · obtain ⟨i, S, ds, g, hl, _⟩ := h
    exact hl
  · obtain ⟨i, S, ds, g, hl, fx, xt, al, gh, hq⟩ := h
    refine ⟨_, (hb i cdv A outer s H E hr).nox, S, _, g, start_rep (A := ⟨⟨K, Tx, fam, i, xa⟩, S⟩) (N := N) fx xt al gh (by omega), ?_⟩
    have nown : ∀ a, ¬ OwnA (ds.map Sl.dat ++ List.replicate (N.length - ds.length) .un) (L2.start N vs) a := fun a ⟨j, es, h1, h2⟩ => by
      have gtm : ∀ (ds : List D) (m j : Nat), gt (ds.map Sl.dat ++ List.replicate m .un) j = match ds[j]? with
          | some d => .dat d
          | none => .un := by
        intro ds m
        induction ds with
        | nil =>
          intro j
          simp only [List.map_nil, List.nil_append, List.getElem?_nil]
          induction m generalizing j with
          | zero => rfl
          | succ m ih =>
            rw [List.replicate_succ]
            cases j with
            | zero => rfl
            | succ j => exact ih j
        | cons d ds ih =>
          intro j
          cases j with
          | zero => rfl
          | succ j => exact ih j
      rw [gtm] at h1
      split at h1 <;> cases h1
    have nmu : ∀ b, ¬ (fam i).F b → ¬ Mu (⟨⟨K, Tx, fam, i, xa⟩, S⟩ : Act γ ι) (ds.map Sl.dat ++ List.replicate (N.length - ds.length) .un) (L2.start N vs) b := fun b n z => z.elim n (nown b)
    have hdl : ds.length = ps.length := by rw [← al.length]; exact hl
    unfold mDef at hq
    rw [if_pos hdl] at hq
    rw [hdl]
    rw [hdl] at nmu nown
    cases km : m (ds.map Sl.dat ++ List.replicate (N.length - ps.length) .un) g with
    | no =>
      rw [km] at hq
      exact hq
    | ex y g1 =>
      rw [km] at hq
      exact hq.elim
    | ok f g1 =>
      rw [km] at hq
      cases f with
      | nx e' => exact fun σ' H' R' s' => hq .non H' (fun b o q n => s'.keep b o q (nmu b n)) R'.gh .non
      | bk e' => exact hq.elim
      | ct e' => exact hq.elim
      | rt r =>
        intro v H' kp i' vr
        refine hq v H' (fun b o q n => kp b o q (nmu b n)) i' ?_
        have vr' : VRet (⟨⟨K, Tx, fam, i, xa⟩, S⟩ : Act γ ι) _ _ H H' r v := vr
        unfold VRet at vr'
        show FRet K S H H' r.ret v
        cases kr : r.ret with
        | dat d =>
          rw [kr] at vr'
          exact vr'
        | own es =>
          rw [kr] at vr'
          obtain ⟨p, xs, e1, h0, nx, k1, a1⟩ := vr'
          exact ⟨p, xs, e1, h0.elim (fun z => absurd z (nown p)) id, k1, a1⟩
        | bor es =>
          rw [kr] at vr'
          exact vr'.elim
end
end
end PB

set_option Elab.async false
set_option linter.all false
set_option maxRecDepth 100000
set_option maxHeartbeats 4000000
namespace PB
open PySem PySem.Spec PyProof.Rows L2
abbrev LI := Addr × Addr × Addr
structure LsAt (i : LI) (s : LS) (H : Hp) : Prop where
  ea : s.a = i.1
  ha : H i.1 = some (.lst [.ref i.2.1, .int s.told, .ref i.2.2, .int (s.cnt : Int)])
  hg : H i.2.1 = some (.lst (s.gr.map V.int))
  hc : H i.2.2 = some (.lst (s.cs.map V.int))
  n1 : i.1 ≠ i.2.1
  n2 : i.1 ≠ i.2.2
  n3 : i.2.1 ≠ i.2.2
def lsG (i : LI) : Gho LS where
  F := fun a => a = i.1 ∨ a = i.2.1 ∨ a = i.2.2
  I := fun s H => LsAt i s H
  stab := fun s H H' h k _ => ⟨h.ea, by rw [k _ (.inl rfl)]; exact h.ha, by rw [k _ (.inr (.inl rfl))]; exact h.hg, by rw [k _ (.inr (.inr rfl))]; exact h.hc, h.n1, h.n2, h.n3⟩
  lsts := fun s H a h k => by
    rcases k with rfl | rfl | rfl
    · exact ⟨_, h.ha⟩
    · exact ⟨_, h.hg⟩
    · exact ⟨_, h.hc⟩
  ad := fun _ => i.1
section
variable {K : Frag} {Tx : XT} {xa : Addr × Value × Option Addr} {ii : LI} {W : WX} {X : Cx} {pos : Pos} {a : Expr} {ma mk : ME LS}
abbrev LB (K : Frag) (Tx : XT) (ii : LI) (xa : Addr × Value × Option Addr) : Bs LS LI := ⟨K, Tx, lsG, ii, xa⟩
theorem st_at {S : Addr → Prop} {e : Env} {s : LS} {σ : L2.St} {H : Hp} {i : Nat} (R : Rep ⟨LB K Tx ii xa, S⟩ e s σ H) (h : isSt e i s = true) : σ[i]? = some (some (.ref ii.1)) ∧ LsAt ii s H := by
  have L : LsAt ii s H := R.gh
  unfold isSt at h
  split at h
  · rename_i a0 hk
    have q := R.sl i
    rw [hk] at q
    obtain ⟨v, e1, av⟩ := q
    have ea : a0 = s.a := eq_of_beq h
    cases av
    rw [e1, ea, L.ea]
    exact ⟨rfl, L⟩
  · cases h
theorem ifst {α β : Type} {P : Act LS LI → Env → L2.St → Hp → Hp → α → β → Prop} {A : Act LS LI} {e : Env} {σ : L2.St} {H : Hp} {c : Bool} {r : Rs LS α} {Q : β → Hp → Prop} (h : RK P A W e σ H (if c = true then r else .no) Q) : c = true ∧ RK P A W e σ H r Q := by
  by_cases hc : c = true
  · rw [if_pos hc] at h
    exact ⟨hc, h⟩
  · rw [if_neg hc] at h
    exact h.elim
theorem pb_told (i : Nat) {x : Str} {px : Pos} {j : Nat} {pj : Pos} (hN : X.N[i]? = some x) (hv : Vis X.env.scope x := by first | exact Or.inl rfl | exact Or.inr (Or.inl rfl)) (hd : (x == ("__debug__" : Str)) = false := by decide) (hcd : (x == ("__classdict__" : Str)) = false := by decide) :
    PE X (.Subscript (.Name x px) (.Constant (.int 1) j pj) pos) (RE (LB K Tx ii xa) W (mTold i)) := by
  refine pe_w (pe_ix ix_list (pe_var hN hv hd hcd) pe_int (fun _ _ => rfl)) fun σ H Q ⟨S, e, s, R, h⟩ => ?_
  obtain ⟨hst, h⟩ := ifst h
  obtain ⟨e1, L⟩ := st_at R hst
  exact ⟨_, e1, ii.1, _, 1, _, rfl, rfl, SqL.of L.ha, rfl, h _ H (.refl H) L (.int _)⟩
theorem pb_cnt (i : Nat) {x : Str} {px : Pos} {j : Nat} {pj : Pos} (hN : X.N[i]? = some x) (hv : Vis X.env.scope x := by first | exact Or.inl rfl | exact Or.inr (Or.inl rfl)) (hd : (x == ("__debug__" : Str)) = false := by decide) (hcd : (x == ("__classdict__" : Str)) = false := by decide) :
    PE X (.Subscript (.Name x px) (.Constant (.int 3) j pj) pos) (RE (LB K Tx ii xa) W (mCnt i)) := by
  refine pe_w (pe_ix ix_list (pe_var hN hv hd hcd) pe_int (fun _ _ => rfl)) fun σ H Q ⟨S, e, s, R, h⟩ => ?_
  obtain ⟨hst, h⟩ := ifst h
  obtain ⟨e1, L⟩ := st_at R hst
  exact ⟨_, e1, ii.1, _, 3, _, rfl, rfl, SqL.of L.ha, rfl, h _ H (.refl H) L (.int _)⟩
theorem emp_map (l : List Int) : (!(l.map V.int).isEmpty) = !l.isEmpty := by cases l <;> rfl
theorem pb_hasG (i : Nat) {x : Str} {px : Pos} {j : Nat} {pj : Pos} (hN : X.N[i]? = some x) (hv : Vis X.env.scope x := by first | exact Or.inl rfl | exact Or.inr (Or.inl rfl)) (hd : (x == ("__debug__" : Str)) = false := by decide) (hcd : (x == ("__classdict__" : Str)) = false := by decide)
    (he : ∀ whole, isTrue (.Subscript (.Name x px) (.Constant (.int 0) j pj) pos) X.env whole = (do let v ← whole; standAt (Expr.pos (.Subscript (.Name x px) (.Constant (.int 0) j pj) pos)); holding [v] (truthy v)) := by intro _; rfl) :
    PT X (.Subscript (.Name x px) (.Constant (.int 0) j pj) pos) (RT (LB K Tx ii xa) W (mHasG i)) := by
  refine pt_w (pt_truth (pe_ix ix_list (pe_var hN hv hd hcd) pe_int (fun _ _ => rfl)) he) fun σ H Q ⟨S, e, s, R, h⟩ => ?_
  obtain ⟨hst, h⟩ := ifst h
  obtain ⟨e1, L⟩ := st_at R hst
  exact ⟨_, e1, ii.1, _, 0, _, rfl, rfl, SqL.of L.ha, rfl, _, .inl ⟨_, SqL.of L.hg, (emp_map _).symm⟩, h _ H (.refl H) L rfl⟩
theorem pb_hasC (i : Nat) {x : Str} {px : Pos} {j : Nat} {pj : Pos} (hN : X.N[i]? = some x) (hv : Vis X.env.scope x := by first | exact Or.inl rfl | exact Or.inr (Or.inl rfl)) (hd : (x == ("__debug__" : Str)) = false := by decide) (hcd : (x == ("__classdict__" : Str)) = false := by decide)
    (he : ∀ whole, isTrue (.Subscript (.Name x px) (.Constant (.int 2) j pj) pos) X.env whole = (do let v ← whole; standAt (Expr.pos (.Subscript (.Name x px) (.Constant (.int 2) j pj) pos)); holding [v] (truthy v)) := by intro _; rfl) :
    PT X (.Subscript (.Name x px) (.Constant (.int 2) j pj) pos) (RT (LB K Tx ii xa) W (mHasC i)) := by
  refine pt_w (pt_truth (pe_ix ix_list (pe_var hN hv hd hcd) pe_int (fun _ _ => rfl)) he) fun σ H Q ⟨S, e, s, R, h⟩ => ?_
  obtain ⟨hst, h⟩ := ifst h
  obtain ⟨e1, L⟩ := st_at R hst
  exact ⟨_, e1, ii.1, _, 2, _, rfl, rfl, SqL.of L.ha, rfl, _, .inl ⟨_, SqL.of L.hc, (emp_map _).symm⟩, h _ H (.refl H) L rfl⟩
theorem pb_lenC (i : Nat) {x : Str} {px p pl : Pos} {j : Nat} {pj : Pos} (hN : X.N[i]? = some x) (hg : Gl X "len") (hm : X.mg "len" = none) (hv : Vis X.env.scope x := by first | exact Or.inl rfl | exact Or.inr (Or.inl rfl)) (hd : (x == ("__debug__" : Str)) = false := by decide) (hcd : (x == ("__classdict__" : Str)) = false := by decide)
    (hs : starEach [.Subscript (.Name x px) (.Constant (.int 2) j pj) p] X.env = (false, eval (.Subscript (.Name x px) (.Constant (.int 2) j pj) p) X.env) :: starEach [] X.env := by rfl) (hpl : (backTo pos (starEach [] X.env)).any (·.1) = false := by rfl) :
    PE X (.Call (.Name "len" pl) [.Subscript (.Name x px) (.Constant (.int 2) j pj) p] [] pos) (RE (LB K Tx ii xa) W (mLenC i)) := by
  refine pe_w (pe_callB call_len_seq hg hm PySem.boot_len (pa_cons (pe_ix ix_list (pe_var hN hv hd hcd) pe_int (fun _ _ => rfl)) pa_nil hs) (by decide) (by decide) hs hpl) fun σ H Q ⟨S, e, s, R, h⟩ => ?_
  obtain ⟨hst, h⟩ := ifst h
  obtain ⟨e1, L⟩ := st_at R hst
  refine ⟨_, e1, ii.1, _, 2, _, rfl, rfl, SqL.of L.ha, rfl, ii.2.2, _, rfl, .inl (SqL.of L.hc), ?_⟩
  rw [List.length_map]
  exact h _ H (.refl H) L (.int _)
theorem atI_map (l : List Int) (n : Int) : L2.atI (l.map V.int) n = (PB.atI l n).map V.int := by
  unfold L2.atI PB.atI
  rw [List.length_map, ixN_eq]
  cases L2.ixN l.length n with
  | none => rfl
  | some j => simp
theorem pb_atC (i : Nat) {x : Str} {px p : Pos} {j : Nat} {pj : Pos} {k : Expr} (hN : X.N[i]? = some x) (hk : PE X k (RE (LB K Tx ii xa) W mk)) (hp : PlainIx k) (hv : Vis X.env.scope x := by first | exact Or.inl rfl | exact Or.inr (Or.inl rfl)) (hd : (x == ("__debug__" : Str)) = false := by decide) (hcd : (x == ("__classdict__" : Str)) = false := by decide) :
    PE X (.Subscript (.Subscript (.Name x px) (.Constant (.int 2) j pj) p) k pos) (RE (LB K Tx ii xa) W (mAtC i mk)) := by
  refine pe_w (pe_ix ix_list (pe_ix ix_list (pe_var hN hv hd hcd) pe_int (fun _ _ => rfl)) hk hp) fun σ H Q ⟨S, e, s, R, h⟩ => ?_
  obtain ⟨hst, h⟩ := ifst h
  obtain ⟨e1, L⟩ := st_at R hst
  refine ⟨_, e1, ii.1, _, 2, _, rfl, rfl, SqL.of L.ha, rfl, S, e, s, R, RK.bind (.refl H) h fun y s1 vy H1 _ x1 i1 o1 h1 => ?_⟩
  split at h1
  · rename_i n
    obtain ⟨hst1, h1⟩ := ifst h1
    obtain ⟨v, ev, q⟩ := h1.ofO
    obtain ⟨_, L1⟩ := st_at (R.exe x1 i1) hst1
    cases o1
    cases k2 : PB.atI s1.cs n with
    | none =>
      rw [k2] at ev
      cases ev
    | some z =>
      rw [k2] at ev
      cases ev
      exact ⟨ii.2.2, _, n, .int z, rfl, rfl, SqL.of L1.hc, by rw [atI_map, k2]; rfl, q _ H1 x1 i1 (.int _)⟩
  · exact h1.elim
/-- the state changes -/
theorem ls_step {S : Addr → Prop} {e : Env} {s s' : LS} {σ : L2.St} {H H' : Hp} (R : Rep ⟨LB K Tx ii xa, S⟩ e s σ H) (k : ∀ a, a ≠ ii.1 → a ≠ ii.2.1 → H' a = H a) (L : LsAt ii s' H') : Rep ⟨LB K Tx ii xa, S⟩ e s' σ H' ∧ Stp ⟨LB K Tx ii xa, S⟩ e σ H e σ H' := by
  have x : ExE (⟨LB K Tx ii xa, S⟩ : Act LS LI) H H' := fun b o q n => by
    rw [k b (fun z => n (.inl z)) (fun z => n (.inr (.inl z)))]
    exact q
  exact ⟨R.exe x L, .exe R x⟩
theorem pb_setTold (i : Nat) {x : Str} {px : Pos} {j : Nat} {pj tp : Pos} (hN : X.N[i]? = some x) (ha : PE X a (RE (LB K Tx ii xa) W ma)) (hv : Vis X.env.scope x := by first | exact Or.inl rfl | exact Or.inr (Or.inl rfl)) (hd : (x == ("__debug__" : Str)) = false := by decide) (hcd : (x == ("__classdict__" : Str)) = false := by decide)
    (hasg : ∀ v, assign (.Subscript (.Name x px) (.Constant (.int 1) j pj) tp) X.env v = (do
      let ov ← holding [v] (eval (.Name x px) X.env)
      let iv ← holding [v, ov] (eval (.Constant (.int 1) j pj) X.env)
      standAt tp
      holding [v, ov, iv] (setItem ov iv v)
      release [v, ov, iv] []) := by intro _; rfl)
    (hs : swapsWithSole [.Subscript (.Name x px) (.Constant (.int 1) j pj) tp] a pos.line X.env = pure false := by rfl) (hw : swappedStores [.Subscript (.Name x px) (.Constant (.int 1) j pj) tp] a X.env = pure none := by rfl)
    (h1 : (assignEach [.Subscript (.Name x px) (.Constant (.int 1) j pj) tp] X.env).map (·.2) = [assign (.Subscript (.Name x px) (.Constant (.int 1) j pj) tp) X.env] := by rfl) :
    PS X (.Assign [.Subscript (.Name x px) (.Constant (.int 1) j pj) tp] a pos) (RS (LB K Tx ii xa) W (mSetTold i ma)) := by
  refine ps_w (ps_asg ha (pg_sub (pe_var hN hv hd hcd) pe_int set_list hasg) hs hw h1) fun Dd σ H ⟨S, e, s, R, h⟩ => ?_
  refine ⟨S, e, s, R, RSK.bind R h fun y s1 vy H1 x1 i1 o1 h1 => ?_⟩
  have R1 := R.exe x1 i1
  split at h1
  · rename_i n
    by_cases hst : isSt e i s1 = true
    · rw [if_pos hst] at h1
      obtain ⟨e1, L⟩ := st_at R1 hst
      cases o1
      refine ⟨_, e1, ii.1, _, 1, 1, rfl, rfl, L.ha, rfl, ?_⟩
      obtain ⟨R2, s2⟩ := ls_step (s' := { s1 with told := n }) R1 (fun b n1 n2 => upd_ne n1) ⟨L.ea, upd_same, by rw [upd_ne (Ne.symm L.n1)]; exact L.hg, by rw [upd_ne (Ne.symm L.n2)]; exact L.hc, L.n1, L.n2, L.n3⟩
      exact h1 σ _ R2 (.trans R1 (.exe R x1) s2)
    · rw [if_neg hst] at h1
      exact h1.elim
  · exact h1.elim
theorem pb_popG (i : Nat) {x : Str} {px px2 : Pos} {j j0 jz : Nat} {pj pj0 pjz tp p0 apos cpos : Pos} (hN : X.N[i]? = some x) (hv : Vis X.env.scope x := by first | exact Or.inl rfl | exact Or.inr (Or.inl rfl)) (hd : (x == ("__debug__" : Str)) = false := by decide) (hcd : (x == ("__classdict__" : Str)) = false := by decide)
    (hasg : ∀ v, assign (.Subscript (.Name x px) (.Constant (.int 1) j pj) tp) X.env v = (do
      let ov ← holding [v] (eval (.Name x px) X.env)
      let iv ← holding [v, ov] (eval (.Constant (.int 1) j pj) X.env)
      standAt tp
      holding [v, ov, iv] (setItem ov iv v)
      release [v, ov, iv] []) := by intro _; rfl)
    (hbase : attributeBase (.Subscript (.Name x px2) (.Constant (.int 0) j0 pj0) p0) "pop" X.env (eval (.Subscript (.Name x px2) (.Constant (.int 0) j0 pj0) p0) X.env) = eval (.Subscript (.Name x px2) (.Constant (.int 0) j0 pj0) p0) X.env := by rfl)
    (hfew : ((backTo cpos (starEach [.Constant (.int 0) jz pjz] X.env)).all (fun x => !x.1) && (backToKw cpos (keywordEach [] X.env)).all (fun x => x.1.isSome)
      && decide ([Expr.Constant (.int 0) jz pjz].length + ([] : List Keyword).length + (if ([] : List Keyword).isEmpty then 0 else 1) < 30)) = true := by rfl)
    (hline : (apos.endLine == cpos.line) = true := by rfl) (hsa : starEach [.Constant (.int 0) jz pjz] X.env = (false, eval (.Constant (.int 0) jz pjz) X.env) :: starEach [] X.env := by rfl) (hplain : (backTo cpos (starEach [] X.env)).any (·.1) = false := by rfl)
    (hs : swapsWithSole [.Subscript (.Name x px) (.Constant (.int 1) j pj) tp] (.Call (.Attribute (.Subscript (.Name x px2) (.Constant (.int 0) j0 pj0) p0) "pop" apos) [.Constant (.int 0) jz pjz] [] cpos) pos.line X.env = pure false := by rfl)
    (hw : swappedStores [.Subscript (.Name x px) (.Constant (.int 1) j pj) tp] (.Call (.Attribute (.Subscript (.Name x px2) (.Constant (.int 0) j0 pj0) p0) "pop" apos) [.Constant (.int 0) jz pjz] [] cpos) X.env = pure none := by rfl)
    (h1 : (assignEach [.Subscript (.Name x px) (.Constant (.int 1) j pj) tp] X.env).map (·.2) = [assign (.Subscript (.Name x px) (.Constant (.int 1) j pj) tp) X.env] := by rfl) :
    PS X (.Assign [.Subscript (.Name x px) (.Constant (.int 1) j pj) tp] (.Call (.Attribute (.Subscript (.Name x px2) (.Constant (.int 0) j0 pj0) p0) "pop" apos) [.Constant (.int 0) jz pjz] [] cpos) pos) (RS (LB K Tx ii xa) W (mPopG i)) := by
  refine ps_w (ps_asg (pe_bm PySem.F.plainAttrs_list PySem.F.slot_list_pop PySem.F.type_list_pop mt_popAt (pe_ix ix_list (pe_var hN hv hd hcd) pe_int (fun _ _ => rfl)) (pa_cons pe_int pa_nil hsa) hbase hfew hline hsa hplain) (pg_sub (pe_var hN hv hd hcd) pe_int set_list hasg) hs hw h1) fun Dd σ H ⟨S, e, s, R, h⟩ => ?_
  unfold mPopG at h
  by_cases hst : isSt e i s = true
  · rw [if_pos hst] at h
    obtain ⟨e1, L⟩ := st_at R hst
    split at h
    · rename_i y r hgr
      have hg := L.hg
      rw [hgr] at hg
      refine ⟨_, e1, ii.1, _, 0, _, rfl, rfl, SqL.of L.ha, rfl, .inl ⟨rfl, _, SqL.of hg⟩, ii.2.1, _, 0, 0, .int y, rfl, rfl, hg, by decide, by decide, by simp [seqIndex?], rfl, ?_⟩
      have ha2 : upd H ii.2.1 (.lst ((List.map V.int (y :: r)).eraseIdx 0)) ii.1 = _ := (upd_ne L.n1).trans L.ha
      refine ⟨_, e1, ii.1, _, 1, 1, rfl, rfl, ha2, rfl, ?_⟩
      obtain ⟨R2, s2⟩ := ls_step (s' := { s with gr := r, told := y }) (H' := upd (upd H ii.2.1 (.lst ((List.map V.int (y :: r)).eraseIdx 0))) ii.1 (.lst ([V.ref ii.2.1, .int s.told, .ref ii.2.2, .int (s.cnt : Int)].set 1 (.int y)))) R (fun b n1 n2 => by rw [upd_ne n1, upd_ne n2]) ⟨L.ea, upd_same, by rw [upd_ne (Ne.symm L.n1), upd_same]; rfl, by rw [upd_ne (Ne.symm L.n2), upd_ne (Ne.symm L.n3)]; exact L.hc, L.n1, L.n2, L.n3⟩
      exact h σ _ R2 s2
    · exact h.elim
  · rw [if_neg hst] at h
    exact h.elim
theorem get_list : PGet X (rIxL X.K) := by
  intro pins s σ H o i ov iv Q I ro ri h
  obtain ⟨p, xs, k, z, rfl, rfl, hq, he, q⟩ := h
  cases ro
  obtain ⟨t, rfl⟩ := ri
  obtain ⟨its, r, pl, hz⟩ := I.list hq
  obtain ⟨j, h1, h2, h3, h4, h5⟩ := atI_get he
  obtain ⟨w, ew, rw'⟩ := r.get h2
  have hl := r.length
  have hn := line63
  have fin : EP X pins σ Q w s := ⟨z, H, I, rw', q⟩
  by_cases h0 : 0 ≤ k
  · have hj : k.toNat = j := by
      rw [seqIndex_of h0 h5] at h1
      exact Option.some.inj h1
    exact wpAny_getItem_list pl.isList h0 (by omega) (by rw [hj]; simpa using ew) fin
  · have hj : (k + (its.toArray.size : Int)).toNat = j := by
      rw [seqIndex_neg (by omega) h4] at h1
      rw [List.size_toArray, ← hl]
      exact Option.some.inj h1
    exact wpAny_getItem_list_neg pl.isList (by omega) (by rw [List.size_toArray] <;> omega) (by omega) (by rw [hj]; simpa using ew) fin
theorem pb_incC (i : Nat) {x : Str} {px : Pos} {j jz : Nat} {pj pjz tp : Pos} (hN : X.N[i]? = some x) (hv : Vis X.env.scope x := by first | exact Or.inl rfl | exact Or.inr (Or.inl rfl)) (hd : (x == ("__debug__" : Str)) = false := by decide) (hcd : (x == ("__classdict__" : Str)) = false := by decide)
    (hau : ∀ ov iv new, augStore (.Constant (.int 3) j pj) ov iv new = (do holding [new, ov, iv] (setItem ov iv new); release [new, ov, iv] []; pure .next) := by intros; rfl) :
    PS X (.AugAssign (.Subscript (.Name x px) (.Constant (.int 3) j pj) tp) .Add (.Constant (.int 1) jz pjz) pos) (RS (LB K Tx ii xa) W (mIncC i)) := by
  refine ps_w (ps_augS (pe_var hN hv hd hcd) pe_int get_list pe_int ip_add set_list hau) fun Dd σ H ⟨S, e, s, R, h⟩ => ?_
  unfold mIncC at h
  by_cases hst : isSt e i s = true
  · rw [if_pos hst] at h
    obtain ⟨e1, L⟩ := st_at R hst
    refine ⟨_, e1, ii.1, _, 3, _, rfl, rfl, SqL.of L.ha, rfl, _, 1, rfl, rfl, ii.1, _, 3, 3, rfl, rfl, L.ha, rfl, ?_⟩
    obtain ⟨R2, s2⟩ := ls_step (s' := { s with cnt := s.cnt + 1 }) R (fun b n1 n2 => upd_ne n1) ⟨L.ea, upd_same, by rw [upd_ne (Ne.symm L.n1)]; exact L.hg, by rw [upd_ne (Ne.symm L.n2)]; exact L.hc, L.n1, L.n2, L.n3⟩
    exact h σ _ R2 s2
  · rw [if_neg hst] at h
    exact h.elim
end
end PB

set_option Elab.async false
set_option linter.all false
set_option maxRecDepth 100000
set_option maxHeartbeats 4000000
namespace PB
open PySem PySem.Spec PyProof.Rows L2
theorem hu65 {k : Nat} {A : Around} (h : Room k A) : A.units + 65 < cLine := by
  have := h.un
  omega
theorem nm_Eq (b : Expr) : behindInMarks .Eq b = false := nomark b
theorem nm_NotEq (b : Expr) : behindInMarks .NotEq b = false := nomark b
theorem nm_Lt (b : Expr) : behindInMarks .Lt b = false := nomark b
theorem nm_LtE (b : Expr) : behindInMarks .LtE b = false := nomark b
theorem nm_Gt (b : Expr) : behindInMarks .Gt b = false := nomark b
theorem nm_GtE (b : Expr) : behindInMarks .GtE b = false := nomark b
theorem nm_Is (b : Expr) : behindInMarks .Is b = false := nomark b
theorem nm_IsNot (b : Expr) : behindInMarks .IsNot b = false := nomark b
theorem fn_pb2 {γ ι : Type} {P : Program} {w : World} {K : Frag} {mg : Str → Option Value} {base : Heap} {Tx : XT} {xa : Addr × Value × Option Addr} {fam : ι → Gho γ} {x qual : Str} {st : Stmt} {f : Addr} {fd : FuncData} {N ps : List Str} {k : Nat} {dvs : List V} (m : MS γ) (a b : Nat) (F : FunD K x qual (defArgs st) (defBody st) (defScope st) dvs [] f fd) (Sc : FnScope N ps (defScope st)) (ha : N.length = a) (hb' : ps.length = b) (hn : b ≤ a)
    (hb : ∀ (i : ι) (cdv : Value) (A : Around) (outer : List PySem.Env) (s : Shared) (H : Hp) (E : XK), Room k (A.deeper (envOfC qual (defScope st) s.heap.objs.size f cdv)) →
      PSs (cxOf CX0 P w K mg base N qual (defScope st) f cdv A outer s H E).nox (defBody st) (RS ⟨K, Tx, fam, i, xa⟩ W0 m)) :
    FnOk P w K mg base CX0 (k + 1) f fd ps (spOf K fam b (mDef a b m)) := by
  subst ha hb'
  exact fn_pb F Sc hn hb
/-! ### a def of the text, its places told by the head -/
abbrev FnP (K : Frag) (x : Str) (st : Stmt) (f : Addr) (fd : FuncData) : Prop := FunD K x x (defArgs st) (defBody st) (defScope st) [] [] f fd
theorem FnP.fun {K : Frag} {x : Str} {st : Stmt} {f : Addr} {fd : FuncData} (F : FnP K x st f fd) : Fun K x x st f fd := by
  obtain ⟨oc, od, dV, kV, doc, pm, an, cdv, ct, osl, e, lk, hcd, hD, hK⟩ := F.ex
  rcases hD with ⟨_, rfl⟩ | ⟨e, _⟩
  · exact ⟨⟨oc, od, kV, doc, pm, an, cdv, ct, osl, e, lk, hcd⟩, F.kp⟩
  · exact absurd rfl e
/-- a def as callers know it -/
structure Cal (K : Frag) (mg : Str → Option Value) (x : Str) (st : Stmt) (ps : List Str) (f : Addr) (fd : FuncData) : Prop where
  F : FnP K x st f fd
  g : mg x = some (.ref f)
  b : Binds K fd ps []
/-- .. a def with defaults -/
structure CalD (K : Frag) (mg : Str → Option Value) (x : Str) (st : Stmt) (ps : List Str) (dvs : List V) (f : Addr) (fd : FuncData) : Prop where
  F : FunD K x x (defArgs st) (defBody st) (defScope st) dvs [] f fd
  g : mg x = some (.ref f)
  b : Binds K fd ps []
  d : ∃ ds, Vals dvs ds ∧ Binds K fd ps ds
theorem pss_ex {ι : Type} {X : Cx} {sts : List Stmt} {t : ι → TS} (h : ∀ i, PSs X sts (t i)) : PSs X sts (fun D σ H => ∃ i, t i D σ H) := ⟨fun pins s σ H D I ⟨i, q⟩ => (h i).run pins s σ H D I q⟩
/-! ### the state is made -/
def spStart (K : Frag) : Sp := fun vs H Q _ => ∃ (a0 : Addr) (ns : List Int), vs = [.ref a0] ∧ SqL K H a0 (ns.map V.int) ∧ ns.length ≤ 63 ∧
  ∀ (i : LI) (s : LS) (H' : Hp), s.Ok → s.cnt = 0 → LsAt i s H' → (∀ b o, H b = some o → H' b = some o) → H i.1 = none → H i.2.1 = none → H i.2.2 = none → Q (.ref i.1) H'
def spLaw (K : Frag) : Sp := fun vs H Q _ => ∃ (a0 : Addr) (ns : List Int), vs = [.ref a0] ∧ SqL K H a0 (ns.map V.int) ∧ ns.length ≤ 63 ∧ ∀ H', Q (.bl true) H'
theorem filter_take {p : Int → Bool} {l : List Int} {i : Nat} {x : Int} (h : l[i]? = some x) : (l.take (i + 1)).filter p = (l.take i).filter p ++ (if p x = true then [x] else []) := by
  rw [List.take_add_one, h, List.filter_append]
  congr 1
  cases hp : p x <;> simp [hp]
theorem map_take {f : Int → Int} {l : List Int} {i : Nat} {x : Int} (h : l[i]? = some x) : (l.take (i + 1)).map f = (l.take i).map f ++ [f x] := by
  rw [List.take_add_one, h, List.map_append]
  rfl
/-- what the readings of the two comprehensions ask -/
theorem lc_great {K : Frag} {a : Addr} {ns : List Int} {σ : L2.St} {H1 : Hp} {Dp : Addr} {Qd : Hp → Prop} {vi : Nat} (hv : vi < σ.length) (hD : H1 Dp = none) (hS : SqL K H1 a (ns.map V.int)) (hl : ns.length ≤ 63) (hd : Qd (upd H1 Dp (.lst ((ns.filter fun x => decide (10 ^ 18 ≤ x)).map V.int)))) :
    ∃ W : Nat → Nat → Hp → Prop, (∃ m, W 0 m (upd H1 Dp (.lst []))) ∧ ∀ i m H, W i m H →
      ((Itl K a).stop i H ∧ Qd H) ∨ ((Itl K a).go i H ∧ ∃ Nx : Hp → Prop, (∀ H', Nx H' → ∃ m', m' < m ∧ W (i + 1) m' H') ∧ ∀ x H', (Itl K a).yld i H x H' → gName vi x (wipe σ [vi]) H' fun σ2 H2 => wipe σ2 [vi] = wipe σ [vi] ∧ tTest (tOp (rI0 fun i j => .bl (decide (j ≤ i))) (tVar vi) (tOp (rI CPow fun i j => .int (i ^ j.toNat)) (tC (.int 10)) (tC (.int 18)))) σ2 H2 fun b H3 =>
        if b = true then tVar vi σ2 H3 fun y H4 => ∃ acc, H4 Dp = some (.lst acc) ∧ acc.length < sizeLine ∧ Nx (upd H4 Dp (.lst (acc ++ [y]))) else Nx H3) := by
  have fr : ∀ {o : HO}, SqL K (upd H1 Dp o) a (ns.map V.int) := fun {o} => by
    rcases hS with (h | ⟨u, h⟩) | h
    · exact .inl (.inl (by rw [upd_ne (ne_of_none h hD)]; exact h))
    · exact .inl (.inr ⟨u, by rw [upd_ne (ne_of_none h hD)]; exact h⟩)
    · exact .inr h
  refine lc_list (K := K) (a := a) (xs := ns.map V.int) (fun i H => H = upd H1 Dp (.lst (((ns.take i).filter fun x => decide (10 ^ 18 ≤ x)).map V.int))) rfl (fun i H _ e => by rw [e]; exact fr) (fun i x H hx e => ?_) (fun H e => ?_)
  · subst e
    rw [List.getElem?_map] at hx
    cases q : ns[i]? with
    | none =>
      rw [q] at hx
      cases hx
    | some z =>
      rw [q] at hx
      cases hx
      have hw : ((wipe σ [vi]).set vi (some (V.int z)))[vi]? = some (some (V.int z)) := by
        rw [set_at, if_pos ⟨rfl, by rw [wipe_length]; exact hv⟩]
      refine ⟨wipe_eq (is := [vi]) (by rw [List.length_set, wipe_length]) (fun i hi => hi) (fun j hj => by rw [List.getElem?_set_ne (fun z => hj (by simp [z]))]), _, hw, _, _, rfl, rfl, ⟨by decide, by decide, by decide⟩, _, _, rfl, rfl, _, rfl, ?_⟩
      have e2 := filter_take (p := fun x => decide (10 ^ 18 ≤ x)) q
      have e3 : (decide (10 ^ (18 : Int).toNat ≤ z)) = decide ((10 : Int) ^ 18 ≤ z) := rfl
      by_cases hz : (10 : Int) ^ 18 ≤ z
      · dsimp only
        rw [e3, if_pos (decide_eq_true hz)]
        refine ⟨_, hw, _, upd_same, ?_, ?_⟩
        · rw [List.length_map]
          refine Nat.lt_of_le_of_lt (List.length_filter_le _ _) ?_
          rw [List.length_take]
          exact szlt (by show _ < 16777216; omega)
        · rw [upd_upd, e2, if_pos (decide_eq_true hz), List.map_append]
          rfl
      · dsimp only
        rw [e3, if_neg (by rw [decide_eq_false hz]; exact Bool.false_ne_true)]
        rw [e2, if_neg (by rw [decide_eq_false hz]; exact Bool.false_ne_true), List.append_nil]
  · rw [e, List.length_map, List.take_length]
    exact hd
theorem lc_cells {K : Frag} {a : Addr} {ns : List Int} {σ : L2.St} {H1 : Hp} {Dp : Addr} {Qd : Hp → Prop} {vi : Nat} (hv : vi < σ.length) (hD : H1 Dp = none) (hS : SqL K H1 a (ns.map V.int)) (hl : ns.length ≤ 63) (hd : Qd (upd H1 Dp (.lst ((ns.map fun x => x % 2147483629).map V.int)))) :
    ∃ W : Nat → Nat → Hp → Prop, (∃ m, W 0 m (upd H1 Dp (.lst []))) ∧ ∀ i m H, W i m H →
      ((Itl K a).stop i H ∧ Qd H) ∨ ((Itl K a).go i H ∧ ∃ Nx : Hp → Prop, (∀ H', Nx H' → ∃ m', m' < m ∧ W (i + 1) m' H') ∧ ∀ x H', (Itl K a).yld i H x H' → gName vi x (wipe σ [vi]) H' fun σ2 H2 => wipe σ2 [vi] = wipe σ [vi] ∧ tYes σ2 H2 fun b H3 =>
        if b = true then tOp (rI (fun _ j => 0 < j) fun i j => .int (i % j)) (tVar vi) (tC (.int 2147483629)) σ2 H3 fun y H4 => ∃ acc, H4 Dp = some (.lst acc) ∧ acc.length < sizeLine ∧ Nx (upd H4 Dp (.lst (acc ++ [y]))) else Nx H3) := by
  have fr : ∀ {o : HO}, SqL K (upd H1 Dp o) a (ns.map V.int) := fun {o} => by
    rcases hS with (h | ⟨u, h⟩) | h
    · exact .inl (.inl (by rw [upd_ne (ne_of_none h hD)]; exact h))
    · exact .inl (.inr ⟨u, by rw [upd_ne (ne_of_none h hD)]; exact h⟩)
    · exact .inr h
  refine lc_list (K := K) (a := a) (xs := ns.map V.int) (fun i H => H = upd H1 Dp (.lst (((ns.take i).map fun x => x % 2147483629).map V.int))) rfl (fun i H _ e => by rw [e]; exact fr) (fun i x H hx e => ?_) (fun H e => ?_)
  · subst e
    rw [List.getElem?_map] at hx
    cases q : ns[i]? with
    | none =>
      rw [q] at hx
      cases hx
    | some z =>
      rw [q] at hx
      cases hx
      have hw : ((wipe σ [vi]).set vi (some (V.int z)))[vi]? = some (some (V.int z)) := by
        rw [set_at, if_pos ⟨rfl, by rw [wipe_length]; exact hv⟩]
      refine ⟨wipe_eq (is := [vi]) (by rw [List.length_set, wipe_length]) (fun i hi => hi) (fun j hj => by rw [List.getElem?_set_ne (fun z => hj (by simp [z]))]), ?_⟩
      unfold tYes
      dsimp only
      rw [if_pos rfl]
      refine ⟨_, hw, _, _, rfl, rfl, (by show (0 : Int) < 2147483629; decide), _, upd_same, ?_, ?_⟩
      · rw [List.length_map, List.length_map, List.length_take]
        exact szlt (by show _ < 16777216; omega)
      · rw [upd_upd, map_take q, List.map_append]
        rfl
  · rw [e, List.length_map, List.take_length]
    exact hd
theorem upd_keep {H : Hp} {p : Addr} {o : HO} (h : H p = none) : ∀ b u, H b = some u → upd H p o b = some u := fun b u e => by
  rw [upd_ne (ne_of_none e h)]
  exact e
/-- the four of a new state, laid one after another -/
theorem ls_made {ns : List Int} {H : Hp} {g c a : Addr} (hg : H g = none) (hc : (upd H g (.lst ((ns.filter fun x => decide (10 ^ 18 ≤ x)).map V.int))) c = none)
    (ha : (upd (upd H g (.lst ((ns.filter fun x => decide (10 ^ 18 ≤ x)).map V.int))) c (.lst ((ns.map fun x => x % 2147483629).map V.int))) a = none) :
    let H3 := upd (upd (upd H g (.lst ((ns.filter fun x => decide (10 ^ 18 ≤ x)).map V.int))) c (.lst ((ns.map fun x => x % 2147483629).map V.int))) a (.lst [.ref g, .int 0, .ref c, .int 0])
    let s : LS := ⟨a, ns.filter fun x => decide (10 ^ 18 ≤ x), 0, ns.map fun x => x % 2147483629, 0⟩
    s.Ok ∧ s.cnt = 0 ∧ LsAt (a, g, c) s H3 ∧ (∀ b o, H b = some o → H3 b = some o) ∧ H a = none ∧ H g = none ∧ H c = none := by
  intro H3 s
  have hcg : c ≠ g := fun z => by
    rw [z, upd_same] at hc
    cases hc
  have hc0 : H c = none := by
    rw [upd_ne hcg] at hc
    exact hc
  have hac : a ≠ c := fun z => by
    rw [z, upd_same] at ha
    cases ha
  rw [upd_ne hac] at ha
  have hag : a ≠ g := fun z => by
    rw [z, upd_same] at ha
    cases ha
  rw [upd_ne hag] at ha
  refine ⟨⟨Int.le_refl 0, fun x hx => ?_, fun x hx => ?_⟩, rfl, ⟨rfl, upd_same, ?_, ?_, hag, hac, hcg.symm⟩, fun b o e => ?_, ha, hg, hc0⟩
  · have h1 := of_decide_eq_true (List.mem_filter.mp hx).2
    have h2 : (0 : Int) < 10 ^ 18 := by decide
    omega
  · obtain ⟨y, _, rfl⟩ := List.mem_map.mp hx
    exact ⟨Int.emod_nonneg _ (by decide), Int.emod_lt_of_pos _ (by decide)⟩
  · show H3 g = _
    show upd _ a _ g = _
    rw [upd_ne (Ne.symm hag), upd_ne (Ne.symm hcg), upd_same]
  · show upd _ a _ c = _
    rw [upd_ne (Ne.symm hac), upd_same]
  · show upd _ a _ b = _
    rw [upd_ne (ne_of_none e ha), upd_ne (ne_of_none e hc0), upd_ne (ne_of_none e hg)]
    exact e
/-! ### the law's end -/
theorem gt_rep (n j : Nat) : gt (List.replicate n .un) j = .un := by
  induction n generalizing j with
  | zero => rfl
  | succ n ih =>
    cases j with
    | zero => rfl
    | succ j => exact ih j
theorem gt_law (d : D) (n j : Nat) : gt (.un :: .dat d :: List.replicate n .un) j = if j = 1 then .dat d else .un := by
  match j with
  | 0 => rfl
  | 1 => rfl
  | j + 2 =>
    rw [if_neg (by omega)]
    exact gt_rep n j
/-- the rest of a law, from its state on -/
theorem law_rest {K : Frag} {Tx : XT} {xa : Addr × Value × Option Addr} {m : MS LS} {n : Nat} {i : LI} {s : LS} {H : Hp} {a0 : V} {Dd : Ends} (hL : LsAt i s H) (hp : ∃ g', m (.un :: .dat (.ref s.a) :: List.replicate n .un) s = .ok (.rt (.dat (.bl true))) g') (hQ : ∀ H', Dd.rt (.bl true) H') :
    RS ⟨K, Tx, lsG, i, xa⟩ W0 m Dd (some a0 :: some (.ref i.1) :: List.replicate n none) H := by
  obtain ⟨g', hp⟩ := hp
  refine ⟨(lsG i).F, .un :: .dat (.ref s.a) :: List.replicate n .un, s, ⟨by simp, fun j => ?_, fun j k dj dk p h1 => ?_, fun a ⟨j, ds, h1, _⟩ => ?_, hL, fun a z => z, fun a z => (lsG i).stk _ _ _ hL z⟩, ?_⟩
  · rw [gt_law]
    by_cases hj : j = 1
    · rw [if_pos hj, hj]
      refine ⟨.ref i.1, rfl, ?_⟩
      rw [hL.ea]
      exact .ref _
    · rw [if_neg hj]
      trivial
  · rw [gt_law] at h1
    split at h1 <;> cases h1
  · rw [gt_law] at h1
    split at h1 <;> cases h1
  · rw [hp]
    intro v H' _ _ vr
    have vr' : At K _ H' v (.bl true) := vr
    cases vr'
    exact hQ H'
end PB

set_option Elab.async false
set_option linter.all false
set_option maxRecDepth 100000
set_option maxHeartbeats 4000000
namespace PB
open PySem PySem.Spec PyProof.Rows L2
/-! ### constants of the text -/
mutual
def conV (K : Frag) : D → Value → Bool
  | .non, .none => true
  | .bl b, .bool c => b == c
  | .int i, .int j _ => decide (i = j)
  | .str l, .str x _ => decide (x = mkS l) && (decide (l.length ≤ SZ) && l.all (· < 0x110000))
  | .tup ds, .ref a => (match K.lookup a with
    | some ⟨.type c, _, .seq its _, _⟩ => decide (c = "tuple") && (decide (its.size ≤ sizeLine) && conL K ds its.toList)
    | _ => false)
  | _, _ => false
def conL (K : Frag) : List D → List Value → Bool
  | [], [] => true
  | d :: ds, u :: us => conV K d u && conL K ds us
  | _, _ => false
end
mutual
theorem conV_ok {K : Frag} : ∀ {d : D} {u : Value}, conV K d u = true → ∃ v, RelV v u ∧ ∀ O H, At K O H v d
  | .non, u, h => by
    cases u <;> first
      | exact ⟨.non, rfl, fun _ _ => .non⟩
      | (unfold conV at h; cases h)
  | .bl b, u, h => by
    cases u <;> first
      | (rename_i c
         have e : b = c := eq_of_beq (show (b == c) = true from h)
         subst e
         exact ⟨.bl b, rfl, fun _ _ => .bl b⟩)
      | (unfold conV at h; cases h)
  | .int i, u, h => by
    cases u <;> first
      | (rename_i j t
         have e : i = j := of_decide_eq_true (show decide (i = j) = true from h)
         subst e
         exact ⟨.int i, ⟨t, rfl⟩, fun _ _ => .int i⟩)
      | (unfold conV at h; cases h)
  | .str l, u, h => by
    cases u <;> first
      | (rename_i x t
         have h' : (decide (x = mkS l) && (decide (l.length ≤ SZ) && l.all (· < 0x110000))) = true := h
         rw [Bool.and_eq_true, Bool.and_eq_true] at h'
         have e : x = mkS l := of_decide_eq_true h'.1
         subst e
         exact ⟨.str (mkS l), ⟨t, rfl⟩, fun K' _ => .str l (of_decide_eq_true h'.2.1) h'.2.2⟩)
      | (unfold conV at h; cases h)
  | .tup ds, u, h => by
    cases u <;> first
      | (rename_i a
         unfold conV at h
         split at h
         · rename_i c dd its n sl hl
           rw [Bool.and_eq_true, Bool.and_eq_true] at h
           obtain ⟨vs, hv, ha⟩ := conL_ok h.2.2
           exact ⟨.ref a, rfl, fun O H => .tup (.inr ⟨_, its, n, hl, congrArg Value.type (of_decide_eq_true h.1), rfl, of_decide_eq_true h.2.1, hv⟩) (ha O H)⟩
         · cases h)
      | (unfold conV at h; cases h)
  | .lst ds, u, h => by unfold conV at h; cases h
  | .ref a, u, h => by unfold conV at h; cases h
theorem conL_ok {K : Frag} : ∀ {ds : List D} {us : List Value}, conL K ds us = true → ∃ vs, Vals vs us ∧ ∀ O H, AtL K O H vs ds
  | [], [], _ => ⟨[], .nil, fun _ _ => .nil⟩
  | [], _ :: _, h => by unfold conL at h; cases h
  | _ :: _, [], h => by unfold conL at h; cases h
  | d :: ds, u :: us, h => by
    unfold conL at h
    rw [Bool.and_eq_true] at h
    obtain ⟨v, r, a⟩ := conV_ok h.1
    obtain ⟨vs, rs, as⟩ := conL_ok h.2
    exact ⟨v :: vs, .cons r rs, fun O H => .cons (a O H) (as O H)⟩
end
/-- the module's name x stands for d -/
def ConAt (K : Frag) (mg : Str → Option Value) (x : Str) (d : D) : Prop := ∃ v u, mg x = some u ∧ RelV v u ∧ ∀ O H, At K O H v d
def conG (K : Frag) (x : Str) (d : D) : Bool := match PySem.W.nsIn K mainGlobals x with
  | some (some u) => conV K d u
  | _ => false
theorem conG_ok {K : Frag} {h : Heap} {mg : Str → Option Value} {x : Str} {d : D} (X : K.In h) (G : h.Ns mainGlobals mg) (c : conG K x d = true) : ConAt K mg x d := by
  unfold conG at c
  cases e : PySem.W.nsIn K mainGlobals x with
  | none =>
    rw [e] at c
    cases c
  | some o =>
    rw [e] at c
    cases o with
    | none => cases c
    | some u =>
      obtain ⟨v, r, a⟩ := conV_ok c
      exact ⟨v, u, PySem.W.mg_of X G e, r, a⟩
/-- .. for a table: texts to data -/
def TabAt (K : Frag) (w : World) (mg : Str → Option Value) (x : Str) (tab : List (List Nat × D)) : Prop := ∃ a, mg x = some (.ref a) ∧ (∃ es n, KDict K w a es n) ∧ ∀ p ∈ tab, ∃ v u, PySem.W.nsIn K a (mkS p.1) = some (some u) ∧ RelV v u ∧ ∀ O H, At K O H v p.2
def tabG (K : Frag) (x : Str) (tab : List (List Nat × D)) : Bool := match PySem.W.nsIn K mainGlobals x with
  | some (some (.ref a)) => decide (a = He.ga K x) && tab.all fun p => match PySem.W.nsIn K a (mkS p.1) with
    | some (some u) => conV K p.2 u
    | _ => false
  | _ => false
theorem tabG_ok {K : Frag} {w : World} {h : Heap} {mg : Str → Option Value} {x : Str} {tab : List (List Nat × D)} (X : K.In h) (G : h.Ns mainGlobals mg) (c : tabG K x tab = true) (k : ∃ es n, KDict K w (He.ga K x) es n) : TabAt K w mg x tab := by
  unfold tabG at c
  split at c
  · rename_i a e
    rw [Bool.and_eq_true] at c
    have ea : a = He.ga K x := of_decide_eq_true c.1
    refine ⟨a, PySem.W.mg_of X G e, by rw [ea]; exact k, fun p hp => ?_⟩
    have c2 := List.all_eq_true.mp c.2 p hp
    cases e2 : PySem.W.nsIn K a (mkS p.1) with
    | none =>
      rw [e2] at c2
      cases c2
    | some o =>
      rw [e2] at c2
      cases o with
      | none => cases c2
      | some u =>
        obtain ⟨v, r, q⟩ := conV_ok c2
        exact ⟨v, u, rfl, r, q⟩
  · cases c
section
variable {γ ι : Type} {B : Bs γ ι} {W : WX} {X : Cx} {pos : Pos} {a b k : Expr} {ma mb mk : ME γ}
theorem pb_con {x : Str} {d : D} (c : ConAt B.K X.mg x d) (hg : Gl X x) (hd : (x == ("__debug__" : Str)) = false := by decide) : PE X (.Name x pos) (RE B W (mC d)) := by
  obtain ⟨v, u, h1, h2, h3⟩ := c
  exact pb_glob d hg h1 h2 h3 hd
theorem find_mem {α : Type} {l : List (List Nat × α)} {s : List Nat} {p : List Nat × α} (h : l.find? (fun q => q.1 == s) = some p) : p ∈ l ∧ p.1 = s :=
  ⟨List.mem_of_find?_eq_some h, by
    have := List.find?_some h
    exact eq_of_beq this⟩
/-- t[k], t a table of the text -/
theorem pb_tab {x : Str} {tab : List (List Nat × D)} {px : Pos} (hK : B.K = X.K) (c : TabAt B.K X.w X.mg x tab) (hg : Gl X x) (hk : PE X k (RE B W mk)) (hp : PlainIx k) (hd : (x == ("__debug__" : Str)) = false := by decide) : PE X (.Subscript (.Name x px) k pos) (RE B W (mTab tab mk)) := by
  obtain ⟨p, h1, ⟨es, n, kd⟩, h3⟩ := c
  refine pe_w (pe_ix ix_kdict (pe_glob (v := .ref p) hg h1 rfl hd) hk hp) fun σ H Q ⟨S, e, g, R, h⟩ => ?_
  refine ⟨S, e, g, R, RK.bind (.refl H) h fun y g1 vy H1 _ x1 i1 o1 h2 => ?_⟩
  split at h2
  · rename_i s
    obtain ⟨z, ez, q⟩ := h2.ofO
    cases o1 with
    | str _ k1 k2 =>
    cases hf : tab.find? (fun q => q.1 == s) with
    | none =>
      rw [hf] at ez
      cases ez
    | some r =>
      rw [hf] at ez
      cases ez
      obtain ⟨hm, rfl⟩ := find_mem hf
      obtain ⟨v, u, e1, e2, e3⟩ := h3 r hm
      exact ⟨p, _, v, rfl, rfl, ⟨es, n, u, by rw [← hK]; exact kd.at_, by first | exact kd.lit | (rw [← hK]; exact kd.lit), by rw [← hK]; exact e1, e2⟩, q _ H1 x1 i1 (e3 _ _)⟩
  · exact h2.elim
end
end PB

set_option Elab.async false
set_option linter.all false
set_option maxRecDepth 100000
set_option maxHeartbeats 4000000
namespace PB
open PySem PySem.Spec PyProof.Rows L2
section
variable {X : Cx}
/-- l.count(x): how many are equal -/
def rCountD (K : PySem.W.Frag) : V → List V → Hp → VK → Prop := fun x xs H Q => ∃ (a : Addr) (y : V) (d : PyData) (ds : List PyData), x = V.ref a ∧ xs = [y] ∧ Dp K H (V.ref a) (.list ds) ∧ Dp K H y d ∧
  SeqAt.shaped (.list ds) = true ∧ SeqAt.shaped d = true ∧ Q (.int (ds.countP fun z => PyData.eqv z d : Nat)) H
theorem mt_countD (hu : X.A.units + 65 < cLine) : MtR X "list.count" (rCountD X.K) := by
  intro pins s σ H x xs v us Q I rx rxs h
  obtain ⟨a, y, d, ds, rfl, rfl, hl, hy, sl, sd, q⟩ := h
  cases rx
  cases rxs with
  | cons ry rt =>
    rename_i uy ut
    cases rt
    obtain ⟨bs, r1⟩ := Dp.reads I d y uy hy ry
    have hxs : PyData.canLayAll0 ds = true := SeqAt.canLay_of_shaped sl
    have hroom : X.A.units + 1 + min (PyData.depthAll ds) d.depth < cLine := room_in_shaped sd hu
    cases hl with
    | lst hs ha =>
      obtain ⟨its, rv, ⟨⟨cls, dd, data, sls⟩, n, ho, hc, hdn, hdt⟩, hlen⟩ := I.list hs
      simp only at hc hdt
      subst hc hdt
      obtain ⟨as, h4⟩ := Dp.readsAll I ds _ its ha rv
      have hmap : its.map (SeqAt.readOf s.heap) = ds := SeqAt.readsAll_map ds its as hxs h4
      refine call_meets PySem.F.slot_list_count ⟨_, ho, rfl⟩ PySem.F.entry_list_count (PySem.F.args_list_count_2 _ _)
        (SeqAt.list_countAt a its.toArray n dd sls uy (fun u => PyData.eqv (SeqAt.readOf s.heap u) d)) ⟨ho, SeqAt.items_eqAt (vs := its.toArray) (show ReadsAll s.heap its.toArray.toList ds as from h4) r1 hxs (SeqAt.canLay_of_shaped sd) hroom, ?_⟩
      have ec : its.toArray.toList.countP (fun u => PyData.eqv (SeqAt.readOf s.heap u) d) = ds.countP fun z => PyData.eqv z d := by
        rw [← hmap, List.countP_map]
        rfl
      refine ⟨.int (ds.countP (fun z => PyData.eqv z d) : Nat), H, I.tok _, ⟨s.toks, ?_⟩, q⟩
      show Value.int ((its.toArray.toList.countP (fun u => PyData.eqv (SeqAt.readOf s.heap u) d) : Nat) : Int) s.toks = _
      rw [ec]
end
theorem toPyL_count {c : D} (hc : ∃ n, okE n c = true) : ∀ {n : Nat} (ds : List D), okL n ds = true → ((toPyL ds).countP fun z => PyData.eqv z (toPy c)) = ds.countP fun d => eqv d c
  | _, [], _ => rfl
  | n, d :: ds, h => by
    simp only [okL, Bool.and_eq_true] at h
    show (toPy d :: toPyL ds).countP _ = _
    rw [List.countP_cons, List.countP_cons, toPyL_count hc ds h.2, eqv_toPy d c ⟨_, h.1⟩ hc]
theorem toPyL_get : ∀ (ds : List D) (j : Nat), (toPyL ds)[j]? = (ds[j]?).map toPy
  | [], j => by simp [toPyL]
  | d :: ds, 0 => by simp [toPyL]
  | d :: ds, j + 1 => by
    show (toPy d :: toPyL ds)[j + 1]? = _
    rw [List.getElem?_cons_succ, List.getElem?_cons_succ]
    exact toPyL_get ds j
theorem okL_get {n : Nat} : ∀ {ds : List D} {j : Nat} {d : D}, okL n ds = true → ds[j]? = some d → okE n d = true
  | [], j, d, _, h => by simp at h
  | x :: ds, 0, d, h, e => by
    simp only [okL, Bool.and_eq_true] at h
    simp at e
    rw [← e]
    exact h.1
  | x :: ds, j + 1, d, h, e => by
    simp only [okL, Bool.and_eq_true] at h
    rw [List.getElem?_cons_succ] at e
    exact okL_get h.2 e
section
variable {γ ι : Type} {B : Bs γ ι} {W : WX} {X : Cx} {pos : Pos} {a b : Expr} {ma mb : ME γ}
/-- what a list's method asks, by data -/
def LmS (B : Bs γ ι) (f : List D → D → Option Int) (r : V → List V → Hp → VK → Prop) : Prop := ∀ (H : Hp) (O O' : Addr → Prop) (p : Addr) (xs : List V) (l : List D) (vy : V) (y : D) (n : Int) (Q : VK),
  H p = some (.lst xs) → AtL B.K O H xs l → At B.K O' H vy y → f l y = some n → Q (.int n) H → r (.ref p) [vy] H Q
theorem lm_count : LmS B oCount (rCountD B.K) := by
  intro H O O' p xs l vy y n Q hp hl hy e q
  unfold oCount at e
  split at e
  · rename_i k
    cases e
    refine ⟨p, vy, toPy y, toPyL l, rfl, rfl, .lst (SqL.of hp) (dpL_of hl k.2), dp_of hy k.1, shapedL_of hl k.2 (by omega), shaped_of hy k.1 (by omega), ?_⟩
    rw [toPyL_count ⟨_, k.1⟩ l k.2]
    exact q
  · cases e
theorem lm_index : LmS B oIndex (rIndexD B.K) := by
  intro H O O' p xs l vy y n Q hp hl hy e q
  unfold oIndex at e
  split at e
  · rename_i k
    cases hf : l.findIdx? fun d => eqv d y with
    | none =>
      rw [hf] at e
      cases e
    | some j =>
      rw [hf] at e
      cases e
      obtain ⟨hj, h1, h2⟩ := List.findIdx?_eq_some_iff_getElem.mp hf
      have ej : l[j]? = some l[j] := List.getElem?_eq_getElem hj
      refine ⟨p, vy, toPy y, toPyL l, j, toPy l[j], rfl, rfl, .lst (SqL.of hp) (dpL_of hl k.2), dp_of hy k.1, shapedL_of hl k.2 (by omega), shaped_of hy k.1 (by omega), by rw [toPyL_get, ej]; rfl, ?_, fun m z' hm hz' => ?_, q⟩
      · rw [eqv_toPy _ _ ⟨_, okL_get k.2 ej⟩ ⟨_, k.1⟩]
        exact h1
      · rw [toPyL_get] at hz'
        have hml : m < l.length := by omega
        rw [List.getElem?_eq_getElem hml] at hz'
        cases hz'
        rw [eqv_toPy _ _ ⟨_, okL_get k.2 (List.getElem?_eq_getElem hml)⟩ ⟨_, k.1⟩]
        have := h2 m hm
        simpa using this
  · cases e
theorem pb_lm {name : Str} {id : String} {f : List D → D → Option Int} {r : V → List V → Hp → VK → Prop} {apos : Pos} (slot : Slot "list" name id) (hty : typeOf (.builtin id) = pure (.type "method_descriptor")) (hm : MtR X id r) (hf : LmS B f r)
    (ha : PE X a (RE B W ma)) (hb : PE X b (RE B W mb))
    (hbase : attributeBase a name X.env (eval a X.env) = eval a X.env := by rfl)
    (hfew : ((backTo pos (starEach [b] X.env)).all (fun x => !x.1) && (backToKw pos (keywordEach [] X.env)).all (fun x => x.1.isSome)
      && decide ([b].length + ([] : List Keyword).length + (if ([] : List Keyword).isEmpty then 0 else 1) < 30)) = true := by rfl)
    (hline : (apos.endLine == pos.line) = true := by rfl) (hs : starEach [b] X.env = (false, eval b X.env) :: starEach [] X.env := by rfl) (hplain : (backTo pos (starEach [] X.env)).any (·.1) = false := by rfl) :
    PE X (.Call (.Attribute a name apos) [b] [] pos) (RE B W (mLm f ma mb)) := by
  refine pe_w (pe_bm PySem.F.plainAttrs_list slot hty hm ha (pa_cons hb pa_nil hs) hbase hfew hline hs hplain) fun σ H Q ⟨S, e, g, R, h⟩ => ?_
  refine ⟨S, e, g, R, RK.bind (.refl H) h fun x g1 vx H1 _ x1 i1 o1 h1 => ?_⟩
  split at h1
  · rename_i l kl
    obtain ⟨p, xs, ev, hp, al⟩ := o1.items R kl
    have st : ∀ H2, ExE _ H1 H2 → VOk ⟨B, S⟩ e σ H H2 x vx := fun H2 x12 => o1.step R x12
    subst ev
    refine ⟨.inl ⟨rfl, xs, SqL.of hp⟩, S, e, g1, R.exe x1 i1, RK.bind x1 h1 fun y g2 vy H2 x12 x2 i2 o2 h2 => ?_⟩
    obtain ⟨z, ez, q⟩ := h2.ofO
    cases hz : f l y.val with
    | none =>
      rw [hz] at ez
      cases ez
    | some n =>
      rw [hz] at ez
      cases ez
      obtain ⟨p2, xs2, ev2, hp2, al2⟩ := (st H2 x12).items R kl
      cases ev2
      exact hf H2 _ _ p xs2 l vy y.val n Q hp2 al2 ((o2.pre x1 i1).weak R) hz (q _ H2 x2 i2 (.int n))
  · exact h1.elim
end
end PB

set_option Elab.async false
set_option linter.all false
set_option maxRecDepth 100000
set_option maxHeartbeats 4000000
namespace HT
open PySem PyProof.Rows
section
variable {prog : Program} {w : World} {A : Around} {E : Value → Shared → Prop} {s : Shared}
theorem adjust_rev (n : Nat) : Builtin.Slice.sliceAdjust none none (-1) (n : Int) = ((n : Int) - 1, -1) := by
  unfold Builtin.Slice.sliceAdjust
  rfl
theorem places_rev (n : Nat) : Builtin.Slice.slicePlaces ((n : Int) - 1) (-1) (-1) = n := by
  unfold Builtin.Slice.slicePlaces
  have h1 : ¬ ((-1 : Int) > 0) := by decide
  by_cases h : (n : Int) - 1 > -1
  · simp only [h1, if_false, h, if_true]
    rw [show (- -1 : Int) = 1 by decide, Int.ediv_one]
    omega
  · simp only [h1, if_false, h]
    omega
theorem sliceApplied_rev {sl : Addr} {vl vu vs : Value} {n : Nat} {Q : Int × Int × Nat → Shared → Prop} (hs : s.heap.IsSliceOf sl vl vu vs) (pl : IsPart vl none) (pu : IsPart vu none) (ps : IsPart vs (some (-1)))
    (h : Q ((n : Int) - 1, -1, n) s) : wpAny (model prog w) A (Builtin.Slice.sliceApplied (.ref sl) (pure (n : Int))) Q E s := by
  obtain ⟨os, hos, hcs, hds⟩ := id hs
  unfold Builtin.Slice.sliceApplied Builtin.Slice.sliceFields
  refine wpAny_bind (wpAny_bind (wpAny_field hos hds (x := vl) rfl (wpAny_bind (wpAny_field hos hds (x := vu) rfl (wpAny_bind (wpAny_field hos hds (x := vs) rfl (wpAny_pure ?_)))))))
  refine wpAny_bind (slicePart_ ps ?_)
  show wpAny _ _ (if ((-1 : Int) == 0) = true then _ else _) _ _ s
  rw [if_neg (by decide)]
  refine wpAny_bind (slicePart_ pl (wpAny_bind (slicePart_ pu (wpAny_bind (wpAny_pure ?_)))))
  show wpAny _ _ (match Builtin.Slice.sliceAdjust none none (-1) (n : Int) with | (lo, hi) => pure (lo, (-1 : Int), Builtin.Slice.slicePlaces lo hi (-1))) _ _ s
  rw [adjust_rev]
  show wpAny _ _ (pure ((n : Int) - 1, (-1 : Int), Builtin.Slice.slicePlaces ((n : Int) - 1) (-1) (-1))) _ _ s
  rw [places_rev]
  exact wpAny_pure h
theorem pick_rev (xs : Array Value) : ((List.range xs.size).filterMap fun (m : Nat) => xs[(((xs.size : Int) - 1) + (m : Int) * (-1)).toNat]?).toArray = xs.toList.reverse.toArray := by
  have e : (fun (m : Nat) => xs[(((xs.size : Int) - 1) + (m : Int) * (-1)).toNat]?) = fun m => xs[xs.size - 1 - m]? := by
    funext m
    have : (((xs.size : Int) - 1) + (m : Int) * (-1)).toNat = xs.size - 1 - m := by omega
    rw [this]
  rw [e]
  have e2 : ((List.range xs.size).filterMap fun m => xs[xs.size - 1 - m]?) = ((List.range xs.size).map fun k => xs.size - 1 - k).filterMap (xs[·]?) := by
    rw [List.filterMap_map]
    rfl
  rw [e2, PySem.W.krv_range, List.filterMap_reverse, PySem.W.krv_all]
theorem getItem_tuple_rev {t sl : Addr} {items : Array Value} {vl vu vs : Value} {Q : Value → Shared → Prop} (ht : IsTup s.heap t items) (hs : s.heap.IsSliceOf sl vl vu vs) (pl : IsPart vl none) (pu : IsPart vu none) (ps : IsPart vs (some (-1)))
    (h : Q (.ref s.heap.objs.size) { s with heap := s.heap.push { cls := .type "tuple", data := .seq items.toList.reverse.toArray } })
    (hsz : items.size ≤ sizeLine) : wpAny (model prog w) A (getItem (.ref t) (.ref sl)) Q E s := by
  have htake : sizeOk (.seq items.toList.reverse.toArray) := by
    show items.toList.reverse.toArray.size ≤ sizeLine
    rw [List.size_toArray, List.length_reverse, Array.length_toList]
    exact hsz
  obtain ⟨os, hos, hcs, hds⟩ := id hs
  have hTs : s.TypeIs (.ref sl) "slice" := ⟨os, hos, hcs⟩
  unfold getItem
  try with_reducible refine wpAny_holding ?_
  first | refine wpAny_bind (wpAny_pure ?_) | skip
  refine wpAny_bind (wpAny_sequenceKey ht.typeIs (by decide) ?_)
  refine wpAny_bind (wpAny_callSpecial?_slot (name := Str.ofString "__getitem__") ht.typeIs PyProof.Rows.slot_tuple_getitem
    (wpAny_call_entry PyProof.Rows.slot_tuple_getitem ht.typeIs entry_tuple_getitem ?_ (args_tuple_getitem _ _)))
  show wpAny _ _ (Builtin.Tuple.tupleItemsOf (.ref t) >>= _) _ _ s
  refine wpAny_bind (tupleItemsOf_ ht ?_)
  refine wpAny_bind (wpAny_typeOf hTs ?_)
  rw [if_pos (by decide)]
  refine wpAny_bind (sliceApplied_rev hs pl pu ps ?_)
  have hno : ¬ ((((items.size : Int) - 1) == 0 && (-1 : Int) == 1 && items.size == items.size) = true) := by
    intro q
    rw [Bool.and_eq_true, Bool.and_eq_true] at q
    have q2 : (-1 : Int) = 1 := eq_of_beq q.1.2
    omega
  show wpAny _ _ (if (((items.size : Int) - 1) == 0 && (-1 : Int) == 1 && items.size == items.size) = true then _ else _) _ _ s
  rw [if_neg hno, pick_rev]
  first
    | exact wpAny_bind (m := Builtin.Tuple.tupleExact _) (wpAny_newObj_type (wpAny_pure ⟨_, rfl, wpAny_pure h⟩) htake)
    | exact wpAny_bind (m := Builtin.Tuple.tupleExact _) (wpAny_newObj_type (wpAny_bind (wpAny_pure (wpAny_pure ⟨_, rfl, wpAny_pure h⟩))) htake)
    | exact wpAny_bind (wpAny_bind (m := Builtin.Tuple.tupleExact _) (wpAny_newObj_type (wpAny_pure (wpAny_pure ⟨_, rfl, wpAny_pure h⟩)) htake))
    | exact wpAny_bind (wpAny_bind (m := Builtin.Tuple.tupleExact _) (wpAny_newObj_type (wpAny_pure ⟨_, rfl, wpAny_pure h⟩) htake))
end
end HT
namespace PB
open PySem PySem.Spec PyProof.Rows L2
/-! ### xs[::-1] of a tuple, of a text -/
section
variable {X : Cx}
def tRevT (K : PySem.W.Frag) (te : TE) : TE := fun σ H Q => te σ H fun x H1 => ∃ a xs, x = .ref a ∧ SqT K H1 a xs ∧ ∀ p, H1 p = none → Q (.ref p) (upd H1 p (.tup xs.reverse))
theorem pe_revT {e : Expr} {te : TE} {k : Nat} {p1 p2 p3 pos : Pos} (he : PE X e te) : PE X (.Subscript e (.Slice none none (some (.UnaryOp .USub (.Constant (.int 1) k p1) p2)) p3) pos) (tRevT X.K te) := by
  refine ⟨fun pins s σ H Q I h => ?_⟩
  refine Subscript_ (thn (he.run pins s σ H _ I h) fun v s1 ⟨x, H1, I1, r1, q1⟩ => ?_)
  obtain ⟨a, xs, ex, hx, q⟩ := q1
  subst ex
  cases r1
  have hst : PO X (some (.UnaryOp .USub (.Constant (.int 1) k p1) p2)) (tPart (tUn (rU fun i => .int (-i)) (tC (.int 1)))) := po_some (pe_un un_neg pe_int)
  refine wpAny_Slice (thn (po_none.run pins s1 σ H1 (fun o H2 => o = none ∧ H2 = H1) I1 ⟨rfl, rfl⟩) fun vl s2 ⟨l, H2, I2, pl, el, e2⟩ => ?_)
  subst el e2
  refine thn (po_none.run pins s2 σ H2 (fun o H3 => o = none ∧ H3 = H2) I2 ⟨rfl, rfl⟩) fun vu s3 ⟨u, H3, I3, pu, eu, e3⟩ => ?_
  subst eu e3
  refine thn (hst.run pins s3 σ H3 (fun o H4 => o = some (-1) ∧ H4 = H3) I3 ⟨1, rfl, -1, rfl, rfl, rfl⟩) fun vs s4 ⟨o, H4, I4, ps, eo, e4⟩ => ?_
  subst eo e4
  have I5 : Inv X pins σ H4 { s4 with heap := s4.heap.push { cls := .type "slice", data := .fields #[vl, vu, vs] } } := I4.kept (t' := s4.toks) fun b ob q => Heap.get?_push_of_some _ q
  obtain ⟨its, r, ht, hz⟩ := I5.tuple hx
  have hlen := r.length
  show wpAny (model X.prog X.w) X.A (subscriptTail e (.Slice none none (some (.UnaryOp .USub (.Constant (.int 1) k p1) p2)) p3) (.ref a) (.ref s4.heap.objs.size)) (EP X pins σ Q) X.xe { s4 with heap := s4.heap.push { cls := .type "slice", data := .fields #[vl, vu, vs] } }
  refine tail_any (ops := [.ref a, .ref s4.heap.objs.size]) ht.typeIs (PyProof.Rows.slot_tuple_getitem.lookup) ?_ (by with_unfolding_all rfl)
  refine HT.getItem_tuple_rev ht (Heap.IsSliceOf.new _ vl vu vs) pl pu ps ?_ (by rw [List.size_toArray]; omega)
  refine ⟨.ref _, _, I5.laid (t' := s4.toks) (o := .tup xs.reverse) (fun b ob q => Heap.get?_push_of_some _ q) (Nat.le_refl _) ?_, rfl, q _ (I5.hok.fresh (Nat.le_refl _))⟩
  exact ⟨by rw [List.length_reverse]; exact hz, _, r.reverse, IsTup.new _ _⟩
end
end PB
namespace PB
open PySem PySem.Spec PyProof.Rows L2
section
variable {X : Cx}
def tRevS (te : TE) : TE := fun σ H Q => te σ H fun x H1 => ∃ z : Str, x = .str z ∧ z.length ≤ sizeLine ∧ Q (.str ⟨z.cps.toList.reverse.toArray⟩) H1
theorem str_rev (z : Str) : ((Builtin.Str.strSliceIndices none none (-1) z.length).filterMap (z.cps[·]?)).toArray = z.cps.toList.reverse.toArray := by
  have e : Builtin.Str.strSliceIndices none none (-1) z.length = sliceRange ((z.cps.size : Int) - 1) (-1) (-1) := rfl
  rw [e, PySem.W.krv_sliceRange, PySem.W.krv_range, List.filterMap_reverse, PySem.W.krv_all]
theorem pe_revS {e : Expr} {te : TE} {k : Nat} {p1 p2 p3 pos : Pos} (he : PE X e te) : PE X (.Subscript e (.Slice none none (some (.UnaryOp .USub (.Constant (.int 1) k p1) p2)) p3) pos) (tRevS te) := by
  refine ⟨fun pins s σ H Q I h => ?_⟩
  refine Subscript_ (thn (he.run pins s σ H _ I h) fun v s1 ⟨x, H1, I1, r1, q1⟩ => ?_)
  obtain ⟨z, ex, hz, q⟩ := q1
  subst ex
  obtain ⟨t, rfl⟩ := r1
  have hst : PO X (some (.UnaryOp .USub (.Constant (.int 1) k p1) p2)) (tPart (tUn (rU fun i => .int (-i)) (tC (.int 1)))) := po_some (pe_un un_neg pe_int)
  refine wpAny_Slice (thn (po_none.run pins s1 σ H1 (fun o H2 => o = none ∧ H2 = H1) I1 ⟨rfl, rfl⟩) fun vl s2 ⟨l, H2, I2, pl, el, e2⟩ => ?_)
  subst el e2
  refine thn (po_none.run pins s2 σ H2 (fun o H3 => o = none ∧ H3 = H2) I2 ⟨rfl, rfl⟩) fun vu s3 ⟨u, H3, I3, pu, eu, e3⟩ => ?_
  subst eu e3
  refine thn (hst.run pins s3 σ H3 (fun o H4 => o = some (-1) ∧ H4 = H3) I3 ⟨1, rfl, -1, rfl, rfl, rfl⟩) fun vs s4 ⟨o, H4, I4, ps, eo, e4⟩ => ?_
  subst eo e4
  have I5 : Inv X pins σ H4 { s4 with heap := s4.heap.push { cls := .type "slice", data := .fields #[vl, vu, vs] } } := I4.kept (t' := s4.toks) fun b ob q => Heap.get?_push_of_some _ q
  cases pl
  cases pu
  cases ps with
  | int _ tk =>
  show wpAny (model X.prog X.w) X.A (subscriptTail e (.Slice none none (some (.UnaryOp .USub (.Constant (.int 1) k p1) p2)) p3) (.str z t) (.ref s4.heap.objs.size)) (EP X pins σ Q) X.xe { s4 with heap := s4.heap.push { cls := .type "slice", data := .fields #[.none, .none, .int (-1) tk] } }
  refine tail_any (ops := [.str z t, .ref s4.heap.objs.size]) (typeIs_str _ z t) PyProof.Rows.slot_str_getitem.lookup ?_ (by with_unfolding_all rfl)
  refine wpAny_getItem_str_slice (l := none) (u := none) (st := some (-1, tk)) ⟨_, Heap.get?_push_size _ rfl, rfl, rfl⟩ rfl ?_
  have hm : sliceMade z t none none (some (-1, tk)) = .str ⟨z.cps.toList.reverse.toArray⟩ := by
    unfold sliceMade slicePicked
    rw [if_neg (by
      intro q
      rw [Bool.and_eq_true] at q
      have q1 : (-1 : Int) = 1 := eq_of_beq q.1
      omega)]
    show Made.str ⟨((Builtin.Str.strSliceIndices none none (-1) z.length).filterMap (z.cps[·]?)).toArray⟩ = _
    rw [str_rev]
  rw [hm]
  refine ⟨?_, .str _, _, I5.tok _, ⟨_, rfl⟩, q⟩
  show z.cps.toList.reverse.toArray.size ≤ sizeLine
  rw [List.size_toArray, List.length_reverse, Array.length_toList]
  exact hz
end
end PB

set_option Elab.async false
set_option linter.all false
set_option maxRecDepth 100000
set_option maxHeartbeats 4000000
namespace PB
open PySem PySem.Spec PyProof.Rows L2
section
variable {K : Frag} {O : Addr → Prop} {H : Hp}
theorem AtL.rev : ∀ {xs : List V} {ds : List D}, AtL K O H xs ds → AtL K O H xs.reverse ds.reverse
  | _, _, .nil => .nil
  | _, _, .cons a r => by
    rw [List.reverse_cons, List.reverse_cons]
    exact r.rev.app (.cons a .nil)
end
section
variable {γ ι : Type} {B : Bs γ ι} {W : WX} {X : Cx} {pos : Pos} {a : Expr} {ma : ME γ}
theorem PE.or {e : Expr} {t t' : TE} (h : PE X e t) (h' : PE X e t') : PE X e (fun σ H Q => t σ H Q ∨ t' σ H Q) :=
  ⟨fun pins s σ H Q I q => q.elim (h.run pins s σ H Q I) (h'.run pins s σ H Q I)⟩
theorem rev_all {s : List Nat} (h : s.all (· < 0x110000) = true) : s.reverse.all (· < 0x110000) = true := by
  rw [List.all_reverse]
  exact h
theorem pb_rev {k : Nat} {p1 p2 p3 : Pos} (hK : B.K = X.K) (ha : PE X a (RE B W ma)) : PE X (.Subscript a (.Slice none none (some (.UnaryOp .USub (.Constant (.int 1) k p1) p2)) p3) pos) (RE B W (mOp1 oRev ma)) := by
  refine pe_w (PE.or (pe_revL ha) (PE.or (pe_revT ha) (pe_revS ha))) fun σ H Q ⟨S, e, g, R, h⟩ => ?_
  cases q : ma e g with
  | no =>
    unfold mOp1 at h
    rw [q] at h
    exact h.elim
  | ex y g1 =>
    unfold mOp1 at h
    rw [q] at h
    refine .inl ⟨S, e, g, R, ?_⟩
    show RK _ _ _ _ _ _ (ma e g) _
    rw [q]
    exact h
  | ok r g1 =>
    unfold mOp1 at h
    rw [q] at h
    obtain ⟨z, kz, h1⟩ := RK.ofO (P := VOk) (A := ⟨B, S⟩) (o := oRev r) (g := g1) h
    unfold oRev at kz
    split at kz
    · rename_i ds
      cases kz
      refine .inr (.inl ⟨S, e, g, R, ?_⟩)
      show RK _ _ _ _ _ _ (ma e g) _
      rw [q]
      intro v H1 x1 i1 o1
      cases o1 with
      | @tup p xs _ kk al =>
      refine ⟨p, xs, rfl, by rw [← hK]; exact tup_seq kk, fun p' hp' => ?_⟩
      exact h1 _ _ (x1.trans (.new hp')) (Gho.new i1 hp') (At.mkT (A := ⟨B, S⟩) R x1 i1 al.rev hp')
    · rename_i s
      cases kz
      refine .inr (.inr ⟨S, e, g, R, ?_⟩)
      show RK _ _ _ _ _ _ (ma e g) _
      rw [q]
      intro v H1 x1 i1 o1
      cases o1 with
      | str _ k1 k2 =>
      refine ⟨mkS s, rfl, by rw [mkS_len]; exact szle k1, ?_⟩
      have e2 : (⟨(mkS s).cps.toList.reverse.toArray⟩ : Str) = mkS s.reverse := rfl
      rw [e2]
      exact h1 _ H1 x1 i1 (.str _ (by rw [List.length_reverse]; exact k1) (rev_all k2))
    · cases hi : r.items with
      | none =>
        rw [hi] at kz
        cases kz
      | some ds =>
        rw [hi] at kz
        cases kz
        refine .inl ⟨S, e, g, R, ?_⟩
        show RK _ _ _ _ _ _ (ma e g) _
        rw [q]
        intro v H1 x1 i1 o1
        obtain ⟨p, xs, rfl, hp, al⟩ := (show VOk ⟨B, S⟩ e σ H H1 r v from o1).items R hi
        exact ⟨p, xs, rfl, SqL.of hp, fun p' hp' => h1 _ _ (x1.trans (.new hp')) (Gho.new i1 hp') (VOk.mk x1 i1 al.rev hp')⟩
end
end PB

set_option Elab.async false
set_option linter.all false
set_option maxRecDepth 100000
set_option maxHeartbeats 4000000
namespace PB
open PySem PySem.Spec PyProof.Rows L2
/-! ### {..}[k], a written dict of texts, read at once -/
def sV : D → V
  | .str l => .str (mkS l)
  | .int i => .int i
  | _ => .non
def scC : D → Bool
  | .str l => decide (l.length ≤ SZ) && l.all (· < 0x110000)
  | .int _ => true
  | _ => false
theorem sV_at {K : Frag} {O : Addr → Prop} {H : Hp} {d : D} (h : scC d = true) : At K O H (sV d) d := by
  cases d with
  | str l =>
    have h' : (decide (l.length ≤ SZ) && l.all (· < 0x110000)) = true := h
    rw [Bool.and_eq_true] at h'
    exact .str l (of_decide_eq_true h'.1) h'.2
  | int i => exact .int i
  | _ => cases h
def kTx (l : List Nat) : Key := .inr (mkS l)
theorem kTx_inj {l m : List Nat} (h : kTx l = kTx m) : l = m := by
  have h1 : mkS l = mkS m := Sum.inr.inj h
  have h2 : l.toArray = m.toArray := congrArg Str.cps h1
  have h3 := congrArg Array.toList h2
  simpa using h3
def kvsOf (tab : List (List Nat × D)) : List (Key × V) := tab.map fun p => (kTx p.1, sV p.2)
def trsOf (tab : List (List Nat × D)) : List (TE × TE) := tab.map fun p => (tC (.str (mkS p.1)), tC (sV p.2))
def ndT : List (List Nat × D) → Bool
  | [] => true
  | p :: r => r.all (fun q => !(q.1 == p.1)) && ndT r
theorem pairs_C {σ : L2.St} {H : Hp} : ∀ {tab : List (List Nat × D)} {Q : List (V × V) → Hp → Prop}, Q ((kvsOf tab).map fun kv => (kV kv.1, kv.2)) H → tPairs (trsOf tab) σ H Q
  | [], Q, h => h
  | p :: r, Q, h => by
    show tPairs (trsOf r) σ H fun ps H3 => Q ((.str (mkS p.1), sV p.2) :: ps) H3
    exact pairs_C h
theorem look_none : ∀ (tab : List (List Nat × D)) (acc : List (Key × V)) (s : List Nat), tab.find? (fun q => q.1 == s) = none → valV (mergeK acc (kvsOf tab)) (kTx s) = valV acc (kTx s)
  | [], acc, s, _ => rfl
  | p :: r, acc, s, h => by
    rw [List.find?_cons] at h
    cases hp : (p.1 == s) with
    | true =>
      rw [hp] at h
      cases h
    | false =>
      rw [hp] at h
      show valV (mergeK (putK acc (kTx p.1) (sV p.2)) (kvsOf r)) (kTx s) = _
      rw [look_none r _ s h, valV_put, if_neg (fun z => by
        rw [kTx_inj z, beq_self_eq_true] at hp
        cases hp)]
theorem nd_none : ∀ (r : List (List Nat × D)) (s : List Nat), r.all (fun q => !(q.1 == s)) = true → r.find? (fun q => q.1 == s) = none
  | [], _, _ => rfl
  | p :: r, s, h => by
    rw [List.all_cons, Bool.and_eq_true] at h
    rw [List.find?_cons]
    cases hp : (p.1 == s) with
    | true =>
      rw [hp] at h
      cases h.1
    | false => exact nd_none r s h.2
theorem look_some : ∀ (tab : List (List Nat × D)) (acc : List (Key × V)) (s : List Nat) (p : List Nat × D), ndT tab = true → tab.find? (fun q => q.1 == s) = some p → valV (mergeK acc (kvsOf tab)) (kTx s) = some (sV p.2)
  | [], acc, s, p, _, h => by cases h
  | q :: r, acc, s, p, hn, h => by
    unfold ndT at hn
    rw [Bool.and_eq_true] at hn
    rw [List.find?_cons] at h
    show valV (mergeK (putK acc (kTx q.1) (sV q.2)) (kvsOf r)) (kTx s) = _
    cases hp : (q.1 == s) with
    | true =>
      rw [hp] at h
      cases h
      have e := eq_of_beq hp
      subst e
      rw [look_none r _ _ (nd_none r _ hn.1), valV_put, if_pos rfl]
    | false =>
      rw [hp] at h
      exact look_some r _ s p hn.2 h
section
variable {γ ι : Type} {B : Bs γ ι} {W : WX} {X : Cx} {pos : Pos} {k : Expr} {mk : ME γ}
theorem pb_dlit {keys : List (Option Expr)} {values : List Expr} {p : Pos} {tab : List (List Nat × D)} (hu : X.A.units + 1 < cLine) (hP : PPs X p keys values (trsOf tab)) (hk : PE X k (RE B W mk)) (hs : NoSl k)
    (h1 : keys.all (·.isSome) = true) (h2 : keys.length = values.length) (h3 : keys ≠ []) (h4 : keys.length ≤ 15) (h5 : tab.length ≤ 15) (hn : ndT tab = true) (hc : tab.all (fun q => scC q.2) = true) :
    PE X (.Subscript (.Dict keys values p) k pos) (RE B W (mTab tab mk)) := by
  refine pe_w (pe_dget hu (pe_disp hP h1 h2 h3 h4) hk hs) fun σ H Q ⟨S, e, g, R, h⟩ => ?_
  intro q hq
  refine pairs_C ⟨upd_same, kvsOf tab, rfl, by unfold kvsOf; rw [List.length_map]; exact h5, ?_⟩
  rw [upd_upd]
  have x0 : ExE (⟨B, S⟩ : Act γ ι) H (upd H q (.dK (mergeK [] (kvsOf tab)))) := .new hq
  have R0 := R.exe x0 (Gho.new R.gh hq)
  refine ⟨S, e, g, R0, RK.bind x0 h fun y g1 vy H1 x01 x1 i1 o1 h2 => ?_⟩
  split at h2
  · rename_i s
    obtain ⟨z, ez, qz⟩ := h2.ofO
    cases o1 with
    | str _ k1 k2 =>
    cases hf : tab.find? (fun q => q.1 == s) with
    | none =>
      rw [hf] at ez
      cases ez
    | some r =>
      rw [hf] at ez
      cases ez
      have e1 : H1 q = some (.dK (mergeK [] (kvsOf tab))) := x01 q _ upd_same fun z => R.xt q (R.fx q z) hq
      have e2 := DGet.k (k := kTx s) e1
      rw [look_some tab [] s r hn hf] at e2
      exact ⟨q, sV r.2, rfl, e2, qz _ H1 x1 i1 (sV_at (List.all_eq_true.mp hc r (find_mem hf).1))⟩
  · exact h2.elim
theorem pe_strM {x : Str} {j} {pos : Pos} (l : List Nat) (h : x = mkS l := by decide +kernel) : PE X (.Constant (.str x) j pos) (tC (.str (mkS l))) := by
  subst h
  exact pe_str
theorem hu1 {k : Nat} {A : Around} (h : Room k A) : A.units + 1 < cLine := by
  have := h.un
  omega
end
end PB

set_option Elab.async false
set_option linter.all false
set_option maxRecDepth 100000
set_option maxHeartbeats 4000000
namespace PB
open PySem PySem.Spec PyProof.Rows L2
/-! ### defs that exceptions may leave -/
section
variable {γ ι : Type}
/-- the promise of a def that an exception may leave -/
def spOfX (K : Frag) (T : XT) (fam : ι → Gho γ) (n : Nat) (F : MF γ) : Sp := fun vs H Q E => ∃ (i : ι) (S : Addr → Prop) (ds : List D) (g : γ), vs.length = n ∧ (∀ a, (fam i).F a → S a) ∧ (∀ a, S a → Stk (H a)) ∧ AtL K S H vs ds ∧ (fam i).I g H ∧
  match F ds g with
  | .ok r g' => ∀ v H', (∀ b o, H b = some o → ¬ (fam i).F b → H' b = some o) → (fam i).I g' H' → FRet K S H H' r v → Q v H'
  | .ex x g' => ∀ c od H', (∀ b o, H b = some o → ¬ (fam i).F b → H' b = some o) → (fam i).I g' H' → XOk T x c od H' → E c od H'
  | .no => False
variable {B : Bs γ ι} {W : WX} {X : Cx} {pos pz : Pos} {e : Expr} {es : List Expr} {mr : MA γ} {F : MF γ}
theorem callX_go {n : Nat} {σ : L2.St} {H : Hp} {Q : VK} (h : RE B W (mCallX F mr) σ H Q) (hl : ∀ e g rs g', mr e g = .ok rs g' → rs.length = n) : tCallS (spOfX B.K B.T B.fam n F) (WE W) (RA B W mr) σ H Q := by
  obtain ⟨S, e, g, R, h⟩ := h
  refine ⟨S, e, g, R, ?_⟩
  have hl' := hl e g
  unfold mCallX at h
  cases q : mr e g with
  | no =>
    rw [q] at h
    exact h
  | ex y g1 =>
    rw [q] at h
    exact h
  | ok rs g1 =>
    rw [q] at h
    intro vs H1 x1 i1 o1
    have h1 : RK VOk ⟨B, S⟩ W e σ H (match stoL rs with | some ds => F ds g1 | none => .no) Q := h
    cases ks : stoL rs with
    | none =>
      rw [ks] at h1
      exact h1.elim
    | some ds =>
      rw [ks] at h1
      have al := o1.sto R ks
      have R1 := R.exe x1 i1
      have hn : rs.length = n := hl' _ _ q
      have hvl : vs.length = n := by rw [← hn, o1.length]
      have h1 : RK VOk ⟨B, S⟩ W e σ H (F ds g1) Q := h1
      refine ⟨B.i, Om ⟨B, S⟩ e σ, ds, g1, hvl, fun a z => .inl (R.fx a z), fun a z => R1.oms z, al, i1, ?_⟩
      cases kf : F ds g1 with
      | no =>
        rw [kf] at h1
        exact h1
      | ex y g2 =>
        rw [kf] at h1
        exact fun c od H' x' i' r' => h1 c od H' (x1.trans x') i' r'
      | ok r g2 =>
        rw [kf] at h1
        exact fun v H' x' i' o' => h1 v H' (x1.trans x') i' (fret_vok R x1 i1 o')
/-- f(..), an exception may leave f -/
theorem pb_callX {k : Nat} {n : Nat} {f : Addr} {fd : FuncData} {ps : List Str} {x : Str} (G : FnOk X.prog X.w X.K X.mg X.base (L2.CX X.prog X.w) k f fd ps (spOfX B.K B.T B.fam n F)) (tk : Takes X W) (hr : Room k X.A) (hg : Gl X x) (hm : X.mg x = some (.ref f)) (hk : PySem.W.keepIn X.K (.ref f) = true) (hb : Binds X.K fd ps [])
    (ha : PA X (e :: es) (RA B W mr)) (hl : ∀ e g rs g', mr e g = .ok rs g' → rs.length = n) (hdb : (x == ("__debug__" : Str)) = false := by decide) (he : starEach (e :: es) X.env = (false, eval e X.env) :: starEach es X.env := by rfl) (hpl : (backTo pos (starEach es X.env)).any (·.1) = false := by rfl) :
    PE X (.Call (.Name x pz) (e :: es) [] pos) (RE B W (mCallX F mr)) :=
  pe_w (pe_callS G hr hg hm hk hb (fun σ => passAt tk σ) ha hdb he hpl) fun σ H Q h => callX_go h hl
/-- .. with defaults -/
theorem run_dfl {CX : CXT} {k : Nat} {f : Addr} {fd : FuncData} {ps : List Str} {sp : Sp} {ds : List Value} {dvs : List V} {E : L2.St → XK} {pins : List (Addr × Obj)} {σ : L2.St} {H : Hp} {s : Shared} {Q : VK} {us : List Value} {vs : List V} (G : FnOk X.prog X.w X.K X.mg X.base CX k f fd ps sp) (hr : Room k X.A) (hb : Binds X.K fd ps ds) (hd : Vals dvs ds) (hx : PassesAt CX X σ (E σ))
    (I : Inv X pins σ H s) (r : Vals vs us) (h : sp (vs ++ dvs) H Q (E σ)) : wpAny (model X.prog X.w) X.A (call (.ref f) us) (EP X pins σ Q) X.xe s := by
  have ra : Vals (vs ++ dvs) (us ++ ds) := r.append hd
  have le : (us ++ ds).length = ps.length := by
    rw [← ra.length]
    exact G.len _ _ _ _ h
  refine wpAny_call (codeAny_mono (G.run X.A X.stack s H ⟨us, []⟩ (us ++ ds) (vs ++ dvs) Q (E σ) hr I.env0 (hb s us I.kIn le) ra h) fun r1 s1 hq => ?_)
  cases r1 with
  | error er => exact hx pins H s er s1 I hq
  | ok fl =>
    cases fl with
    | ret u => exact I.after hq
    | next => exact hq.elim
    | brk => exact hq.elim
    | cont => exact hq.elim
theorem callXD_go {n : Nat} {σ : L2.St} {H : Hp} {Q : VK} {dvs : List V} {es : List D} (he : ∀ O H, AtL B.K O H dvs es) (h : RE B W (mCallXD F mr es) σ H Q) (hl : ∀ e g rs g', mr e g = .ok rs g' → rs.length + es.length = n) : RA B W mr σ H fun vs H1 => spOfX B.K B.T B.fam n F (vs ++ dvs) H1 Q (WE W σ) := by
  obtain ⟨S, e, g, R, h⟩ := h
  refine ⟨S, e, g, R, ?_⟩
  have hl' := hl e g
  unfold mCallXD at h
  cases q : mr e g with
  | no =>
    rw [q] at h
    exact h
  | ex y g1 =>
    rw [q] at h
    exact h
  | ok rs g1 =>
    rw [q] at h
    intro vs H1 x1 i1 o1
    have h1 : RK VOk ⟨B, S⟩ W e σ H (match stoL rs with | some ds => F (ds ++ es) g1 | none => .no) Q := h
    cases ks : stoL rs with
    | none =>
      rw [ks] at h1
      exact h1.elim
    | some ds =>
      rw [ks] at h1
      have al := o1.sto R ks
      have R1 := R.exe x1 i1
      have hn := hl' _ _ q
      have ad : dvs.length = es.length := (he (fun _ => False) H1).length
      have hvl : (vs ++ dvs).length = n := by rw [List.length_append, ad, o1.length, hn]
      have h1 : RK VOk ⟨B, S⟩ W e σ H (F (ds ++ es) g1) Q := h1
      refine ⟨B.i, Om ⟨B, S⟩ e σ, ds ++ es, g1, hvl, fun a z => .inl (R.fx a z), fun a z => R1.oms z, al.app (he _ _), i1, ?_⟩
      cases kf : F (ds ++ es) g1 with
      | no =>
        rw [kf] at h1
        exact h1
      | ex y g2 =>
        rw [kf] at h1
        exact fun c od H' x' i' r' => h1 c od H' (x1.trans x') i' r'
      | ok r g2 =>
        rw [kf] at h1
        exact fun v H' x' i' o' => h1 v H' (x1.trans x') i' (fret_vok R x1 i1 o')
/-- f(..), the last arguments by their defaults -/
theorem pb_callXD {k : Nat} {n : Nat} {f : Addr} {fd : FuncData} {ps : List Str} {x : Str} {dvs : List V} {es1 : List D} (G : FnOk X.prog X.w X.K X.mg X.base (L2.CX X.prog X.w) k f fd ps (spOfX B.K B.T B.fam n F)) (tk : Takes X W) (hr : Room k X.A) (hg : Gl X x) (hm : X.mg x = some (.ref f)) (hk : PySem.W.keepIn X.K (.ref f) = true) (hb : ∃ ds, Vals dvs ds ∧ Binds X.K fd ps ds) (he1 : ∀ O H, AtL B.K O H dvs es1)
    (ha : PA X (e :: es) (RA B W mr)) (hl : ∀ e g rs g', mr e g = .ok rs g' → rs.length + es1.length = n) (hdb : (x == ("__debug__" : Str)) = false := by decide) (he : starEach (e :: es) X.env = (false, eval e X.env) :: starEach es X.env := by rfl) (hpl : (backTo pos (starEach es X.env)).any (·.1) = false := by rfl) :
    PE X (.Call (.Name x pz) (e :: es) [] pos) (RE B W (mCallXD F mr es1)) := by
  obtain ⟨ds, hd, hb⟩ := hb
  refine ⟨fun pins s σ H Q I h => ?_⟩
  refine wpAny_Call_Name_kw (ld_glob I hg hm ?_ hdb)
  refine PySem.W.callWith_K (h₀ := X.base) I.ok.mod.kin hk (thn (ha.run pos pins s σ H _ I (callXD_go he1 h hl)) fun us s1 ⟨vs, H1, I1, r, q⟩ => ⟨I1.kIn, ?_⟩) he hpl
  exact run_dfl G hr hb hd (passAt tk σ) I1 r q
/-- a call of the def that the slot i holds -/
theorem pb_callR {k : Nat} {n : Nat} {i : Nat} {f : Addr} {fd : FuncData} {ps : List Str} {x : Str} {a0 : Nat} (ea : a0 = f) (G : FnOk X.prog X.w X.K X.mg X.base (L2.CX X.prog X.w) k f fd ps (spOfX B.K B.T B.fam n F)) (tk : Takes X W) (hr : Room k X.A) (hN : X.N[i]? = some x) (hk : PySem.W.keepIn X.K (.ref f) = true) (hb : Binds X.K fd ps [])
    (ha : PA X (e :: es) (RA B W mr)) (hl : ∀ e g rs g', mr e g = .ok rs g' → rs.length = n) (hv : Vis X.env.scope x := by first | exact Or.inl rfl | exact Or.inr (Or.inl rfl)) (hdb : (x == ("__debug__" : Str)) = false := by decide) (hcd : (x == ("__classdict__" : Str)) = false := by decide) (he : starEach (e :: es) X.env = (false, eval e X.env) :: starEach es X.env := by rfl) (hpl : (backTo pos (starEach es X.env)).any (·.1) = false := by rfl) :
    PE X (.Call (.Name x pz) (e :: es) [] pos) (RE B W (mCallR i a0 F mr)) := by
  subst ea
  refine ⟨fun pins s σ H Q I h => ?_⟩
  have h0 : σ[i]? = some (some (.ref a0)) ∧ RE B W (mCallX F mr) σ H Q := by
    obtain ⟨S, e, g, R, h⟩ := h
    unfold mCallR at h
    split at h
    · rename_i b hb
      split at h
      · rename_i eb
        have q := R.sl i
        rw [hb] at q
        obtain ⟨v, e1, av⟩ := q
        cases av
        rw [eb] at e1
        exact ⟨e1, S, e, g, R, h⟩
      · exact h.elim
    · exact h.elim
  obtain ⟨hs, h1⟩ := h0
  have h2 := callX_go h1 hl
  refine wpAny_Call_Name_kw (thn ((pe_var (pos := pz) hN hv hdb hcd).run pins s σ H (fun v H1 => v = .ref a0 ∧ H1 = H) I ⟨.ref a0, hs, rfl, rfl⟩) fun u s1 ⟨v, H1, I1, r1, q1⟩ => ?_)
  obtain ⟨rfl, rfl⟩ := q1
  cases r1
  refine PySem.W.callWith_K (h₀ := X.base) I.ok.mod.kin hk (thn (ha.run pos pins s1 σ _ _ I1 h2) fun us s2 ⟨vs, H2, I2, r, q⟩ => ⟨I2.kIn, ?_⟩) he hpl
  exact run_fnS G hr hb (passAt tk σ) I2 r q
theorem pb_callRD {k : Nat} {n : Nat} {i : Nat} {f : Addr} {fd : FuncData} {ps : List Str} {x : Str} {a0 : Nat} {dvs : List V} {es1 : List D} (ea : a0 = f) (G : FnOk X.prog X.w X.K X.mg X.base (L2.CX X.prog X.w) k f fd ps (spOfX B.K B.T B.fam n F)) (tk : Takes X W) (hr : Room k X.A) (hN : X.N[i]? = some x) (hk : PySem.W.keepIn X.K (.ref f) = true) (hb : ∃ ds, Vals dvs ds ∧ Binds X.K fd ps ds) (he1 : ∀ O H, AtL B.K O H dvs es1)
    (ha : PA X (e :: es) (RA B W mr)) (hl : ∀ e g rs g', mr e g = .ok rs g' → rs.length + es1.length = n) (hv : Vis X.env.scope x := by first | exact Or.inl rfl | exact Or.inr (Or.inl rfl)) (hdb : (x == ("__debug__" : Str)) = false := by decide) (hcd : (x == ("__classdict__" : Str)) = false := by decide) (he : starEach (e :: es) X.env = (false, eval e X.env) :: starEach es X.env := by rfl) (hpl : (backTo pos (starEach es X.env)).any (·.1) = false := by rfl) :
    PE X (.Call (.Name x pz) (e :: es) [] pos) (RE B W (mCallRD i a0 F mr es1)) := by
  subst ea
  obtain ⟨ds, hd, hb⟩ := hb
  refine ⟨fun pins s σ H Q I h => ?_⟩
  have h0 : σ[i]? = some (some (.ref a0)) ∧ RE B W (mCallXD F mr es1) σ H Q := by
    obtain ⟨S, e, g, R, h⟩ := h
    unfold mCallRD at h
    split at h
    · rename_i b hb
      split at h
      · rename_i eb
        have q := R.sl i
        rw [hb] at q
        obtain ⟨v, e1, av⟩ := q
        cases av
        rw [eb] at e1
        exact ⟨e1, S, e, g, R, h⟩
      · exact h.elim
    · exact h.elim
  obtain ⟨hs, h1⟩ := h0
  refine wpAny_Call_Name_kw (thn ((pe_var (pos := pz) hN hv hdb hcd).run pins s σ H (fun v H1 => v = .ref a0 ∧ H1 = H) I ⟨.ref a0, hs, rfl, rfl⟩) fun u s1 ⟨v, H1, I1, r1, q1⟩ => ?_)
  obtain ⟨rfl, rfl⟩ := q1
  cases r1
  refine PySem.W.callWith_K (h₀ := X.base) I.ok.mod.kin hk (thn (ha.run pos pins s1 σ _ _ I1 (callXD_go he1 h1 hl)) fun us s2 ⟨vs, H2, I2, r, q⟩ => ⟨I2.kIn, ?_⟩) he hpl
  exact run_dfl G hr hb hd (passAt tk σ) I2 r q
/-- .. no exception leaves it -/
theorem pb_callD {k : Nat} {n : Nat} {f : Addr} {fd : FuncData} {ps : List Str} {x : Str} {dvs : List V} {es1 : List D} (G : FnOk X.prog X.w X.K X.mg X.base CX0 k f fd ps (spOf B.K B.fam n F)) (hr : Room k X.A) (hg : Gl X x) (hm : X.mg x = some (.ref f)) (hk : PySem.W.keepIn X.K (.ref f) = true) (hb : ∃ ds, Vals dvs ds ∧ Binds X.K fd ps ds) (he1 : ∀ O H, AtL B.K O H dvs es1)
    (ha : PA X (e :: es) (RA B W mr)) (hl : ∀ e g rs g', mr e g = .ok rs g' → rs.length + es1.length = n) (hdb : (x == ("__debug__" : Str)) = false := by decide) (he : starEach (e :: es) X.env = (false, eval e X.env) :: starEach es X.env := by rfl) (hpl : (backTo pos (starEach es X.env)).any (·.1) = false := by rfl) :
    PE X (.Call (.Name x pz) (e :: es) [] pos) (RE B W (mCallD F mr es1)) := by
  obtain ⟨ds0, hd, hb⟩ := hb
  refine pe_w (pe_call G hr hg hm hk hb hd pass0 ha hdb he hpl) fun σ H Q ⟨S, e, g, R, h⟩ => ?_
  refine ⟨S, e, g, R, ?_⟩
  have hl' := hl e g
  unfold mCallD at h
  cases q : mr e g with
  | no =>
    rw [q] at h
    exact h
  | ex y g1 =>
    rw [q] at h
    exact h
  | ok rs g1 =>
    rw [q] at h
    intro vs H1 x1 i1 o1
    have h1 : RK VOk ⟨B, S⟩ W e σ H (match stoL rs with | some ds => okO (F (ds ++ es1) g1) | none => .no) Q := h
    cases ks : stoL rs with
    | none =>
      rw [ks] at h1
      exact h1.elim
    | some ds =>
      rw [ks] at h1
      have al := o1.sto R ks
      have R1 := R.exe x1 i1
      have hn := hl' _ _ q
      have ad : dvs.length = es1.length := (he1 (fun _ => False) H1).length
      have hvl : (vs ++ dvs).length = n := by rw [List.length_append, ad, o1.length, hn]
      have h1 : RK VOk ⟨B, S⟩ W e σ H (okO (F (ds ++ es1) g1)) Q := h1
      refine ⟨B.i, Om ⟨B, S⟩ e σ, ds ++ es1, g1, hvl, fun a z => .inl (R.fx a z), fun a z => R1.oms z, al.app (he1 _ _), i1, ?_⟩
      cases kf : F (ds ++ es1) g1 with
      | no =>
        rw [kf] at h1
        exact h1
      | ex y g2 =>
        rw [kf] at h1
        exact h1
      | ok r g2 =>
        rw [kf] at h1
        exact fun v H' x' i' o' => h1 v H' (x1.trans x') i' (fret_vok R x1 i1 o')
end
section
variable {γ ι : Type} {P : Program} {w : World} {K : Frag} {mg : Str → Option Value} {base : Heap} {Tx : XT} {xa : Addr × Value × Option Addr} {fam : ι → Gho γ}
/-- THE RULE for a def that exceptions may leave -/
theorem fn_pbX {x qual : Str} {st : Stmt} {f : Addr} {fd : FuncData} {N ps : List Str} {k : Nat} {dvs : List V} (m : MS γ) (a b : Nat) (F : FunD K x qual (defArgs st) (defBody st) (defScope st) dvs [] f fd) (Sc : FnScope N ps (defScope st)) (ha : N.length = a) (hb' : ps.length = b) (hn : b ≤ a)
    (hb : ∀ (i : ι) (cdv : Value) (A : Around) (outer : List PySem.Env) (s : Shared) (H : Hp) (E : XK), Room k (A.deeper (envOfC qual (defScope st) s.heap.objs.size f cdv)) →
      Takes (cxOf (L2.CX P w) P w K mg base N qual (defScope st) f cdv A outer s H E) (fun c d _ H => E c d H) →
      PassesOwn (model P w) (cxOf (L2.CX P w) P w K mg base N qual (defScope st) f cdv A outer s H E).A (cxOf (L2.CX P w) P w K mg base N qual (defScope st) f cdv A outer s H E).env (cxOf (L2.CX P w) P w K mg base N qual (defScope st) f cdv A outer s H E).xe →
      PSs (cxOf (L2.CX P w) P w K mg base N qual (defScope st) f cdv A outer s H E) (defBody st) (RS ⟨K, Tx, fam, i, xa⟩ (fun c d _ H => E c d H) m)) :
    FnOk P w K mg base (L2.CX P w) (k + 1) f fd ps (spOfX K Tx fam b (mDef a b m)) := by
  subst ha hb'
  refine F.ok Sc (fun vs H Q E h => ?_) (fun cdv A outer s H vs Q E hr h => ?_)
  · obtain ⟨i, S, ds, g, hl, _⟩ := h
    exact hl
  · obtain ⟨i, S, ds, g, hl, fx, xt, al, gh, hq⟩ := h
    refine ⟨_, hb i cdv A outer s H E hr (takes_of rfl rfl rfl rfl) (passes_of rfl), S, _, g, start_rep (A := ⟨⟨K, Tx, fam, i, xa⟩, S⟩) (N := N) fx xt al gh (by omega), ?_⟩
    have gtm : ∀ (ds : List D) (m j : Nat), gt (ds.map Sl.dat ++ List.replicate m .un) j = match ds[j]? with
        | some d => .dat d
        | none => .un := by
      intro ds m
      induction ds with
      | nil =>
        intro j
        simp only [List.map_nil, List.nil_append, List.getElem?_nil]
        induction m generalizing j with
        | zero => rfl
        | succ m ih =>
          rw [List.replicate_succ]
          cases j with
          | zero => rfl
          | succ j => exact ih j
      | cons d ds ih =>
        intro j
        cases j with
        | zero => rfl
        | succ j => exact ih j
    have nown : ∀ a, ¬ OwnA (ds.map Sl.dat ++ List.replicate (N.length - ds.length) .un) (L2.start N vs) a := fun a ⟨j, es, h1, h2⟩ => by
      rw [gtm] at h1
      split at h1 <;> cases h1
    have nmu : ∀ b, ¬ (fam i).F b → ¬ Mu (⟨⟨K, Tx, fam, i, xa⟩, S⟩ : Act γ ι) (ds.map Sl.dat ++ List.replicate (N.length - ds.length) .un) (L2.start N vs) b := fun b n z => z.elim n (nown b)
    have hdl : ds.length = ps.length := by rw [← al.length]; exact hl
    unfold mDef at hq
    rw [if_pos hdl] at hq
    rw [hdl]
    rw [hdl] at nmu nown
    cases km : m (ds.map Sl.dat ++ List.replicate (N.length - ps.length) .un) g with
    | no =>
      rw [km] at hq
      exact hq
    | ex y g1 =>
      rw [km] at hq
      exact fun c od σ' H' kp i' r' => hq c od H' (fun b o q n => kp b o q (nmu b n)) i' r'
    | ok f g1 =>
      rw [km] at hq
      cases f with
      | nx e' => exact fun σ' H' R' s' => hq .non H' (fun b o q n => s'.keep b o q (nmu b n)) R'.gh .non
      | bk e' => exact hq.elim
      | ct e' => exact hq.elim
      | rt r =>
        intro v H' kp i' vr
        refine hq v H' (fun b o q n => kp b o q (nmu b n)) i' ?_
        have vr' : VRet (⟨⟨K, Tx, fam, i, xa⟩, S⟩ : Act γ ι) _ _ H H' r v := vr
        unfold VRet at vr'
        show FRet K S H H' r.ret v
        cases kr : r.ret with
        | dat d =>
          rw [kr] at vr'
          exact vr'
        | own es =>
          rw [kr] at vr'
          obtain ⟨p, xs, e1, h0, nx, k1, a1⟩ := vr'
          exact ⟨p, xs, e1, h0.elim (fun z => absurd z (nown p)) id, k1, a1⟩
        | bor es =>
          rw [kr] at vr'
          exact vr'.elim
end
/-! ### raise -/
/-- a class of exceptions without a def of its own -/
structure ExN (K : Frag) (mg : Str → Option Value) (x : Str) (C : Addr) : Prop where
  g : mg x = some (.ref C)
  e : PySem.W.excIn K C He.veBase "ValueError.__new__" = true
  k : PySem.W.keepIn K (.ref C) = true
  sb : PySem.W.subIn K (.ref C) (.type "BaseException") = some true
  ty : PySem.W.typeIn K (.ref C) = some (.type "type")
section
variable {γ ι : Type} {B : Bs γ ι} {W : WX} {X : Cx} {pos : Pos}
theorem pb_raise {x m : Str} {C : Addr} {n j : Nat} {p p1 p2 : Pos} (E : ExN X.K X.mg x C) (hn : B.T.cl n = .ref C) (hc : X.calm = true) (tk : Takes X W) (hg : Gl X x) (hdb : (x == ("__debug__" : Str)) = false := by decide) :
    PS X (.Raise (some (.Call (.Name x p) [.Constant (.str m) j p2] [] p1)) none pos) (RS B W (mRaise n)) := by
  refine ps_w (ps_raise hc tk (pmk_own PySem.F.excBase_ValueError E.e E.g E.k (raises_own E.sb E.ty) hg hdb)) fun Dd σ H ⟨S, e, g, R, h⟩ => ?_
  exact h (.ref C) none σ H (fun _ _ q _ => q) R.gh ⟨hn.symm, rfl⟩
end
/-- the promise of such a def: __init__ of a class at C that keeps its one argument in f -/
def spInit (C : Addr) (f : Str) : Sp := fun vs H Q _ => ∃ (a : Addr) (v : V), vs = [.ref a, v] ∧ H a = some (exo a C none) ∧ ∀ d, H d = none → d ≠ a → Q .non (upd (upd H d (exd d [(f, v)])) a (exo a C (some d)))
/-- a class of exceptions whose __init__ keeps its one argument -/
structure ExF (K : Frag) (mg : Str → Option Value) (x f : Str) (C fI : Addr) (fd : FuncData) (ps : List Str) : Prop where
  g : mg x = some (.ref C)
  o : OexC K C
  no : PySem.W.findIn K (.ref C) f = some none
  i : PySem.W.findIn K (.ref C) "__init__" = some (some (.ref fI))
  t : PySem.W.typeIn K (.ref fI) = some (.type "function")
  b : Binds K fd ps []
section
variable {γ ι : Type} {B : Bs γ ι} {W : WX} {X : Cx} {pos : Pos} {a : Expr} {ma : ME γ}
theorem pb_raiseF {x f : Str} {C fI : Addr} {fd : FuncData} {ps : List Str} {n k : Nat} {p p1 : Pos} (E : ExF X.K X.mg x f C fI fd ps) (hn : B.T.cl n = .ref C) (hf : B.T.fn n = f) (F1 : FnOk X.prog X.w X.K X.mg X.base CX0 k fI fd ps (spInit C f)) (hr : Room (k + 1) X.A) (hc : X.calm = true) (tk : Takes X W) (hg : Gl X x)
    (ha : PE X a (RE B W ma)) (hdb : (x == ("__debug__" : Str)) = false := by decide) (he : starEach [a] X.env = (false, eval a X.env) :: starEach [] X.env := by rfl) (hpl : (backTo p1 (starEach [] X.env)).any (·.1) = false := by rfl) :
    PS X (.Raise (some (.Call (.Name x p) [a] [] p1)) none pos) (RS B W (mRaiseF n ma)) := by
  refine ps_w (ps_raise hc tk (pmk_oex (dvs := []) E.o E.i E.t F1 hr E.b .nil (fun _ _ _ _ _ _ _ z => z.elim) hg E.g (pa_cons ha pa_nil he) hdb he hpl)) fun Dd σ H ⟨S, e, g, R, h⟩ => ?_
  refine ⟨S, e, g, R, RSK.bind R h fun y g1 vy H1 x1 i1 o1 h1 => ?_⟩
  refine ⟨by show 1 ≤ 1000; decide, fun b hb => ⟨b, vy, rfl, upd_same, fun d hd hdb => ⟨rfl, d, [(f, vy)], upd_same, ?_, ?_, ?_⟩⟩⟩
  · rw [upd_ne hdb, upd_same]
  · rw [upd_ne hdb] at hd
    exact hd
  · rw [upd_ne hdb] at hd
    split at h1
    · rename_i dd
      split at h1
      · rename_i hs
        have e1 : upd (del (upd (upd (upd H1 b (exo b C none)) d (exd d [(f, vy)])) b (exo b C (some d))) b) d (.xd [(f, vy)]) = upd H1 d (.xd [(f, vy)]) := by
          funext c
          by_cases hcd : c = d
          · rw [hcd, upd_same, upd_same]
          · rw [upd_ne hcd, upd_ne hcd]
            by_cases hcb : c = b
            · rw [hcb, del_same, hb]
            · rw [del_ne hcb, upd_ne hcb, upd_ne hcd, upd_ne hcb]
        rw [e1]
        refine h1 (.ref C) (some d) σ _ (fun c o q n => ?_) (Gho.new i1 hd) ⟨hn.symm, d, vy, rfl, ?_, scv_of o1 hs⟩
        · have q1 := x1 c o q fun z => n (.inl z)
          rw [upd_ne (ne_of_none q1 hd)]
          exact q1
        · show upd H1 d _ d = some (.xd [(B.T.fn n, vy)])
          rw [upd_same, hf]
      · exact h1.elim
    · exact h1.elim
end
end PB

set_option Elab.async false
set_option linter.all false
set_option maxRecDepth 100000
set_option maxHeartbeats 4000000
namespace PB
open PySem PySem.Spec PyProof.Rows L2
/-! ### __init__ of such a class -/
/-- what the text says of the class beneath, whose __init__ is ValueError's -/
structure ExB (K : Frag) (mg : Str → Option Value) (x : Str) (C : Addr) : Prop where
  g : mg x = some (.ref C)
  r : PySem.W.readsIn K C (.type "type") = true
  s : PySem.W.specialIn K (.ref C) "__getattribute__" = some (some (.builtin "type.__getattribute__"))
  f : PySem.W.findCls K (.ref C) (.type "type") "__init__" = some (.val (.builtin "ValueError.__init__"))
section
variable {X : Cx} {e : Expr} {es : List Expr} {ta : TA} {p1 p2 pos : Pos}
theorem pe_binit {x : Str} {C : Addr} {pl : Sem Bool} (E : ExB X.K X.mg x C) (hg : Gl X x) (ha : PA X (e :: es) ta)
    (hc : eval (.Call (.Attribute (.Name x p1) "__init__" p2) (e :: es) [] pos) X.env = (do
      let ov ← eval (.Name x p1) X.env
      standAt p2.atName
      let (f, first) ← holding [ov] (getMethod ov "__init__" pl)
      callWith pos f first (backTo pos (starEach (e :: es) X.env)) (backToKw pos (keywordEach [] X.env))) := by rfl)
    (he : starEach (e :: es) X.env = (false, eval e X.env) :: starEach es X.env := by rfl) (hpl : (backTo pos (starEach es X.env)).any (·.1) = false := by rfl) (hdb : (x == ("__debug__" : Str)) = false := by decide) :
    PE X (.Call (.Attribute (.Name x p1) "__init__" p2) (e :: es) [] pos) (tVeI X.K ta) := by
  refine ⟨fun pins s σ H Q I h => ?_⟩
  refine PySem.W.methodCall_KW (ld_glob I hg E.g ?_ hdb) hc
  refine PySem.W.method_cls I.kIn E.s (PySem.W.cls_value I.kIn E.r E.f (by decide +kernel) ?_)
  show wpAny _ _ (callWith pos (Value.builtin "ValueError.__init__") [] (backTo pos (starEach (e :: es) X.env)) []) _ _ _
  refine PyProof.Rows.callWith_method1 (thn (ha.run pos pins _ σ H _ (I.tok _) h) fun us s1 hh => ?_) he hpl
  obtain ⟨vs, H1, I1, r1, a, D, ws, ev, hl, T, ea, q⟩ := hh
  subst ev
  cases r1 with
  | @cons _ v0 _ vr rv rw' =>
    obtain rfl : v0 = Value.ref a := rv
    have hlen : vr.length ≤ sizeLine := by
      rw [← Paired.length rw', sizeLine_eq]
      omega
    exact oinit_ok T I1 ea hlen fun s' J => ⟨.non, H1, J, rfl, q⟩
end
theorem fun_d {K : Frag} {x q : Str} {st : Stmt} {f : Addr} {fd : FuncData} (F : FunD K x q (defArgs st) (defBody st) (defScope st) [] [] f fd) : Fun K x q st f fd := by
  obtain ⟨oc, od, dV, kV, doc, pm, an, cdv, ct, osl, e, lk, hcd, hD, hK⟩ := F.ex
  rcases hD with ⟨_, rfl⟩ | ⟨e, _⟩
  · exact ⟨⟨oc, od, kV, doc, pm, an, cdv, ct, osl, e, lk, hcd⟩, F.kp⟩
  · exact absurd rfl e
end PB

set_option Elab.async false
set_option linter.all false
set_option maxRecDepth 100000
set_option maxHeartbeats 4000000
namespace PB
open PySem PySem.Spec PyProof.Rows L2
/-! ### several except clauses that name the exception alike -/
/-- what is wished at a clause's end: the name is gone -/
def gone (i : Nat) (Dd : Ends) : Ends := { nx := fun σ H => Dd.nx (σ.set i none) H, rt := Dd.rt, bk := fun σ H => Dd.bk (σ.set i none) H, ct := fun σ H => Dd.ct (σ.set i none) H }
abbrev XTS := Addr → Value → Option Addr → TS
/-- what the clauses wish, from the first on; n slots -/
def wCl (K : Frag) (n i : Nat) (Wo : WX) (Dd : Ends) : List (Value × XTS) → WX
  | [] => Wo
  | (k, u) :: more => fun cls d σ H => ∃ yes, PySem.W.exmOne K cls k = some yes ∧ (yes = true → ∀ x, H x = none → σ.length = n → u x cls d (gone i Dd) (σ.set i (some (.ref x))) H) ∧ (yes = false → wCl K n i Wo Dd more cls d σ H)
inductive Clauses (X : Cx) (nm : Str) : List ExceptHandler → List (Value × XTS) → Prop
  | nil : Clauses X nm [] []
  | cons {y : Str} {k : Value} {u : XTS} {s0 : Stmt} {ss : List Stmt} {q1 q2 : Pos} {rest : List ExceptHandler} {more : List (Value × XTS)} (hk : Names X y k)
      (hu : ∀ (x : Addr) (ox : Obj) (cls : Value) (d : Option Addr) (pn : List (Addr × Obj)), Zc cls d ox → (∃ fs, ox.data = .fields fs) → PSs (X.suite x ((x, ox) :: pn)) (s0 :: ss) (u x cls d)) (hm : Clauses X nm rest more) :
      Clauses X nm (.ExceptHandler (some (.Name y q1)) (some nm) (s0 :: ss) q2 :: rest) ((k, u) :: more)
section
variable {X : Cx} {nm : Str} {i : Nat} {sts : List Stmt} {c0 : ExceptHandler} {cs : List ExceptHandler} {us : List (Value × XTS)} {pos : Pos} {tb : WX → TS} {Wo : WX}
theorem ps_clauses (h1 : X.stack = X.env :: X.outer) (h2 : X.env.frame = some X.env.locals) (hN : X.N.Nodup) (hi : X.N[i]? = some nm) (hl : X.env.kindOf nm = some .local) (tk : Takes X Wo)
    (body : ∀ (W1 : WX) (pn : List (Addr × Obj)) (xe : Value → Shared → Prop), Takes (X.tr pn xe) W1 → PassesOwn (model X.prog X.w) X.A X.env xe → PSs (X.tr pn xe) sts (tb W1))
    (C : Clauses X nm (c0 :: cs) us) : PS X (.Try sts (c0 :: cs) [] [] pos) (fun Dd σ H => tb (wCl X.K X.N.length i Wo Dd us) Dd σ H) := by
  refine ⟨fun pins s σ H Dd I0 hh => ?_⟩
  have ok := I0.ok
  have hfs : X.A.frames = some (X.env :: X.outer) := ok.frames.trans (by rw [h1])
  refine wpAny_Try_except ?_
  have inner := body (wCl X.K X.N.length i Wo Dd us) (X.pn ++ pins)
    (fun v t1 => wpAny (model X.prog X.w) X.A (noteFrame v X.env)
      (fun _ t2 => wpAny (model X.prog X.w) X.A (setFlight v none)
        (fun _ t3 => wpAny (model X.prog X.w) X.A (handleBy v X.env (c0 :: cs)) (SP X pins Dd) X.xe t3) X.xe t2) X.xe t1)
  refine wpAny_mono ((inner (fun v t xx => ?_) PassesOwn.looking).run [] s σ H Dd (I0.toTry _) hh) (fun fl t q => ?_) (fun _ _ z => z)
  · obtain ⟨x, G, tI, pins1, σ1, H1, cls, d, rfl, Ji, ng, up, sk, nx, os, ag, wi⟩ := xx
    have J := Ji.ofTry ok (pins := pins)
    have sk1 : Sky G (X.env :: X.outer) x (Zc cls d) X.env.locals t.heap := by rw [← h1]; exact sk
    show wpAny (model X.prog X.w) X.A (noteFrame (.ref x) X.env) _ _ _
    refine Sky.land Zc.steady hfs h2 sk1 fun ha fa ua => ?_
    have Ja := J.landed (s' := { t with heap := ha }) ng fa.1 (up.trans ua) os ag
    obtain ⟨oa, va, ga, za, da⟩ := fa.there
    have noFrame : x ∉ frs (X.env :: X.outer) := fun hm => by
      obtain ⟨_, o1, g1, nf⟩ := fa.2.2.1.mem hm
      rw [ga] at g1
      exact nf va (by rw [← Option.some.inj g1]; exact da)
    have xL : x ≠ X.env.locals := fun z => noFrame (List.mem_filterMap.mpr ⟨X.env, List.mem_cons_self, by rw [h2, z]⟩)
    have xF : x ∉ X.fs := fun hm => by
      obtain ⟨v, hv, e⟩ := List.mem_filterMap.mp hm
      exact noFrame (List.mem_filterMap.mpr ⟨v, List.mem_cons_of_mem _ hv, e⟩)
    have Sa := Ja.suite ga da nx xL xF
    have lx : σ1.length = X.N.length := J.len
    -- one clause after another
    have go : ∀ {cs1 : List ExceptHandler} {us1 : List (Value × XTS)}, Clauses X nm cs1 us1 → wCl X.K X.N.length i Wo Dd us1 cls d σ1 H1 →
        wpAny (model X.prog X.w) X.A (handleBy (.ref x) X.env cs1) (SP X pins Dd) X.xe { t with heap := ha } := by
      intro cs1 us1 hc
      induction hc with
      | nil =>
        intro wo
        refine wpAny_handleBy_nil ?_
        obtain ⟨_, _, _, ob, vb, T, _, _, gb, _, db, b1, _⟩ := id fa
        have out : wpAny (model X.prog X.w) X.A (setFlight (.ref x) X.env.frame) (fun _ t4 => wpAny (model X.prog X.w) X.A (throw (.ref x) : Sem Flow) (SP X pins Dd) X.xe t4) X.xe { t with heap := ha } := by
          rw [h2]
          exact HandSPX.setFlight_upZ fa fun hb fb ub => wpAny_throw (tk _ _ ⟨x, G, tI, pins, σ1, H1, cls, d, rfl, J, ng, (up.trans ua).trans ub, .inr (.inr (by rw [h1]; exact fb)), nx, os, ag, wo⟩)
        unfold PySem.passOn
        refine wpAny_bind (wpAny_field gb db b1 ?_)
        have nt : ¬ ((Value.ref T == Value.none) = true) := by simp
        rw [if_neg nt]
        first
          | exact wpAny_bind (wpAny_pure (wpAny_bind out))
          | exact wpAny_bind out
      | @cons y k u s0 ss q1 q2 rest more hk hu hm ih =>
        intro wo
        obtain ⟨yes, e1, wy, wn⟩ := wo
        refine wpAny_handleBy_cons (codeAny_handlers_test ?_) (fun z => nomatch z)
        have ty : PySem.W.Looks (model X.prog X.w) ha (typeOf (.ref x)) cls := fun A1 Q1 E1 s1 k1 z => wpAny_typeOf_ref (k1 _ _ ga) (by rw [za.1]; exact z)
        have mt := PySem.W.exm_one (M := model X.prog X.w) Ja.kIn ty e1
        have named : ∀ {Q1 : Value → Shared → Prop} {E1 : Value → Shared → Prop}, Q1 k { t with heap := ha } → wpAny (model X.prog X.w) (X.A.mark (some (.ref x))) (eval (.Name y q1) X.env) Q1 E1 { t with heap := ha } := fun {Q1 E1} z => by
          obtain ⟨g1, g2, g3 | ⟨g3, g4, g5⟩⟩ := hk
          · exact ld_glob (X := X.suite x ((x, oa) :: (X.pn ++ pins))) Sa g1 g3 z g2
          · exact ld_blt (X := X.suite x ((x, oa) :: (X.pn ++ pins))) Sa g1 g3 g4 z g5 g2
        refine named (mt.here ?_)
        cases yes with
        | false => exact ih (wn rfl)
        | true =>
          refine codeAny_handlers_suite_as (HandSPX.lands_againZ fa fun hb fb ub => ?_)
          have Jb := J.landed (s' := { t with heap := hb }) ng fb.1 ((up.trans ua).trans ub) os ag
          obtain ⟨ob, vb, gb, zb, db⟩ := fb.there
          have Sb := Jb.suite gb db nx xL xF
          refine store_ok (X := X.suite x ((x, ob) :: (X.pn ++ pins))) (v := .ref x) Sb hN hi (.inl hl) rfl (fun s5 S5 => ?_) (.inr hl)
          refine wpAny_mono ((hu x ob cls d (X.pn ++ pins) zb ⟨_, db⟩).run [] s5 _ H1 _ S5 (wy rfl x nx lx)) (fun fl s6 q6 => ?_) (fun _ _ z => False.elim z)
          have close : ∀ {σ6 : L2.St} {H6 : Hp} {Q1 : Shared → Prop}, Inv (X.suite x ((x, ob) :: (X.pn ++ pins))) [] σ6 H6 s6 → (∀ s7, Inv X pins (σ6.set i none) H6 s7 → Q1 s7) →
              wpAny (model X.prog X.w) X.A (do bindName X.env nm .none; unbindBehindTheSuite X.env nm q2) (fun _ s7 => Q1 s7) X.xe s6 := fun {σ6 H6 Q1} S6 z => gone_ok (S6.unsuite ok) hN hi hl z
          cases fl with
          | next =>
            obtain ⟨σ6, H6, S6, z⟩ := q6
            exact close S6 fun _ J7 => ⟨_, _, J7, z⟩
          | ret u6 =>
            obtain ⟨v6, σ6, H6, S6, r6, z⟩ := q6
            exact close S6 fun _ J7 => ⟨_, _, _, J7, r6, z⟩
          | brk =>
            obtain ⟨σ6, H6, S6, z⟩ := q6
            exact close S6 fun _ J7 => ⟨_, _, J7, z⟩
          | cont =>
            obtain ⟨σ6, H6, S6, z⟩ := q6
            exact close S6 fun _ J7 => ⟨_, _, J7, z⟩
    exact go C wi
  · cases fl with
    | next =>
      obtain ⟨σ1, H1, J1, z⟩ := q
      exact wpAny_execs_nil ⟨σ1, H1, J1.ofTry ok, z⟩
    | ret u =>
      obtain ⟨v, σ1, H1, J1, r, z⟩ := q
      exact ⟨v, σ1, H1, J1.ofTry ok, r, z⟩
    | brk =>
      obtain ⟨σ1, H1, J1, z⟩ := q
      exact ⟨σ1, H1, J1.ofTry ok, z⟩
    | cont =>
      obtain ⟨σ1, H1, J1, z⟩ := q
      exact ⟨σ1, H1, J1.ofTry ok, z⟩
end
end PB

set_option Elab.async false
set_option linter.all false
set_option maxRecDepth 100000
set_option maxHeartbeats 4000000
namespace PB
open PySem PySem.Spec PyProof.Rows L2
/-! ### try over data by value -/
/-- in a suite: the caught exception's address, class, dict -/
abbrev Bs.at {γ ι : Type} (B : Bs γ ι) (xa : Addr × Value × Option Addr) : Bs γ ι := ⟨B.K, B.T, B.fam, B.i, xa⟩
section
variable {γ ι : Type} {B : Bs γ ι} {W : WX} {X : Cx} {pos : Pos}
theorem gt_un (n i j : Nat) (s : Sl) : gt (st (List.replicate n .un) i s) j = if j = i ∧ i < n then s else .un := by
  have rep : ∀ n j, gt (List.replicate n Sl.un) j = .un := by
    intro n
    induction n with
    | zero => intro j; rfl
    | succ n ih =>
      intro j
      rw [List.replicate_succ]
      cases j with
      | zero => rfl
      | succ j => exact ih j
  rw [gt_st, List.length_replicate, rep]
theorem gt_map (f : Sl → Sl) (hf : f .un = .un) : ∀ (e : Env) (j : Nat), gt (e.map f) j = f (gt e j)
  | [], j => hf.symm
  | s :: r, 0 => rfl
  | s :: r, j + 1 => gt_map f hf r j
/-- the suite's beginning -/
theorem Rep.suite {S : Addr → Prop} {e : Env} {g g1 : γ} {σ σ1 : L2.St} {H H1 : Hp} {n i : Nat} {x : Xn} {a : Addr} {c : Value} {d : Option Addr} (R : Rep ⟨B, S⟩ e g σ H) (kp : ∀ b o, H b = some o → ¬ Mu (⟨B, S⟩ : Act γ ι) e σ b → H1 b = some o) (gh : (B.fam B.i).I g1 H1) (ok : XOk B.T x c d H1) (hl : σ1.length = n) (hi : i < n) :
    Rep ⟨B.at (a, c, d), S⟩ (st (List.replicate n .un) i (.xc x)) g1 (σ1.set i (some (.ref a))) H1 where
  len := by rw [List.length_set, len_st, List.length_replicate, hl]
  sl := fun j => by
    rw [gt_un]
    by_cases h : j = i ∧ i < n
    · rw [if_pos h, set_at, if_pos ⟨h.1, by rw [hl]; exact h.2⟩]
      exact ⟨rfl, ok⟩
    · rw [if_neg h]
      trivial
  inj := fun j k dj dk p h1 h2 _ _ => by
    rw [gt_un] at h1
    split at h1 <;> cases h1
  nx := fun b z => by
    obtain ⟨j, ds, h1, _⟩ := z
    rw [gt_un] at h1
    split at h1 <;> cases h1
  gh := gh
  fx := R.fx
  xs := fun b z => by
    by_cases f : (B.fam B.i).F b
    · exact (B.fam B.i).stk _ _ _ gh f
    · exact (R.xs b z).same fun u q => kp b u q fun y => y.elim f fun y => R.nx b y z
theorem own_un {n i : Nat} {x : Xn} {σ : L2.St} {b : Addr} : ¬ OwnA (st (List.replicate n .un) i (.xc x)) σ b := fun ⟨j, ds, h1, _⟩ => by
  rw [gt_un] at h1
  split at h1 <;> cases h1
/-- the suite's end -/
theorem own_gone {e1 : Env} {σ2 : L2.St} {i : Nat} {b : Addr} (hl : σ2.length = e1.length) (h : OwnA ((st e1 i .un).map noX) (σ2.set i none) b) : OwnA e1 σ2 b := by
  obtain ⟨j, ds, h1, h2⟩ := h
  rw [gt_map noX rfl, gt_st] at h1
  rw [set_at] at h2
  by_cases q : j = i ∧ i < e1.length
  · rw [if_pos q] at h1
    cases h1
  · rw [if_neg q] at h1
    rw [hl, if_neg q] at h2
    refine ⟨j, ds, ?_, h2⟩
    cases k : gt e1 j with
    | own es =>
      rw [k] at h1
      exact h1
    | _ =>
      rw [k] at h1
      cases h1
theorem Rep.gone {S : Addr → Prop} {e1 : Env} {g2 : γ} {σ2 : L2.St} {H2 : Hp} {i : Nat} {xa : Addr × Value × Option Addr} (R : Rep ⟨B.at xa, S⟩ e1 g2 σ2 H2) : Rep ⟨B, S⟩ ((st e1 i .un).map noX) g2 (σ2.set i none) H2 where
  len := by rw [List.length_set, List.length_map, len_st, R.len]
  sl := fun j => by
    rw [gt_map noX rfl, gt_st, set_at, R.len]
    by_cases q : j = i ∧ i < e1.length
    · rw [if_pos q]
      trivial
    · rw [if_neg q, if_neg q]
      have sl := R.sl j
      have less : ∀ b, Om (⟨B, S⟩ : Act γ ι) ((st e1 i .un).map noX) (σ2.set i none) b → Om (⟨B.at xa, S⟩ : Act γ ι) e1 σ2 b := fun b z => z.elim .inl fun z => .inr (own_gone R.len z)
      cases k : gt e1 j with
      | un => trivial
      | dat d =>
        rw [k] at sl
        obtain ⟨v, e, a⟩ := sl
        exact ⟨v, e, a.less less⟩
      | own ds =>
        rw [k] at sl
        obtain ⟨p, xs, e, q2, a⟩ := sl
        exact ⟨p, xs, e, q2, a.less less⟩
      | xc y => trivial
      | gh y =>
        rw [k] at sl
        exact sl
  inj := fun j k dj dk p h1 h2 h3 h4 => by
    rw [gt_map noX rfl, gt_st] at h1 h2
    rw [set_at, R.len] at h3 h4
    have rd : ∀ {l dl}, noX (gt e1 l) = .own dl → gt e1 l = .own dl := fun {l dl} z => by
      cases k : gt e1 l with
      | own es =>
        rw [k] at z
        exact z
      | _ =>
        rw [k] at z
        cases z
    by_cases q1 : j = i ∧ i < e1.length
    · rw [if_pos q1] at h1
      cases h1
    · by_cases q2 : k = i ∧ i < e1.length
      · rw [if_pos q2] at h2
        cases h2
      · rw [if_neg q1] at h1 h3
        rw [if_neg q2] at h2 h4
        exact R.inj j k dj dk p (rd h1) (rd h2) h3 h4
  nx := fun b z => R.nx b (own_gone R.len z)
  gh := R.gh
  fx := R.fx
  xs := R.xs
/-- a suite, seen from the try's beginning -/
theorem suite_go {S : Addr → Prop} {e : Env} {g g1 : γ} {σ σ1 : L2.St} {H H1 : Hp} {n i : Nat} {x : Xn} {a : Addr} {c : Value} {d : Option Addr} {m : MS γ} {Dd : Ends} (R : Rep ⟨B, S⟩ e g σ H) (kp : ∀ b o, H b = some o → ¬ Mu (⟨B, S⟩ : Act γ ι) e σ b → H1 b = some o) (gh : (B.fam B.i).I g1 H1) (ok : XOk B.T x c d H1) (hl : σ1.length = n) (hi : i < n)
    (h : RSK ⟨B, S⟩ W e σ H (match m (st (List.replicate n .un) i (.xc x)) g1 with
      | .ok (.nx e1) g2 => .ok (.nx ((st e1 i .un).map noX)) g2
      | .ok (.rt r) g2 => .ok (.rt r) g2
      | _ => .no) Dd) : RS (B.at (a, c, d)) W0 m (gone i Dd) (σ1.set i (some (.ref a))) H1 := by
  have R1 := R.suite (a := a) kp gh ok hl hi
  refine ⟨S, _, g1, R1, ?_⟩
  have new : ∀ p, H1 p = none → OwnA e σ p ∨ H p = none := fun p z => by
    cases q : H p with
    | none => exact .inr rfl
    | some o =>
      by_cases f : (B.fam B.i).F p
      · exact absurd z ((B.fam B.i).trk _ _ _ gh f)
      · by_cases w : OwnA e σ p
        · exact .inl w
        · have := kp p o q fun y => y.elim f w
          rw [z] at this
          cases this
  have mu1 : ∀ b, ¬ Mu (⟨B, S⟩ : Act γ ι) e σ b → ¬ Mu (⟨B.at (a, c, d), S⟩ : Act γ ι) (st (List.replicate n .un) i (.xc x)) (σ1.set i (some (.ref a))) b := fun b z y => y.elim (fun y => z (.inl y)) own_un
  cases km : m (st (List.replicate n .un) i (.xc x)) g1 with
  | no =>
    rw [km] at h
    exact h
  | ex y g2 =>
    rw [km] at h
    exact h.elim
  | ok f g2 =>
    rw [km] at h
    cases f with
    | bk e1 => exact h.elim
    | ct e1 => exact h.elim
    | nx e1 =>
      intro σ2 H2 R2 s2
      refine h (σ2.set i none) H2 R2.gone ⟨fun b o q z => s2.keep b o (kp b o q z) (mu1 b z), fun b z => ?_⟩
      rcases s2.mu b (own_gone R2.len z) with y | y
      · exact absurd y own_un
      · exact new b y
    | rt r =>
      intro v H2 k2 i2 vr
      refine h v H2 (fun b o q z => k2 b o (kp b o q z) (mu1 b z)) i2 ?_
      unfold VRet at vr ⊢
      cases kr : r.ret with
      | dat dd =>
        rw [kr] at vr
        exact vr
      | own es =>
        rw [kr] at vr
        obtain ⟨p, xs, e1, h0, z1, z2, z3⟩ := vr
        exact ⟨p, xs, e1, h0.elim (fun y => absurd y own_un) (new p), z1, z2, z3⟩
      | bor es =>
        rw [kr] at vr
        exact vr.elim
/-- a clause: the class it names, the numbers of the classes that it takes among al, its suite -/
inductive Hds (B : Bs γ ι) (X : Cx) (al : List Nat) (nm : Str) : List ExceptHandler → List (List Nat × MS γ) → Prop
  | nil : Hds B X al nm [] []
  | cons {y : Str} {k : Value} {cs : List Nat} {m : MS γ} {s0 : Stmt} {ss : List Stmt} {q1 q2 : Pos} {rest : List ExceptHandler} {more : List (List Nat × MS γ)} (hk : Names X y k) (hx : ∀ z ∈ al, PySem.W.exmOne X.K (B.T.cl z) k = some (cs.contains z))
      (hu : ∀ (x : Addr) (ox : Obj) (cls : Value) (d : Option Addr) (pn : List (Addr × Obj)), Zc cls d ox → (∃ fs, ox.data = .fields fs) → PSs (X.suite x ((x, ox) :: pn)) (s0 :: ss) (RS (B.at (x, cls, d)) W0 m)) (hm : Hds B X al nm rest more) :
      Hds B X al nm (.ExceptHandler (some (.Name y q1)) (some nm) (s0 :: ss) q2 :: rest) ((cs, m) :: more)
theorem pb_try {nm : Str} {n i : Nat} {al : List Nat} {sts : List Stmt} {c0 : ExceptHandler} {cs : List ExceptHandler} {mb : MS γ} {hs : List (List Nat × MS γ)} (hn : X.N.length = n) (hin : i < n) (h1 : X.stack = X.env :: X.outer) (h2 : X.env.frame = some X.env.locals) (hN : X.N.Nodup) (hi : X.N[i]? = some nm) (hl : X.env.kindOf nm = some .local) (tk : Takes X W)
    (body : ∀ (W1 : WX) (pn : List (Addr × Obj)) (xe : Value → Shared → Prop), Takes (X.tr pn xe) W1 → PassesOwn (model X.prog X.w) X.A X.env xe → PSs (X.tr pn xe) sts (RS B W1 mb))
    (C : Hds B X al nm (c0 :: cs) hs) : PS X (.Try sts (c0 :: cs) [] [] pos) (RS B W (mTry al n mb i hs)) := by
  subst hn
  obtain ⟨us, cl, wish⟩ : ∃ us, Clauses X nm (c0 :: cs) us ∧ ∀ (S : Addr → Prop) (e : Env) (g g1 : γ) (σ σ1 : L2.St) (H H1 : Hp) (x : Xn) (c : Value) (d : Option Addr) (Dd : Ends), Rep ⟨B, S⟩ e g σ H → (∀ b o, H b = some o → ¬ Mu (⟨B, S⟩ : Act γ ι) e σ b → H1 b = some o) → (B.fam B.i).I g1 H1 → XOk B.T x c d H1 → al.contains x.cls = true →
      RSK ⟨B, S⟩ W e σ H (match hs.find? (fun h => h.1.contains x.cls) with
        | none => .ex x g1
        | some h => match h.2 (st (List.replicate X.N.length .un) i (.xc x)) g1 with
          | .ok (.nx e1) g2 => .ok (.nx ((st e1 i .un).map noX)) g2
          | .ok (.rt r) g2 => .ok (.rt r) g2
          | _ => .no) Dd → wCl X.K X.N.length i W Dd us c d σ1 H1 := by
    clear body
    generalize c0 :: cs = hd at C
    induction C with
    | nil => exact ⟨[], .nil, fun S e g g1 σ σ1 H H1 x c d Dd R kp gh ok _ h => h c d σ1 H1 kp gh ok⟩
    | @cons y k cs m s0 ss q1 q2 rest more hk hx hu hm ih =>
      obtain ⟨us, cl, wish⟩ := ih
      refine ⟨(k, fun x cls d => RS (B.at (x, cls, d)) W0 m) :: us, .cons hk hu cl, fun S e g g1 σ σ1 H H1 x c d Dd R kp gh ok ha h => ?_⟩
      have hx1 := hx x.cls (by simpa using ha)
      have ec : c = B.T.cl x.cls := ok.1
      rw [← ec] at hx1
      refine ⟨_, hx1, fun hy a na hl1 => ?_, fun hno => ?_⟩
      · rw [List.find?_cons, show (cs, m).fst.contains x.cls = true from hy] at h
        exact suite_go R kp gh ok hl1 hin h
      · rw [List.find?_cons, show (cs, m).fst.contains x.cls = false from hno] at h
        exact wish S e g g1 σ σ1 H H1 x c d Dd R kp gh ok ha h
  refine ps_w (ps_clauses (us := us) h1 h2 hN hi hl tk body cl) fun Dd σ H ⟨S, e, g, R, h⟩ => ?_
  refine ⟨S, e, g, R, ?_⟩
  unfold mTry at h
  cases km : mb e g with
  | no =>
    rw [km] at h
    exact h
  | ok f g1 =>
    rw [km] at h
    cases f <;> exact h
  | ex x g1 =>
    rw [km] at h
    intro c od σ1 H1 kp i1 ok
    have h' : RSK ⟨B, S⟩ W e σ H (if al.contains x.cls = true then _ else .no) Dd := h
    by_cases ha : al.contains x.cls = true
    · rw [if_pos ha] at h'
      exact wish S e g g1 σ σ1 H H1 x c od Dd R kp i1 ok ha h'
    · rw [if_neg ha] at h'
      exact h'.elim
end
end PB

set_option Elab.async false
set_option linter.all false
set_option maxRecDepth 100000
set_option maxHeartbeats 4000000
namespace PB
open PySem PySem.Spec PyProof.Rows L2
/-! ### defs that are handed a caught exception -/
section
variable {γ ι : Type}
/-- such a def, called in a suite -/
structure FnK (P : Program) (w : World) (K : Frag) (mg : Str → Option Value) (base : Heap) (T : XT) (fam : ι → Gho γ) (k : Nat) (f : Addr) (fd : FuncData) (ps : List Str) (F : MX γ) : Prop where
  len : ps.length = 1
  run : ∀ (A : Around) (outer : List PySem.Env) (s : Shared) (H : Hp) (args : Args) (us : List Value) (Q : VK) (a : Addr) (ox : Obj) (c : Value) (d : Option Addr) (x : Xn) (i : ι) (S : Addr → Prop) (g : γ), L2H.RoomH k A → L2H.PinOk outer H s (a, ox) → Zc c d ox → (∃ fs, ox.data = .fields fs) → Env0 P w K mg base A outer s H →
    BindsTo s fd args (ps.zip us) → Vals [.ref a] us → (∀ b, (fam i).F b → S b) → (∀ b, S b → Stk (H b)) → XOk T x c d H → (fam i).I g H →
    (match F x g with
      | .ok r g' => ∀ v H', (∀ b o, H b = some o → ¬ (fam i).F b → H' b = some o) → (fam i).I g' H' → FRet K S H H' r v → Q v H'
      | _ => False) → codeAny (model P w) A (.call (.ref f) args) (CR CX0 outer P w H s Q E0) s
end
section
variable {γ ι : Type} {P : Program} {w : World} {K : Frag} {mg : Str → Option Value} {base : Heap} {Tx : XT} {fam : ι → Gho γ}
theorem fnk_pb {x qual : Str} {sm : Stmt} {f : Addr} {fd : FuncData} {N : List Str} {y : Str} {k : Nat} (m : MS γ) (n : Nat) (F : Fun K x qual sm f fd) (Sc : FnScope N [y] (defScope sm)) (hn : N.length = n + 1)
    (hb : ∀ (i : ι) (cdv : Value) (A : Around) (outer : List PySem.Env) (s : Shared) (H : Hp) (a : Addr) (ox : Obj) (c : Value) (d : Option Addr), L2H.RoomH k (A.deeper (envOfC qual (defScope sm) s.heap.objs.size f cdv)) → Zc c d ox → (∃ fs, ox.data = .fields fs) →
      PSs (L2H.cxH CX0 P w K mg base N qual (defScope sm) f cdv A outer s H E0 (a, ox)).nox (defBody sm) (RS ⟨K, Tx, fam, i, (a, c, d)⟩ W0 m)) :
    FnK P w K mg base Tx fam (k + 1) f fd [y] (mDefX n m) := by
  obtain ⟨oc, od, kV, doc, pm, an, cdv, ct, osl, rfl, lk, hcd⟩ := F.ex
  refine ⟨rfl, fun A outer s H args us Q a ox c d xx i S g hr hpin hz hf e0 hbi r fx xs ok gh hq => ?_⟩
  have KX : K.In s.heap := e0.mod.kin.keeps fun b o z => (e0.bs b o z).1
  have lim : s.heap.NoLimit := e0.mod.nolimit.keeps fun b o z => (e0.bs b o z).1
  have knd : ∀ z ∈ [y].zip us, (defScope sm).names.lookup z.1 = some .local ∨ ((defScope sm).names.lookup z.1 = some .cell ∧ ((cellsFrom (s.heap.objs.size + 1) (defScope sm).names []).lookup z.1).isSome = true) := fun ⟨z, v⟩ hz' => by
    rcases Sc.par z (List.of_mem_zip hz').1 with q | q
    · exact .inl q
    · exact .inr ⟨q, PySem.W.cellsFrom_some _ _ _ (.inl q)⟩
  refine codeAny_call_function hr.depth (KX _ _ lk) rfl Sc.co Sc.gen rfl (PySem.W.codeRec_of KX hcd) (hbi _ _ _ _ ?_)
  refine wpAny_newFunctionEnv_cells Sc.kind knd fun env he s1 start => ?_
  subst he
  refine ⟨lim.keeps start.toInCall.keep, codeAny_func ?_⟩
  have hl : ([V.ref a] : List V).length = [y].length := rfl
  have I : Inv (L2H.cxH CX0 P w K mg base N qual (defScope sm) f cdv A outer s H E0 (a, ox)) [] (L2.start N [.ref a]) H s1 := L2H.inv_startH Sc hpin e0 hl r start
  have es : L2.start N [V.ref a] = (List.replicate N.length none).set 0 (some (V.ref a)) := by
    unfold L2.start
    rw [hn]
    rfl
  have ee : (Sl.xc xx :: List.replicate n .un) = PB.st (List.replicate (n + 1) .un) 0 (.xc xx) := rfl
  have R : Rep (⟨⟨K, Tx, fam, i, (a, c, d)⟩, S⟩ : Act γ ι) (Sl.xc xx :: List.replicate n .un) g (L2.start N [.ref a]) H := by
    rw [es, ee]
    exact {
      len := by rw [List.length_set, len_st, List.length_replicate, List.length_replicate, hn]
      sl := fun j => by
        rw [gt_un, set_at, List.length_replicate, hn]
        by_cases h : j = 0 ∧ 0 < n + 1
        · rw [if_pos h, if_pos h]
          exact ⟨rfl, ok⟩
        · rw [if_neg h]
          trivial
      inj := fun j k dj dk p h1 _ _ _ => by
        rw [gt_un] at h1
        split at h1 <;> cases h1
      nx := fun b z => absurd z own_un
      gh := gh
      fx := fx
      xs := xs }
  have nown : ∀ b, ¬ OwnA (Sl.xc xx :: List.replicate n .un) (L2.start N [.ref a]) b := fun b => by
    rw [ee]
    exact own_un
  have nmu : ∀ b, ¬ (fam i).F b → ¬ Mu (⟨⟨K, Tx, fam, i, (a, c, d)⟩, S⟩ : Act γ ι) (Sl.xc xx :: List.replicate n .un) (L2.start N [.ref a]) b := fun b z y => y.elim z (nown b)
  have body : RSK (⟨⟨K, Tx, fam, i, (a, c, d)⟩, S⟩ : Act γ ι) W0 (Sl.xc xx :: List.replicate n .un) (L2.start N [.ref a]) H (m (Sl.xc xx :: List.replicate n .un) g) { nx := fun _ H' => Q .non H', rt := Q } := by
    unfold mDefX at hq
    cases km : m (Sl.xc xx :: List.replicate n .un) g with
    | no =>
      rw [km] at hq
      exact hq
    | ex z g1 =>
      rw [km] at hq
      exact hq.elim
    | ok fl g1 =>
      rw [km] at hq
      cases fl with
      | nx e' => exact fun σ' H' R' s' => hq .non H' (fun b o q z => s'.keep b o q (nmu b z)) R'.gh .non
      | bk e' => exact hq.elim
      | ct e' => exact hq.elim
      | rt r =>
        intro v H' kp i' vr
        refine hq v H' (fun b o q z => kp b o q (nmu b z)) i' ?_
        unfold VRet at vr
        show FRet K S H H' r.ret v
        cases kr : r.ret with
        | dat dd =>
          rw [kr] at vr
          exact vr
        | own es =>
          rw [kr] at vr
          obtain ⟨p, ys, e1, h0, _, k1, a1⟩ := vr
          exact ⟨p, ys, e1, h0.elim (fun z => absurd z (nown p)) id, k1, a1⟩
        | bor es =>
          rw [kr] at vr
          exact vr.elim
  have ht := (hb i cdv A outer s H a ox c d (hr.deeper _) hz hf).nox
  refine wpAny_mono (ht.run [] s1 (L2.start N [.ref a]) H _ I ⟨S, _, g, R, body⟩) (fun fl s' hs => ?_) fun _ _ hs => hs
  have fin : ∀ {σ' : L2.St} {H' : Hp} {v : V} {u : Value}, Inv (L2H.cxH CX0 P w K mg base N qual (defScope sm) f cdv A outer s H E0 (a, ox)) [] σ' H' s' → RelV v u → Q v H' → CE outer P w H s Q u s' :=
    fun {σ' H' v u} J rv q => ⟨v, H', J.os, J.bare, J.base, J.hok, rv, q⟩
  cases fl with
  | ret u =>
    obtain ⟨v, σ', H', J, rv, q⟩ := hs
    exact fin J rv q
  | next =>
    obtain ⟨σ', H', J, q⟩ := hs
    exact fin (v := V.non) (u := Value.none) J rfl q
  | brk =>
    obtain ⟨_, _, _, q⟩ := hs
    exact q.elim
  | cont =>
    obtain ⟨_, _, _, q⟩ := hs
    exact q.elim
end
/-! ### isinstance of it, its field, its hand-over -/
def rIsK (K : Frag) (a : Addr) (c : Value) (d : Option Addr) : List V → Hp → VK → Prop := fun xs H Q => ∃ (D : Addr) (k : V) (kv : Value) (b : Bool), c = .ref D ∧ L2.ExcC K D ∧ xs = [.ref a, k] ∧ (∀ u, RelV k u → u = kv) ∧ PySem.W.kitOne K (.ref D) kv = some b ∧ (∀ p, d = some p → ∃ fs, H p = some (.xd fs)) ∧ Q (.bl b) H
theorem call_isK {X : Cx} {a : Addr} {ox : Obj} {c : Value} {d : Option Addr} (hp : (a, ox) ∈ X.pn) (hz : Zc c d ox) (hf : ∃ fs, ox.data = .fields fs) : CallR X (.builtin "isinstance") (rIsK X.K a c d) := by
  intro pins s σ H xs us Q I r h
  obtain ⟨D, k, kv, b, rfl, C, rfl, hk, e, hd, q⟩ := h
  cases r with
  | cons ra rr =>
    cases rr with
    | cons rk rr =>
      cases rr
      cases ra
      have ek := hk _ rk
      subst ek
      obtain ⟨hget, _⟩ := I.pin (a, ox) (List.mem_append_left _ hp)
      obtain ⟨fs, hv⟩ := hf
      have J : ∃ od, PySem.W.InstAt s.heap a ox D od := by
        obtain ⟨oc, o2, oda, osl⟩ := ox
        obtain ⟨z1, z2⟩ := hz
        dsimp only at z1 z2 hv
        subst z1 z2 hv
        cases o2 with
        | none => exact ⟨none, hget, rfl, rfl, trivial⟩
        | some p =>
          obtain ⟨gs, hg⟩ := hd p rfl
          obtain ⟨mA, hns, _⟩ := (I.hok p _ hg : ObjOk X.prog X.w H s.heap p (.xd gs))
          obtain ⟨ob, hob, _⟩ := lookIn_ns hns
          exact ⟨some ob, hget, rfl, rfl, hob⟩
      obtain ⟨od, J⟩ := J
      have hcl : (PySem.W.clsIn X.K D).isSome = true := by
        obtain ⟨cd, hcd, _⟩ := PySem.W.any_some C.hd
        rw [hcd]
        rfl
      exact PySem.W.kia_one (PySem.W.kitx_exc hcl C.hg C.hk C.hs C.ha C.hn C.ht C.hm) I.kIn J e (fun z => nomatch z) fun tk => ⟨.bl b, H, I.kept (t' := tk) fun _ _ z => z, rfl, q⟩
section
variable {γ ι : Type} {B : Bs γ ι} {W : WX} {X : Cx} {pos : Pos}
/-- isinstance(x, T): T an expression that is a class -/
theorem pb_isX {i : Nat} {x : Str} {al cs : List Nat} {tv : V} {tu : Value} {te : Expr} {a : Addr} {ox : Obj} {c : Value} {d : Option Addr} {p p2 : Pos} (hB : B.xa = (a, c, d)) (hp : (a, ox) ∈ X.pn) (hz : Zc c d ox) (hf : ∃ fs, ox.data = .fields fs) (hN : X.N[i]? = some x) (hg : Gl X "isinstance") (hm : X.mg "isinstance" = none)
    (ht : PE X te (tC tv)) (hr : ∀ u, RelV tv u → u = tu) (hC : ∀ n ∈ al, ∃ D, B.T.cl n = .ref D ∧ L2.ExcC X.K D ∧ PySem.W.kitOne X.K (.ref D) tu = some (cs.contains n))
    (hv : Vis X.env.scope x := by first | exact Or.inl rfl | exact Or.inr (Or.inl rfl)) (hdb : (x == ("__debug__" : Str)) = false := by decide) (hcd : (x == ("__classdict__" : Str)) = false := by decide)
    (hs : starEach [.Name x p2, te] X.env = (false, eval (.Name x p2) X.env) :: starEach [te] X.env := by rfl) (hs2 : starEach [te] X.env = (false, eval te X.env) :: starEach [] X.env := by rfl) (hpl : (backTo pos (starEach [te] X.env)).any (·.1) = false := by rfl) :
    PE X (.Call (.Name "isinstance" p) [.Name x p2, te] [] pos) (RE B W (mIsX al cs i)) := by
  refine pe_w (pe_callB (call_isK hp hz hf) hg hm (by decide +kernel) (pa_cons (pe_var hN hv hdb hcd) (pa_cons ht pa_nil hs2) hs) (by decide) (by decide) hs hpl) fun σ H Q ⟨S, e, g, R, h⟩ => ?_
  unfold mIsX at h
  split at h
  · rename_i y hy
    split at h
    · rename_i ha
      have sl := R.sl i
      rw [hy] at sl
      obtain ⟨s1, ok⟩ := sl
      have s1 : σ[i]? = some (some (.ref B.xa.1)) := s1
      have ok : XOk B.T y B.xa.2.1 B.xa.2.2 H := ok
      rw [hB] at s1 ok
      obtain ⟨D, e1, C, e2⟩ := hC y.cls (by simpa using ha)
      have ec : c = .ref D := ok.1.trans e1
      refine ⟨.ref a, s1, D, tv, tu, _, ec, C, rfl, hr, e2, fun q hq => ?_, h _ H (.refl H) R.gh (.bl _)⟩
      have ok2 := ok.2
      cases hfl : y.fld with
      | none =>
        rw [hfl] at ok2
        have : d = none := ok2
        rw [this] at hq
        cases hq
      | some dd =>
        rw [hfl] at ok2
        obtain ⟨q2, v, e3, e4, _⟩ := ok2
        have : d = some q2 := e3
        rw [this] at hq
        cases hq
        exact ⟨_, e4⟩
    · exact h.elim
  · exact h.elim
/-- x.f -/
theorem pb_xf {i n : Nat} {x f : Str} {C a : Addr} {ox : Obj} {c : Value} {d : Option Addr} {pn : List (Addr × Obj)} {p2 : Pos} (E : XfC X.K C) (hno : PySem.W.findIn X.K (.ref C) f = some none) (hB : B.xa = (a, c, d)) (hn : B.T.cl n = .ref C) (hf' : B.T.fn n = f) (hz : Zc c d ox) (hf : ∃ fs, ox.data = .fields fs) (hN : X.N[i]? = some x)
    (hv : Vis X.env.scope x := by first | exact Or.inl rfl | exact Or.inr (Or.inl rfl)) (hdb : (x == ("__debug__" : Str)) = false := by decide) (hcd : (x == ("__classdict__" : Str)) = false := by decide) (hb : attributeBase (.Name x p2) f X.env (eval (.Name x p2) X.env) = eval (.Name x p2) X.env := by rfl) :
    PE (X.suite a ((a, ox) :: pn)) (.Attribute (.Name x p2) f pos) (RE B W (mXf n i)) := by
  refine pe_w (pe_xf E hno hz hf (pe_var (X := X.suite a ((a, ox) :: pn)) hN hv hdb hcd) hb) fun σ H Q ⟨S, e, g, R, h⟩ => ?_
  unfold mXf at h
  split at h
  · rename_i y hy
    have sl := R.sl i
    rw [hy] at sl
    obtain ⟨s1, ok⟩ := sl
    have s1 : σ[i]? = some (some (.ref B.xa.1)) := s1
    have ok : XOk B.T y B.xa.2.1 B.xa.2.2 H := ok
    rw [hB] at s1 ok
    have ok2 := ok.2
    split at h
    · rename_i dd hfl
      split at h
      · rename_i hc
        rw [hfl] at ok2
        obtain ⟨q, v, e3, e4, sv⟩ := ok2
        have e4 : H q = some (.xd [(B.T.fn y.cls, v)]) := e4
        rw [hc, hf'] at e4
        refine ⟨.ref a, s1, rfl, ok.1.trans (by rw [hc, hn]), q, _, v, e3, e4, by simp [List.lookup], h v H (.refl H) R.gh sv.at⟩
      · exact h.elim
    · exact h.elim
  · exact h.elim
/-- f(x) -/
theorem pb_callK {i k : Nat} {f : Addr} {fd : FuncData} {ps : List Str} {F : MX γ} {fx x : Str} {a : Addr} {ox : Obj} {c : Value} {d : Option Addr} {pn : List (Addr × Obj)} {pz p2 : Pos} (G : FnK X.prog X.w X.K X.mg X.base B.T B.fam k f fd ps F) (hK : B.K = X.K) (hB : B.xa = (a, c, d)) (hz : Zc c d ox) (hf : ∃ fs, ox.data = .fields fs) (hr : Room k X.A) (hg : Gl X fx) (hm : X.mg fx = some (.ref f)) (hk : PySem.W.keepIn X.K (.ref f) = true) (hbi : Binds X.K fd ps []) (hN : X.N[i]? = some x)
    (hv : Vis X.env.scope x := by first | exact Or.inl rfl | exact Or.inr (Or.inl rfl)) (hdb : (x == ("__debug__" : Str)) = false := by decide) (hcd : (x == ("__classdict__" : Str)) = false := by decide) (hdf : (fx == ("__debug__" : Str)) = false := by decide)
    (he : starEach [.Name x p2] X.env = (false, eval (.Name x p2) X.env) :: starEach [] X.env := by rfl) (hpl : (backTo pos (starEach [] X.env)).any (·.1) = false := by rfl) :
    PE (X.suite a ((a, ox) :: pn)) (.Call (.Name fx pz) [.Name x p2] [] pos) (RE B W (mCallK F i)) := by
  refine ⟨fun pins s σ H Q I ⟨S, e, g, R, h⟩ => ?_⟩
  unfold mCallK at h
  split at h
  · rename_i y hy
    have sl := R.sl i
    rw [hy] at sl
    obtain ⟨s1, ok⟩ := sl
    have s1 : σ[i]? = some (some (.ref B.xa.1)) := s1
    have ok : XOk B.T y B.xa.2.1 B.xa.2.2 H := ok
    rw [hB] at s1 ok
    have av : PA (X.suite a ((a, ox) :: pn)) [.Name x p2] (tCons (tVar i) tNil) := pa_cons (pe_var (X := X.suite a ((a, ox) :: pn)) hN hv hdb hcd) pa_nil he
    refine wpAny_Call_Name_kw (ld_glob (X := X.suite a ((a, ox) :: pn)) I hg hm ?_ hdf)
    refine PySem.W.callWith_K (h₀ := X.base) I.ok.mod.kin hk (thn (av.run pos pins s σ H (fun vs H1 => vs = [V.ref a] ∧ H1 = H) I ⟨.ref a, s1, rfl, rfl⟩) fun us s2 ⟨vs, H2, I2, r, ev, eH⟩ => ⟨I2.kIn, ?_⟩) he hpl
    subst ev eH
    have hl : us.length = ps.length := by rw [← r.length, G.len]; rfl
    have bi := hbi s2 us I2.kIn (by rw [List.append_nil]; exact hl)
    rw [List.append_nil] at bi
    have P1 := I2.pin (a, ox) (List.mem_append_left _ List.mem_cons_self)
    have hpin : L2H.PinOk (X.suite a ((a, ox) :: pn)).stack H2 s2 (a, ox) := ⟨P1.1, P1.2.1, fun hm => (List.mem_cons.mp (I2.stkSub a hm)).elim P1.2.2.1 P1.2.2.2.1, P1.2.2.2.2⟩
    refine wpAny_call (codeAny_mono (G.run (X.suite a ((a, ox) :: pn)).A (X.suite a ((a, ox) :: pn)).stack s2 H2 ⟨us, []⟩ us Q a ox c d y B.i (Om ⟨B, S⟩ e σ) g ⟨hr.dp, hr.un⟩ hpin hz hf I2.env0 bi r (fun b z => .inl (R.fx b z)) (fun b z => R.oms z) ok R.gh ?_) fun r2 s3 hq => ?_)
    · cases kf : F y g with
      | ok r g2 =>
        rw [kf] at h
        intro v H' x' i' o'
        refine h v H' x' i' ?_
        have o2 : FRet B.K (Om ⟨B, S⟩ e σ) H2 H' r v := by rw [hK]; exact o'
        exact fret_vok R (.refl H2) R.gh o2
      | ex z g2 =>
        rw [kf] at h
        exact h.elim
      | no =>
        rw [kf] at h
        exact h.elim
    · cases r2 with
      | error er => exact hq.elim
      | ok fl =>
        cases fl with
        | ret u => exact I2.after hq
        | next => exact hq.elim
        | brk => exact hq.elim
        | cont => exact hq.elim
  · exact h.elim
end
end PB

set_option Elab.async false
set_option linter.all false
set_option maxRecDepth 100000
set_option maxHeartbeats 4000000
namespace PB
open PySem PySem.Spec PyProof.Rows L2
/-! ### the classes of refusals by number; what the head must tell of them -/
def exName : Nat → Str
  | 0 => "BendError" | 1 => "NoWord" | 2 => "NoText" | 3 => "NoFraction" | 4 => "NoPrice" | 5 => "NoPoint" | 6 => "NotLeast" | 7 => "NoLine" | 8 => "NothingDone"
  | 9 => "NotOn" | 10 => "TooLong" | 11 => "TooMany" | 12 => "NoNumber" | _ => "NoName"
def exFld : Nat → Str
  | 9 => "word" | 10 => "letters" | 11 => "many" | 12 => "number" | _ => "name"
def exT (K : Frag) : XT := ⟨fun n => .ref (He.ga K (exName n)), exFld⟩
def clsAt (K : Frag) (x : Str) : Bool := He.eqO (PySem.W.nsIn K mainGlobals x) (some (some (.ref (He.ga K x))))
theorem clsAt_ok {K : Frag} {h : Heap} {mg : Str → Option Value} (X : K.In h) (G : h.Ns mainGlobals mg) {x : Str} (c : clsAt K x = true) : mg x = some (.ref (He.ga K x)) := PySem.W.mg_of X G (He.eqO_ok c)
def exnB (K : Frag) (x : Str) : Bool := clsAt K x && (PySem.W.excIn K (He.ga K x) He.veBase "ValueError.__new__" && (PySem.W.keepIn K (.ref (He.ga K x)) && (decide (PySem.W.subIn K (.ref (He.ga K x)) (.type "BaseException") = some true) && decide (PySem.W.typeIn K (.ref (He.ga K x)) = some (.type "type")))))
theorem exnB_ok {K : Frag} {h : Heap} {mg : Str → Option Value} (X : K.In h) (G : h.Ns mainGlobals mg) {x : Str} (c : exnB K x = true) : ExN K mg x (He.ga K x) := by
  unfold exnB at c
  simp only [Bool.and_eq_true, decide_eq_true_eq] at c
  exact ⟨clsAt_ok X G c.1, c.2.1, c.2.2.1, c.2.2.2.1, c.2.2.2.2⟩
/-- the object of a class of exceptions -/
def oexO (C : Addr) (o : Obj) : Bool := match o with
  | ⟨.type t, _, .cls cd, sl⟩ => (match cd.mro, sl.toList with
    | .ref D :: bm, [_, _, _, _, some (.builtin n), _] => decide (t = "type") && (decide (D = C) && (decide (n = "ValueError.__new__") && (!cd.hasDel && (cd.hasDict && PySem.HandSPX.refsVE bm))))
    | _, _ => false)
  | _ => false
theorem oexO_ok {C : Addr} {o : Obj} (h : oexO C o = true) : ∃ nm q N bs bm sn sub ab col dd k0 k1 k2 k3 k5, o = excClassObj nm q C N bs bm true sn sub ab col dd k0 k1 k2 k3 k5 "ValueError.__new__" ∧ PySem.HandSPX.refsVE bm = true := by
  unfold oexO at h
  split at h
  · rename_i t dd cd sl
    split at h
    · rename_i D bm k0 k1 k2 k3 n k5 hm hs
      simp only [Bool.and_eq_true, decide_eq_true_eq, Bool.not_eq_true'] at h
      obtain ⟨rfl, rfl, rfl, h1, h2, h3⟩ := h
      obtain ⟨nm, bs, mro, ns, qn, hd, sn, sub, ab, col, del⟩ := cd
      dsimp only at hm h1 h2
      subst hm h1 h2
      have hsl : sl = #[k0, k1, k2, k3, some (.builtin "ValueError.__new__"), k5] := by
        obtain ⟨l⟩ := sl
        simp only at hs
        rw [hs]
      subst hsl
      exact ⟨nm, qn, ns, bs, bm, sn, sub, ab, col, dd, k0, k1, k2, k3, k5, rfl, h3⟩
    · cases h
  · cases h
def exfB (K : Frag) (x f : Str) : Bool := clsAt K x && ((match K.lookup (He.ga K x) with | some o => oexO (He.ga K x) o | none => false) && (decide (PySem.W.findIn K (.ref (He.ga K x)) "__setattr__" = some (some (.builtin "object.__setattr__"))) && (decide (PySem.W.subIn K (.ref (He.ga K x)) (.type "BaseException") = some true) &&
  (decide (PySem.W.typeIn K (.ref (He.ga K x)) = some (.type "type")) && (PySem.W.keepIn K (.ref (He.ga K x)) && (decide (PySem.W.findIn K (.ref (He.ga K x)) f = some none) && (decide (PySem.W.findIn K (.ref (He.ga K x)) "__init__" = some (some (.ref (He.ma K (He.ga K x) "__init__")))) && decide (PySem.W.typeIn K (.ref (He.ma K (He.ga K x) "__init__")) = some (.type "function")))))))))
theorem exfB_ok {K : Frag} {h : Heap} {mg : Str → Option Value} (X : K.In h) (G : h.Ns mainGlobals mg) {x f : Str} {fd : FuncData} {ps : List Str} (b : Binds K fd ps []) (c : exfB K x f = true) : ExF K mg x f (He.ga K x) (He.ma K (He.ga K x) "__init__") fd ps := by
  unfold exfB at c
  simp only [Bool.and_eq_true, decide_eq_true_eq] at c
  obtain ⟨c1, c2, c3, c4, c5, c6, c7, c8, c9⟩ := c
  have cl : ∃ nm q N bs bm sn sub ab col dd k0 k1 k2 k3 k5, K.lookup (He.ga K x) = some (excClassObj nm q (He.ga K x) N bs bm true sn sub ab col dd k0 k1 k2 k3 k5 "ValueError.__new__") ∧ PySem.HandSPX.refsVE bm = true := by
    split at c2
    · rename_i o ho
      obtain ⟨nm, q, N, bs, bm, sn, sub, ab, col, dd, k0, k1, k2, k3, k5, e, r⟩ := oexO_ok c2
      exact ⟨nm, q, N, bs, bm, sn, sub, ab, col, dd, k0, k1, k2, k3, k5, by rw [ho, e], r⟩
    · cases c2
  exact ⟨clsAt_ok X G c1, ⟨cl, c3, c4, c5, c6⟩, c7, c8, c9, b⟩
def exbB (K : Frag) (x : Str) : Bool := clsAt K x && (PySem.W.readsIn K (He.ga K x) (.type "type") && (decide (PySem.W.specialIn K (.ref (He.ga K x)) "__getattribute__" = some (some (.builtin "type.__getattribute__"))) && (match PySem.W.findCls K (.ref (He.ga K x)) (.type "type") "__init__" with
  | some (.val (.builtin n)) => decide (n = "ValueError.__init__")
  | _ => false)))
theorem exbB_ok {K : Frag} {h : Heap} {mg : Str → Option Value} (X : K.In h) (G : h.Ns mainGlobals mg) {x : Str} (c : exbB K x = true) : ExB K mg x (He.ga K x) := by
  unfold exbB at c
  simp only [Bool.and_eq_true, decide_eq_true_eq] at c
  obtain ⟨c1, c2, c3, c4⟩ := c
  refine ⟨clsAt_ok X G c1, c2, c3, ?_⟩
  split at c4
  · rename_i n e
    rw [e, of_decide_eq_true c4]
  · cases c4
def excB (K : Frag) (C : Addr) : Bool := decide (PySem.W.findIn K (.ref C) "__getattribute__" = some (some (.builtin "BaseException.__getattribute__"))) && (decide (PySem.W.findIn K (.ref C) "__getattr__" = some none) && (decide (PySem.W.subIn K (.ref C) (.type "BaseException") = some true) && (PySem.W.hasDictIn K C &&
  (decide (PySem.W.findIn K (.ref C) "__class__" = some (some (.builtin "object.__class__"))) && (decide (PySem.W.specialIn K (.builtin "object.__class__") "__get__" = some (some (.builtin "getset_descriptor.__get__"))) && (decide (PySem.W.takesIn K (.builtin "object.__class__") = some true) && decide (PySem.W.mroIn K C (.type "object") = some true)))))))
theorem excB_ok {K : Frag} {C : Addr} (c : excB K C = true) : L2.ExcC K C := by
  unfold excB at c
  simp only [Bool.and_eq_true, decide_eq_true_eq] at c
  obtain ⟨c1, c2, c3, c4, c5, c6, c7, c8⟩ := c
  exact ⟨c1, c2, c3, c4, c5, c6, c7, c8⟩
/-- a clause's class: which of al it takes -/
def exmB (K : Frag) (al cs : List Nat) (y : Str) : Bool := clsAt K y && al.all fun z => decide (PySem.W.exmOne K ((exT K).cl z) (.ref (He.ga K y)) = some (cs.contains z))
structure ExM (K : Frag) (mg : Str → Option Value) (al cs : List Nat) (y : Str) (C : Addr) : Prop where
  g : mg y = some (.ref C)
  x : ∀ z ∈ al, PySem.W.exmOne K ((exT K).cl z) (.ref C) = some (cs.contains z)
theorem exmB_ok {K : Frag} {h : Heap} {mg : Str → Option Value} (X : K.In h) (G : h.Ns mainGlobals mg) {al cs : List Nat} {y : Str} (c : exmB K al cs y = true) : ExM K mg al cs y (He.ga K y) := by
  obtain ⟨c1, c2⟩ := He.ba c
  exact ⟨clsAt_ok X G c1, fun z hz => of_decide_eq_true (List.all_eq_true.mp c2 z hz)⟩
/-- isinstance's class -/
def exkB (K : Frag) (al cs : List Nat) (tu : Value) : Bool := al.all fun z => excB K (He.ga K (exName z)) && decide (PySem.W.kitOne K (.ref (He.ga K (exName z))) tu = some (cs.contains z))
theorem exkB_ok {K : Frag} {al cs : List Nat} {tu : Value} (c : exkB K al cs tu = true) : ∀ n ∈ al, ∃ D, (exT K).cl n = .ref D ∧ L2.ExcC K D ∧ PySem.W.kitOne K (.ref D) tu = some (cs.contains n) := fun n hn => by
  obtain ⟨c1, c2⟩ := He.ba (List.all_eq_true.mp c n hn)
  exact ⟨_, rfl, excB_ok c1, of_decide_eq_true c2⟩
/-- what the text says of isinstance(e, y) -/
structure ExK (K : Frag) (mg : Str → Option Value) (al cs : List Nat) (y : Str) (C : Addr) : Prop where
  g : mg y = some (.ref C)
  k : ∀ n ∈ al, ∃ D, (exT K).cl n = .ref D ∧ L2.ExcC K D ∧ PySem.W.kitOne K (.ref D) (.ref C) = some (cs.contains n)
def exyB (K : Frag) (al cs : List Nat) (y : Str) : Bool := clsAt K y && exkB K al cs (.ref (He.ga K y))
theorem exyB_ok {K : Frag} {h : Heap} {mg : Str → Option Value} (X : K.In h) (G : h.Ns mainGlobals mg) {al cs : List Nat} {y : Str} (c : exyB K al cs y = true) : ExK K mg al cs y (He.ga K y) := by
  obtain ⟨c1, c2⟩ := He.ba c
  exact ⟨clsAt_ok X G c1, exkB_ok c2⟩
/-- a class whose instances' field is read -/
def exrB (K : Frag) (x f : Str) : Bool := xfB K (He.ga K x) && decide (PySem.W.findIn K (.ref (He.ga K x)) f = some none)
structure ExR (K : Frag) (f : Str) (C : Addr) : Prop where
  x : XfC K C
  no : PySem.W.findIn K (.ref C) f = some none
theorem exrB_ok {K : Frag} {x f : Str} (c : exrB K x f = true) : ExR K f (He.ga K x) := by
  obtain ⟨c1, c2⟩ := He.ba c
  exact ⟨xfB_ok c1, of_decide_eq_true c2⟩
/-! ### the look at the top, the classes' own statics with it -/
def seeY (n : Nat) (g : Addr → Option Obj) : Frag := He.frT g (cStatics :: He.asD g n)
def obsY (n : Nat) (fa : List He.Fa) (fn : List He.DefD) (ts : List He.Tab) (ex : Frag → Bool) (g : Addr → Option Obj) : He.AlX := (He.obsT fa fn ts (seeY n g), ex (seeY n g))
def hookY (n : Nat) (fa : List He.Fa) (fn : List He.DefD) (ts : List He.Tab) (ex : Frag → Bool) : PySem.W.Hook where
  α := He.AlX
  obs := fun s => obsY n fa fn ts ex s.heap.get?
  val := fun w => He.valX fn ts w
  says := fun w h => ∃ K : Frag, K.In h ∧ He.SaysX fa fn ts [] ex w h K
  of := fun _ _ e => ⟨_, He.frT_in, ⟨congrArg (fun z : He.AlX => z.1) e, congrArg (fun z : He.AlX => z.2) e, (fun _ z => by cases z), (fun _ z => by cases z), (fun _ z => by cases z)⟩⟩
  keeps := fun _ _ _ ⟨K, hK, c⟩ k => ⟨K, PySem.W.Frag.In.keeps hK k, ⟨c.t, c.more, c.hd, c.out, (fun _ z => by cases z)⟩⟩
theorem obsY_eq {n : Nat} {fa : List He.Fa} {fn : List He.DefD} {ts : List He.Tab} {ex : Frag → Bool} {g : Addr → Option Obj} {s : Shared} (h : ∀ a, g a = s.heap.get? a) : obsY n fa fn ts ex g = (hookY n fa fn ts ex).obs s := by
  have e : g = s.heap.get? := funext h
  rw [e]
  rfl
section
variable {X : Cx} {p : Pos}
/-- a class by its name -/
theorem pe_cls {y : Str} {C : Addr} (h : X.mg y = some (.ref C)) (hg : Gl X y) (hd : (y == ("__debug__" : Str)) = false := by decide) : PE X (.Name y p) (tC (.ref C)) := pe_glob (v := .ref C) hg h rfl hd
theorem names_cls {y : Str} {C : Addr} (h : X.mg y = some (.ref C)) (hg : Gl X y) (hd : (y == ("__debug__" : Str)) = false := by decide) : Names X y (.ref C) := ⟨hg, hd, .inl h⟩
end
end PB

set_option Elab.async false
set_option linter.all false
set_option maxRecDepth 100000
set_option maxHeartbeats 4000000
namespace PB
open PySem PySem.Spec PyProof.Rows L2
/-! ### s.split(c) -/
theorem pre_one (c x : Nat) (r : List Nat) : TL.pre [c] (x :: r) = decide (x = c) := by
  unfold TL.pre
  show (([x] : List Nat) == [c]) = decide (x = c)
  by_cases h : x = c
  · subst h
    simp
  · rw [decide_eq_false h]
    simp [h]
theorem spl_one (c : Nat) : ∀ (l acc : List Nat), TL.spl [c] 0 acc l = splC c acc l
  | [], acc => TL.spl_nil _ _ _
  | x :: r, acc => by
    show (if TL.pre [c] (x :: r) = true then acc :: TL.spl [c] ([c].length - 1) [] r else TL.spl [c] 0 (acc ++ [x]) r) = if x = c then acc :: splC c [] r else splC c (acc ++ [x]) r
    rw [pre_one]
    by_cases h : x = c
    · rw [decide_eq_true h, if_pos rfl, if_pos h]
      show acc :: TL.spl [c] 0 [] r = _
      rw [spl_one c r []]
    · rw [decide_eq_false h, if_neg Bool.false_ne_true, if_neg h, spl_one c r]
theorem splC_all {c : Nat} {p : Nat → Bool} : ∀ {l acc : List Nat}, l.all p = true → acc.all p = true → ∀ x ∈ splC c acc l, x.all p = true
  | [], acc, _, h2, x, hx => by
    have : x = acc := by simpa [splC] using hx
    rw [this]
    exact h2
  | y :: r, acc, h1, h2, x, hx => by
    rw [List.all_cons, Bool.and_eq_true] at h1
    unfold splC at hx
    split at hx
    · rcases List.mem_cons.mp hx with rfl | hx
      · exact h2
      · exact splC_all h1.2 rfl x hx
    · exact splC_all h1.2 (by rw [List.all_append, h2, List.all_cons, h1.1]; rfl) x hx
theorem splC_len {c : Nat} : ∀ {l acc : List Nat}, ∀ x ∈ splC c acc l, x.length ≤ acc.length + l.length
  | [], acc, x, hx => by
    have : x = acc := by simpa [splC] using hx
    rw [this]
    simp
  | y :: r, acc, x, hx => by
    unfold splC at hx
    rw [List.length_cons]
    split at hx
    · rcases List.mem_cons.mp hx with rfl | hx
      · omega
      · have := splC_len x hx
        simp at this
        omega
    · have := splC_len x hx
      rw [List.length_append, List.length_singleton] at this
      omega
theorem atl_strs {K : Frag} {O : Addr → Prop} {H : Hp} : ∀ {l : List (List Nat)}, (∀ x ∈ l, x.length ≤ SZ ∧ x.all (· < 0x110000) = true) → AtL K O H ((l.map mkS).map V.str) (l.map D.str)
  | [], _ => .nil
  | x :: r, h => .cons (.str x (h x List.mem_cons_self).1 (h x List.mem_cons_self).2) (atl_strs fun y hy => h y (List.mem_cons_of_mem _ hy))
section
variable {γ ι : Type} {B : Bs γ ι} {W : WX} {X : Cx} {pos : Pos} {a b : Expr} {ma mb : ME γ}
theorem pb_split {apos : Pos} (ha : PE X a (RE B W ma)) (hb : PE X b (RE B W mb)) (hs : starEach [b] X.env = [(false, eval b X.env)] := by rfl) (hbase : attributeBase a "split" X.env (eval a X.env) = eval a X.env := by rfl) (hline : (apos.endLine == pos.line) = true := by rfl) :
    PE X (.Call (.Attribute a "split" apos) [b] [] pos) (RE B W (mS1 oSplit ma mb)) := by
  refine pe_w (pe_split ha hb hs hbase hline) fun σ H Q ⟨S, e, g, R, h⟩ => ?_
  refine ⟨S, e, g, R, RK.bind (.refl H) h fun x g1 vx H1 _ x1 i1 o1 h1 => ?_⟩
  split at h1
  · rename_i s
    cases o1 with
    | str _ k1 k2 =>
    refine ⟨⟨_, rfl⟩, S, e, g1, R.exe x1 i1, RK.bind x1 h1 fun y g2 vy H2 x12 x2 i2 o2 h2 => ?_⟩
    obtain ⟨z, ez, q⟩ := h2.ofO
    have o2' := o2.pre x1 i1
    unfold oSplit at ez
    split at ez
    · rename_i c
      split at ez
      · rename_i hz
        cases ez
        cases o2' with
        | str _ k3 k4 =>
        have el : Txt.split (mkS s) (mkS [c]) = (splC c [] s).map mkS := by
          have := SX.split_S (a := s) (b := [c]) (by simp) (by simpa using hz.2)
          rw [spl_one] at this
          exact this
        refine ⟨mkS s, mkS [c], rfl, rfl, rfl, by rw [mkS_len]; exact szle hz.1, ?_⟩
        rw [el]
        intro p hp
        refine q _ _ (x2.trans (.new hp)) (Gho.new i2 hp) (VOk.mk x2 i2 (atl_strs fun x hx => ⟨?_, ?_⟩) hp)
        · have := splC_len x hx
          simp at this
          have := hz.1
          omega
        · exact splC_all k2 rfl x hx
      · cases ez
    · cases ez
  · exact h1.elim
theorem lenD {γ : Type} {m : MA γ} {n k : Nat} (h : ∀ (e : Env) (g : γ) rs g', m e g = .ok rs g' → rs.length = n) : ∀ (e : Env) (g : γ) rs g', m e g = .ok rs g' → rs.length + k = n + k := fun e g rs g' q => by rw [h e g rs g' q]
theorem pb_nevE : PE X a (RE B W mNevE) := ⟨fun pins s σ H Q I ⟨S, e, g, R, h⟩ => h.elim⟩
end
end PB

set_option Elab.async false
set_option linter.all false
set_option maxHeartbeats 0
namespace PB
open PySem PySem.Spec PyProof.Rows L2
variable {γ ι : Type} {B : Bs γ ι}
/-! ### max, min of three numbers -/
theorem best3_max {a b c : Int} {t u x : Tok} : numAt #[(a, t), (b, u), (c, x)] (argBest (fun i j => decide (numAt #[(a, t), (b, u), (c, x)] i > numAt #[(a, t), (b, u), (c, x)] j)) 2) = lmax a [b, c] := by
  obtain ⟨h1, h2⟩ := argBest_gt (numAt #[(a, t), (b, u), (c, x)]) 2
  obtain ⟨h3, h4⟩ := lmax_mem a [b, c]
  generalize argBest (fun i j => decide (numAt #[(a, t), (b, u), (c, x)] i > numAt #[(a, t), (b, u), (c, x)] j)) 2 = k at *
  have e0 : numAt #[(a, t), (b, u), (c, x)] 0 = a := rfl
  have e1 : numAt #[(a, t), (b, u), (c, x)] 1 = b := rfl
  have e2 : numAt #[(a, t), (b, u), (c, x)] 2 = c := rfl
  have k0 := h2 0 (by omega)
  have k1 := h2 1 (by omega)
  have k2 := h2 2 (by omega)
  rw [e0] at k0
  rw [e1] at k1
  rw [e2] at k2
  have m0 := h4 a (by simp)
  have m1 := h4 b (by simp)
  have m2 := h4 c (by simp)
  have hk : numAt #[(a, t), (b, u), (c, x)] k = a ∨ numAt #[(a, t), (b, u), (c, x)] k = b ∨ numAt #[(a, t), (b, u), (c, x)] k = c := by
    rcases (by omega : k = 0 ∨ k = 1 ∨ k = 2) with rfl | rfl | rfl
    · exact .inl rfl
    · exact .inr (.inl rfl)
    · exact .inr (.inr rfl)
  simp only [List.mem_cons, List.not_mem_nil, or_false] at h3
  omega
theorem best3_min {a b c : Int} {t u x : Tok} : numAt #[(a, t), (b, u), (c, x)] (argBest (fun i j => decide (numAt #[(a, t), (b, u), (c, x)] i < numAt #[(a, t), (b, u), (c, x)] j)) 2) = lmin a [b, c] := by
  obtain ⟨h1, h2⟩ := argBest_lt (numAt #[(a, t), (b, u), (c, x)]) 2
  obtain ⟨h3, h4⟩ := lmin_mem a [b, c]
  generalize argBest (fun i j => decide (numAt #[(a, t), (b, u), (c, x)] i < numAt #[(a, t), (b, u), (c, x)] j)) 2 = k at *
  have e0 : numAt #[(a, t), (b, u), (c, x)] 0 = a := rfl
  have e1 : numAt #[(a, t), (b, u), (c, x)] 1 = b := rfl
  have e2 : numAt #[(a, t), (b, u), (c, x)] 2 = c := rfl
  have k0 := h2 0 (by omega)
  have k1 := h2 1 (by omega)
  have k2 := h2 2 (by omega)
  rw [e0] at k0
  rw [e1] at k1
  rw [e2] at k2
  have m0 := h4 a (by simp)
  have m1 := h4 b (by simp)
  have m2 := h4 c (by simp)
  have hk : numAt #[(a, t), (b, u), (c, x)] k = a ∨ numAt #[(a, t), (b, u), (c, x)] k = b ∨ numAt #[(a, t), (b, u), (c, x)] k = c := by
    rcases (by omega : k = 0 ∨ k = 1 ∨ k = 2) with rfl | rfl | rfl
    · exact .inl rfl
    · exact .inr (.inl rfl)
    · exact .inr (.inr rfl)
  simp only [List.mem_cons, List.not_mem_nil, or_false] at h3
  omega
section
variable {prog : Program} {w : World} {A : Around} {E : Value → Shared → Prop} {s : Shared} {a b c : Int} {t u x : Tok} {Q : Value → Shared → Prop}
theorem tup3 : (s.heap.push { cls := .type "tuple", data := .seq #[.int a t, .int b u, .int c x] }).IsTuple s.heap.objs.size (intItems #[(a, t), (b, u), (c, x)]) :=
  ⟨_, Heap.get?_push_size s.heap rfl, rfl, 0, by simp [intItems]⟩
theorem max_three_ints (hh : A.handled = none) (h : ∀ (h' : Heap) (tk : Nat) (t' : Tok), (∀ (c : Addr) (o : Obj), s.heap.get? c = some o → h'.get? c = some o) → Q (.int (lmax a [b, c]) t') { heap := h', gens := s.gens, drawn := s.drawn, toks := tk, os := s.os }) :
    wpAny (model prog w) A (call (.builtin "max") [.int a t, .int b u, .int c x]) Q E s := by
  refine call_max_three (wpAny_pyIter_tuple tup3 ?_)
  have hsz := Heap.size_push s.heap { cls := .type "tuple", data := .seq #[.int a t, .int b u, .int c x] }
  refine ⟨(s.heap.push { cls := .type "tuple", data := .seq #[.int a t, .int b u, .int c x] }).objs.size, [(s.heap.push { cls := .type "tuple", data := .seq #[.int a t, .int b u, .int c x] }).objs.size, s.heap.objs.size], [(s.heap.push { cls := .type "tuple", data := .seq #[.int a t, .int b u, .int c x] }).objs.size], (intItems #[(a, t), (b, u), (c, x)]).size, fun i v => (intItems #[(a, t), (b, u), (c, x)])[i]? = some v, fun i h => h.IsTupleIter (s.heap.push { cls := .type "tuple", data := .seq #[.int a t, .int b u, .int c x] }).objs.size s.heap.objs.size i ∧ h.IsTuple s.heap.objs.size (intItems #[(a, t), (b, u), (c, x)]), fun i j => decide (numAt #[(a, t), (b, u), (c, x)] i > numAt #[(a, t), (b, u), (c, x)] j), rfl, Walks.tuple (A := A.in1) hh _ s.heap.objs.size ?_ (intItems #[(a, t), (b, u), (c, x)]), ⟨⟨_, Heap.get?_push_size _ rfl, rfl, rfl⟩, Heap.IsTuple.push tup3 _⟩, ?_, ?_, CmpOf.ints_gt (numAt #[(a, t), (b, u), (c, x)]) fun _ _ => intItems_at, ?_⟩
  · show s.heap.objs.size ≠ (s.heap.push _).objs.size
    rw [hsz]
    omega
  · intro c hc
    show c < ((s.heap.push _).push _).objs.size
    rw [Heap.size_push, hsz]
    rw [hsz] at hc
    rcases List.mem_cons.mp hc with e | hc
    · have e : @Eq Nat c _ := e
      have g : @LT.lt Nat _ c (s.heap.objs.size + 1 + 1) := by omega
      exact g
    · rcases List.mem_cons.mp hc with e | hc
      · have e : @Eq Nat c _ := e
        have g : @LT.lt Nat _ c (s.heap.objs.size + 1 + 1) := by omega
        exact g
      · cases hc
  · simp [intItems]
  · intro v h' tk hP hk
    have e : (intItems #[(a, t), (b, u), (c, x)]).size - 1 = 2 := by simp [intItems]
    rw [e] at hP
    obtain ⟨t', rfl⟩ := intItems_at hP
    rw [best3_max]
    refine h h' tk t' fun c o e => hk c o (fun hm => ?_) (Heap.get?_push_of_some _ (Heap.get?_push_of_some _ e))
    have lt := Heap.lt_size e
    rw [hsz] at hm
    have lt : @LT.lt Nat _ c s.heap.objs.size := lt
    rcases List.mem_cons.mp hm with e | hm
    · have e : @Eq Nat c _ := e
      omega
    · cases hm
theorem min_three_ints (hh : A.handled = none) (h : ∀ (h' : Heap) (tk : Nat) (t' : Tok), (∀ (c : Addr) (o : Obj), s.heap.get? c = some o → h'.get? c = some o) → Q (.int (lmin a [b, c]) t') { heap := h', gens := s.gens, drawn := s.drawn, toks := tk, os := s.os }) :
    wpAny (model prog w) A (call (.builtin "min") [.int a t, .int b u, .int c x]) Q E s := by
  refine call_min_three (wpAny_pyIter_tuple tup3 ?_)
  have hsz := Heap.size_push s.heap { cls := .type "tuple", data := .seq #[.int a t, .int b u, .int c x] }
  refine ⟨(s.heap.push { cls := .type "tuple", data := .seq #[.int a t, .int b u, .int c x] }).objs.size, [(s.heap.push { cls := .type "tuple", data := .seq #[.int a t, .int b u, .int c x] }).objs.size, s.heap.objs.size], [(s.heap.push { cls := .type "tuple", data := .seq #[.int a t, .int b u, .int c x] }).objs.size], (intItems #[(a, t), (b, u), (c, x)]).size, fun i v => (intItems #[(a, t), (b, u), (c, x)])[i]? = some v, fun i h => h.IsTupleIter (s.heap.push { cls := .type "tuple", data := .seq #[.int a t, .int b u, .int c x] }).objs.size s.heap.objs.size i ∧ h.IsTuple s.heap.objs.size (intItems #[(a, t), (b, u), (c, x)]), fun i j => decide (numAt #[(a, t), (b, u), (c, x)] i < numAt #[(a, t), (b, u), (c, x)] j), rfl, Walks.tuple (A := A.in1) hh _ s.heap.objs.size ?_ (intItems #[(a, t), (b, u), (c, x)]), ⟨⟨_, Heap.get?_push_size _ rfl, rfl, rfl⟩, Heap.IsTuple.push tup3 _⟩, ?_, ?_, CmpOf.ints_lt (numAt #[(a, t), (b, u), (c, x)]) fun _ _ => intItems_at, ?_⟩
  · show s.heap.objs.size ≠ (s.heap.push _).objs.size
    rw [hsz]
    omega
  · intro c hc
    show c < ((s.heap.push _).push _).objs.size
    rw [Heap.size_push, hsz]
    rw [hsz] at hc
    rcases List.mem_cons.mp hc with e | hc
    · have e : @Eq Nat c _ := e
      have g : @LT.lt Nat _ c (s.heap.objs.size + 1 + 1) := by omega
      exact g
    · rcases List.mem_cons.mp hc with e | hc
      · have e : @Eq Nat c _ := e
        have g : @LT.lt Nat _ c (s.heap.objs.size + 1 + 1) := by omega
        exact g
      · cases hc
  · simp [intItems]
  · intro v h' tk hP hk
    have e : (intItems #[(a, t), (b, u), (c, x)]).size - 1 = 2 := by simp [intItems]
    rw [e] at hP
    obtain ⟨t', rfl⟩ := intItems_at hP
    rw [best3_min]
    refine h h' tk t' fun c o e => hk c o (fun hm => ?_) (Heap.get?_push_of_some _ (Heap.get?_push_of_some _ e))
    have lt := Heap.lt_size e
    rw [hsz] at hm
    have lt : @LT.lt Nat _ c s.heap.objs.size := lt
    rcases List.mem_cons.mp hm with e | hm
    · have e : @Eq Nat c _ := e
      omega
    · cases hm
end
theorem vals3 {x y z : V} {us : List Value} (h : Vals [x, y, z] us) : ∃ u v w, us = [u, v, w] ∧ RelV x u ∧ RelV y v ∧ RelV z w := by
  match us, h with
  | [u, v, w], .cons a (.cons b (.cons c .nil)) => exact ⟨u, v, w, rfl, a, b, c⟩
theorem call_max3 {X : Cx} (hc : X.calm = true) : CallR X (.builtin "max") fun xs H Q => ∃ i j k, xs = [V.int i, V.int j, V.int k] ∧ Q (V.int (lmax i [j, k])) H := by
  intro pins s σ H xs us Q I r h
  obtain ⟨i, j, k, rfl, q⟩ := h
  obtain ⟨u, v, w, rfl, ⟨t, rfl⟩, ⟨t', rfl⟩, ⟨t'', rfl⟩⟩ := vals3 r
  refine max_three_ints (I.ok.hd hc) fun h' tk t k => ?_
  exact ⟨V.int _, H, I.kept k, ⟨t, rfl⟩, q⟩
theorem call_min3 {X : Cx} (hc : X.calm = true) : CallR X (.builtin "min") fun xs H Q => ∃ i j k, xs = [V.int i, V.int j, V.int k] ∧ Q (V.int (lmin i [j, k])) H := by
  intro pins s σ H xs us Q I r h
  obtain ⟨i, j, k, rfl, q⟩ := h
  obtain ⟨u, v, w, rfl, ⟨t, rfl⟩, ⟨t', rfl⟩, ⟨t'', rfl⟩⟩ := vals3 r
  refine min_three_ints (I.ok.hd hc) fun h' tk t k => ?_
  exact ⟨V.int _, H, I.kept k, ⟨t, rfl⟩, q⟩
theorem os_max3 : OpSN B oMax3 (fun xs H Q => ∃ i j k, xs = [.int i, .int j, .int k] ∧ Q (.int (lmax i [j, k])) H) := by
  intro S e g g1 σ H0 H xs z vs Q R x0 i1 os hz hq
  unfold oMax3 at hz
  split at hz
  · cases hz
    cases os with
    | cons o os =>
    cases os with
    | cons o2 os =>
    cases os with
    | cons o3 os =>
    cases os
    cases o
    cases o2
    cases o3
    exact ⟨_, _, _, rfl, hq _ H (.inl rfl) (.int _)⟩
  · cases hz
theorem os_min3 : OpSN B oMin3 (fun xs H Q => ∃ i j k, xs = [.int i, .int j, .int k] ∧ Q (.int (lmin i [j, k])) H) := by
  intro S e g g1 σ H0 H xs z vs Q R x0 i1 os hz hq
  unfold oMin3 at hz
  split at hz
  · cases hz
    cases os with
    | cons o os =>
    cases os with
    | cons o2 os =>
    cases os with
    | cons o3 os =>
    cases os
    cases o
    cases o2
    cases o3
    exact ⟨_, _, _, rfl, hq _ H (.inl rfl) (.int _)⟩
  · cases hz

theorem max_tup {prog : Program} {w : World} {A : Around} {E : Value → Shared → Prop} {s : Shared} {l : Addr} {its : List Value} {ns : List Int} {Q : Value → Shared → Prop} (hh : A.handled = none) (hl : s.heap.IsTuple l its.toArray) (hi : IntsAre its ns) (hne : 0 < ns.length)
    (h : ∀ (h' : Heap) (tk : Nat) (M : Int) (t' : Tok), (∀ (b : Addr) (o : Obj), s.heap.get? b = some o → h'.get? b = some o) → M ∈ ns → (∀ a ∈ ns, a ≤ M) → Q (.int M t') { heap := h', gens := s.gens, drawn := s.drawn, toks := tk, os := s.os }) :
    wpAny (model prog w) A (call (.builtin "max") [.ref l]) Q E s := by
  obtain ⟨xs, e⟩ := AllInts.items hi.allInts
  have hn := hi.numsOf
  rw [show its = (intItems xs).toList by rw [← e], nums_intItems] at hn
  rw [e] at hl
  subst hn
  have hsz : 0 < xs.size := by
    rw [List.length_map, Array.length_toList] at hne
    exact hne
  have hlt : l ≠ s.heap.objs.size := by
    obtain ⟨o, ho, _⟩ := hl
    have := Heap.lt_size ho
    exact Nat.ne_of_lt this
  refine call_max_walk (wpAny_pyIter_tuple hl ?_)
  refine ⟨s.heap.objs.size, [s.heap.objs.size, l], [s.heap.objs.size], (intItems xs).size, fun i v => (intItems xs)[i]? = some v, fun i h => h.IsTupleIter s.heap.objs.size l i ∧ h.IsTuple l (intItems xs), fun i j => decide (numAt xs i > numAt xs j), rfl, Walks.tuple (A := A.in1) hh _ l hlt (intItems xs), ⟨⟨_, Heap.get?_push_size _ rfl, rfl, rfl⟩, Heap.IsTuple.push hl _⟩, ?_, by rw [intItems, Array.size_map]; exact hsz, CmpOf.ints_gt (numAt xs) fun _ _ => intItems_at, ?_⟩
  · intro c hc
    show c < (s.heap.push _).objs.size
    rw [Heap.size_push]
    rcases List.mem_cons.mp hc with e | hc
    · rw [e]
      exact Nat.lt_succ_self _
    · rcases List.mem_cons.mp hc with e | hc
      · rw [e]
        obtain ⟨o, ho, _⟩ := hl
        exact Nat.lt_succ_of_lt (Heap.lt_size ho)
      · cases hc
  · intro v h' tk hP hk
    have e : (intItems xs).size - 1 = xs.size - 1 := by rw [intItems, Array.size_map]
    rw [e] at hP
    obtain ⟨t', rfl⟩ := intItems_at hP
    obtain ⟨h1, h2⟩ := argBest_gt (numAt xs) (xs.size - 1)
    refine h h' tk _ t' (fun c o e => hk c o (fun hm => ?_) (Heap.get?_push_of_some _ e)) ?_ fun a ha => ?_
    · have lt := Heap.lt_size e
      rcases List.mem_cons.mp hm with e | hm
      · rw [e] at lt
        exact Nat.lt_irrefl _ lt
      · cases hm
    · rw [numAt_eq]
      refine PySem.getD_mem ?_
      rw [List.length_map, Array.length_toList]
      omega
    · obtain ⟨j, hj, rfl⟩ := mem_getD ha
      rw [List.length_map, Array.length_toList] at hj
      rw [← numAt_eq]
      exact h2 j (by omega)
theorem cr_maxT {X : Cx} (hc : X.calm = true) : CallR X (.builtin "max") fun vs H Q => ∃ (a : Addr) (ns : List Int), vs = [V.ref a] ∧ (SqL X.K H a (ns.map V.int) ∨ SqT X.K H a (ns.map V.int)) ∧ 0 < ns.length ∧ ∀ M, M ∈ ns → (∀ a ∈ ns, a ≤ M) → Q (V.int M) H := by
  intro pins s σ H vs us Q I r h
  obtain ⟨a, ns, rfl, hs | hs, hne, q⟩ := h
  · exact cr_max hc pins s σ H _ us Q I r ⟨a, ns, rfl, hs, hne, q⟩
  · obtain ⟨its, rv, hl, _⟩ := I.tuple hs
    rw [Vals.ref1 r]
    refine max_tup (I.ok.hd hc) hl (Vals.ints rv) hne fun h' tk m t' hk h1 h2 => ?_
    exact ⟨V.int m, H, I.kept hk, ⟨t', rfl⟩, q m h1 h2⟩

theorem min_tup {prog : Program} {w : World} {A : Around} {E : Value → Shared → Prop} {s : Shared} {l : Addr} {its : List Value} {ns : List Int} {Q : Value → Shared → Prop} (hh : A.handled = none) (hl : s.heap.IsTuple l its.toArray) (hi : IntsAre its ns) (hne : 0 < ns.length)
    (h : ∀ (h' : Heap) (tk : Nat) (M : Int) (t' : Tok), (∀ (b : Addr) (o : Obj), s.heap.get? b = some o → h'.get? b = some o) → M ∈ ns → (∀ a ∈ ns, M ≤ a) → Q (.int M t') { heap := h', gens := s.gens, drawn := s.drawn, toks := tk, os := s.os }) :
    wpAny (model prog w) A (call (.builtin "min") [.ref l]) Q E s := by
  obtain ⟨xs, e⟩ := AllInts.items hi.allInts
  have hn := hi.numsOf
  rw [show its = (intItems xs).toList by rw [← e], nums_intItems] at hn
  rw [e] at hl
  subst hn
  have hsz : 0 < xs.size := by
    rw [List.length_map, Array.length_toList] at hne
    exact hne
  have hlt : l ≠ s.heap.objs.size := by
    obtain ⟨o, ho, _⟩ := hl
    have := Heap.lt_size ho
    exact Nat.ne_of_lt this
  refine call_min_walk (wpAny_pyIter_tuple hl ?_)
  refine ⟨s.heap.objs.size, [s.heap.objs.size, l], [s.heap.objs.size], (intItems xs).size, fun i v => (intItems xs)[i]? = some v, fun i h => h.IsTupleIter s.heap.objs.size l i ∧ h.IsTuple l (intItems xs), fun i j => decide (numAt xs i < numAt xs j), rfl, Walks.tuple (A := A.in1) hh _ l hlt (intItems xs), ⟨⟨_, Heap.get?_push_size _ rfl, rfl, rfl⟩, Heap.IsTuple.push hl _⟩, ?_, by rw [intItems, Array.size_map]; exact hsz, CmpOf.ints_lt (numAt xs) fun _ _ => intItems_at, ?_⟩
  · intro c hc
    show c < (s.heap.push _).objs.size
    rw [Heap.size_push]
    rcases List.mem_cons.mp hc with e | hc
    · rw [e]
      exact Nat.lt_succ_self _
    · rcases List.mem_cons.mp hc with e | hc
      · rw [e]
        obtain ⟨o, ho, _⟩ := hl
        exact Nat.lt_succ_of_lt (Heap.lt_size ho)
      · cases hc
  · intro v h' tk hP hk
    have e : (intItems xs).size - 1 = xs.size - 1 := by rw [intItems, Array.size_map]
    rw [e] at hP
    obtain ⟨t', rfl⟩ := intItems_at hP
    obtain ⟨h1, h2⟩ := argBest_lt (numAt xs) (xs.size - 1)
    refine h h' tk _ t' (fun c o e => hk c o (fun hm => ?_) (Heap.get?_push_of_some _ e)) ?_ fun a ha => ?_
    · have lt := Heap.lt_size e
      rcases List.mem_cons.mp hm with e | hm
      · rw [e] at lt
        exact Nat.lt_irrefl _ lt
      · cases hm
    · rw [numAt_eq]
      refine PySem.getD_mem ?_
      rw [List.length_map, Array.length_toList]
      omega
    · obtain ⟨j, hj, rfl⟩ := mem_getD ha
      rw [List.length_map, Array.length_toList] at hj
      rw [← numAt_eq]
      exact h2 j (by omega)
theorem cr_minT {X : Cx} (hc : X.calm = true) : CallR X (.builtin "min") fun vs H Q => ∃ (a : Addr) (ns : List Int), vs = [V.ref a] ∧ (SqL X.K H a (ns.map V.int) ∨ SqT X.K H a (ns.map V.int)) ∧ 0 < ns.length ∧ ∀ M, M ∈ ns → (∀ a ∈ ns, M ≤ a) → Q (V.int M) H := by
  intro pins s σ H vs us Q I r h
  obtain ⟨a, ns, rfl, hs | hs, hne, q⟩ := h
  · exact cr_min hc pins s σ H _ us Q I r ⟨a, ns, rfl, hs, hne, q⟩
  · obtain ⟨its, rv, hl, _⟩ := I.tuple hs
    rw [Vals.ref1 r]
    refine min_tup (I.ok.hd hc) hl (Vals.ints rv) hne fun h' tk m t' hk h1 h2 => ?_
    exact ⟨V.int m, H, I.kept hk, ⟨t', rfl⟩, q m h1 h2⟩
theorem cl_maxA {X : Cx} (hK : B.K = X.K) (hc : X.calm = true) : CallR X (.builtin "max") (fun vs H Q => ∃ (a : Addr) (ns : List Int), vs = [V.ref a] ∧ (SqL B.K H a (ns.map V.int) ∨ SqT B.K H a (ns.map V.int)) ∧ 0 < ns.length ∧ ∀ M, M ∈ ns → (∀ a ∈ ns, a ≤ M) → Q (V.int M) H) := by
  rw [hK]
  exact cr_maxT hc
theorem os_maxA : OpSN B oMaxA (fun vs H Q => ∃ (a : Addr) (ns : List Int), vs = [V.ref a] ∧ (SqL B.K H a (ns.map V.int) ∨ SqT B.K H a (ns.map V.int)) ∧ 0 < ns.length ∧ ∀ M, M ∈ ns → (∀ a ∈ ns, a ≤ M) → Q (V.int M) H) := by
  intro S e g g1 σ H0 H xs z vs Q R x0 i1 os hz hq
  have fin : ∀ (n : Int) (ns : List Int) (m : Int), m ∈ n :: ns → (∀ a ∈ n :: ns, a ≤ m) → m = lmax n ns := by
    intro n ns m hm hle
    obtain ⟨h1, h2⟩ := lmax_mem n ns
    have := hle _ h1
    have := h2 _ hm
    omega
  unfold oMaxA at hz
  split at hz
  · split at hz
    · rename_i x ds k
      split at hz
      · rename_i n ns e2
        cases hz
        cases os with
        | cons o os =>
        cases os
        unfold Rv.seqI at k
        split at k
        · cases k
          cases o with
          | @tup p xs _ k al =>
          have ki := al.dInts e2
          subst ki
          refine ⟨p, n :: ns, rfl, .inr ?_, Nat.succ_pos _, fun m hm hle => ?_⟩
          · exact tup_seq k
          · rw [fin n ns m hm hle]
            exact hq _ H (.inl rfl) (.int _)
        · obtain ⟨p, ys, rfl, hp, ap⟩ := o.items R k
          rw [ap.dInts e2] at hp
          refine ⟨p, n :: ns, rfl, .inl (SqL.of hp), Nat.succ_pos _, fun m hm hle => ?_⟩
          rw [fin n ns m hm hle]
          exact hq _ H (.inl rfl) (.int _)
      · cases hz
    · cases hz
  · cases hz
theorem cl_minA {X : Cx} (hK : B.K = X.K) (hc : X.calm = true) : CallR X (.builtin "min") (fun vs H Q => ∃ (a : Addr) (ns : List Int), vs = [V.ref a] ∧ (SqL B.K H a (ns.map V.int) ∨ SqT B.K H a (ns.map V.int)) ∧ 0 < ns.length ∧ ∀ M, M ∈ ns → (∀ a ∈ ns, M ≤ a) → Q (V.int M) H) := by
  rw [hK]
  exact cr_minT hc
theorem os_minA : OpSN B oMinA (fun vs H Q => ∃ (a : Addr) (ns : List Int), vs = [V.ref a] ∧ (SqL B.K H a (ns.map V.int) ∨ SqT B.K H a (ns.map V.int)) ∧ 0 < ns.length ∧ ∀ M, M ∈ ns → (∀ a ∈ ns, M ≤ a) → Q (V.int M) H) := by
  intro S e g g1 σ H0 H xs z vs Q R x0 i1 os hz hq
  have fin : ∀ (n : Int) (ns : List Int) (m : Int), m ∈ n :: ns → (∀ a ∈ n :: ns, m ≤ a) → m = lmin n ns := by
    intro n ns m hm hle
    obtain ⟨h1, h2⟩ := lmin_mem n ns
    have := hle _ h1
    have := h2 _ hm
    omega
  unfold oMinA at hz
  split at hz
  · split at hz
    · rename_i x ds k
      split at hz
      · rename_i n ns e2
        cases hz
        cases os with
        | cons o os =>
        cases os
        unfold Rv.seqI at k
        split at k
        · cases k
          cases o with
          | @tup p xs _ k al =>
          have ki := al.dInts e2
          subst ki
          refine ⟨p, n :: ns, rfl, .inr ?_, Nat.succ_pos _, fun m hm hle => ?_⟩
          · exact tup_seq k
          · rw [fin n ns m hm hle]
            exact hq _ H (.inl rfl) (.int _)
        · obtain ⟨p, ys, rfl, hp, ap⟩ := o.items R k
          rw [ap.dInts e2] at hp
          refine ⟨p, n :: ns, rfl, .inl (SqL.of hp), Nat.succ_pos _, fun m hm hle => ?_⟩
          rw [fin n ns m hm hle]
          exact hq _ H (.inl rfl) (.int _)
      · cases hz
    · cases hz
  · cases hz
end PB

set_option Elab.async false
set_option linter.all false
set_option maxRecDepth 100000
set_option maxHeartbeats 4000000
namespace PB
open PySem PySem.Spec PyProof.Rows L2
/-! ### s.upper() -/
theorem upper_az : Txt.upper (mkS [97, 98, 99, 100, 101, 102, 103, 104, 105, 106, 107, 108, 109, 110, 111, 112, 113, 114, 115, 116, 117, 118, 119, 120, 121, 122]) = mkS [65, 66, 67, 68, 69, 70, 71, 72, 73, 74, 75, 76, 77, 78, 79, 80, 81, 82, 83, 84, 85, 86, 87, 88, 89, 90] := by decide +kernel
section
variable {γ ι : Type} {B : Bs γ ι} {W : WX} {X : Cx} {pos : Pos} {a : Expr} {ma : ME γ}
theorem pb_upper {apos : Pos} (ha : PE X a (RE B W ma)) (hbase : attributeBase a "upper" X.env (eval a X.env) = eval a X.env := by rfl) (hline : (apos.endLine == pos.line) = true := by rfl) :
    PE X (.Call (.Attribute a "upper" apos) [] [] pos) (RE B W (mS0 oUpper ma)) := by
  refine pe_w (pe_upper ha hbase hline) fun σ H Q ⟨S, e, g, R, h⟩ => ?_
  refine ⟨S, e, g, R, RK.bind (.refl H) h fun x g1 vx H1 _ x1 i1 o1 h1 => ?_⟩
  split at h1
  · rename_i s
    obtain ⟨z, ez, q⟩ := h1.ofO
    cases o1 with
    | str _ k1 k2 =>
    unfold oUpper at ez
    split at ez
    · rename_i hz
      cases ez
      subst hz
      refine ⟨⟨_, rfl⟩, _, rfl, rfl, by decide, ?_⟩
      rw [upper_az]
      exact q _ _ x1 i1 (.str _ (by decide) (by decide))
    · cases ez
  · exact h1.elim
end
end PB

set_option Elab.async false
set_option linter.all false
set_option maxRecDepth 100000
set_option maxHeartbeats 4000000
namespace PB
open PySem PySem.Spec PyProof.Rows L2
/-! ### tables of a module, by a text: k in t; t.get(k, x) -/
section
variable {X : Cx} {pos : Pos} {o e f : Expr}
theorem pe_kget2 {d : Addr} {es : Array DictEntry} {n : Nat} {apos cpos : Pos} {ty tx : TE} (D : KDict X.K X.w d es n) (ho : PE X o (fun σ H Q => Q (.ref d) H)) (he : PE X e ty) (hf : PE X f tx) (m : M2 X o "get" apos e f cpos) :
    PE X (.Call (.Attribute o "get" apos) [e, f] [] cpos) (fun σ H Q => ty σ H fun y H1 => tx σ H1 fun z H2 => ∃ k, y = .str k ∧ ((findBy Value.isStrOf es k = none ∧ Q z H2) ∨ ∃ u v, findBy Value.isStrOf es k = some u ∧ RelV v u ∧ Q v H2)) :=
  ⟨fun pins s σ H Q I h => by
    refine wpAny_Call_method m.base m.few m.line F.plainAttrs_dict F.slot_dict_get F.type_dict_get ?_
    refine thn (ho.run pins s σ H (fun x H0 => x = .ref d ∧ ty σ H0 fun y H1 => tx σ H1 fun z H2 => ∃ k, y = .str k ∧ ((findBy Value.isStrOf es k = none ∧ Q z H2) ∨ ∃ u v, findBy Value.isStrOf es k = some u ∧ RelV v u ∧ Q v H2)) I ⟨rfl, h⟩) fun u s1 x => ?_
    obtain ⟨x, H1, I1, rx, ex, q1⟩ := x
    subst ex
    cases rx
    refine ⟨kd_type D I1, fun a ha => ?_, ?_⟩
    · cases ha
      exact ⟨_, I1.kIn _ _ D.at_, rfl⟩
    · rw [m.trees]
      refine wpAny_dict_get2 (knd := PySem.strKind X.prog X.w) D.low ?_
      refine thn (he.run pins s1 σ H1 _ I1 q1) fun iv s2 z => ?_
      obtain ⟨y, H2, I2, ry, q2⟩ := z
      refine thn (hf.run pins s2 σ H2 _ I2 q2) fun fv s3 z => ?_
      obtain ⟨z, H3, I3, rz, k, rfl, q3⟩ := z
      obtain ⟨t, rfl⟩ := ry
      refine ⟨k, _, strKind_is X.prog X.w k t, W.mapOf_K (Inv.kIn I3) D.at_ D.lit, ?_⟩
      rcases q3 with ⟨e, q3⟩ | ⟨u, v, e, r, q3⟩
      · rw [e]
        exact ⟨z, H3, I3.tok _, rz, q3⟩
      · rw [e]
        exact ⟨v, H3, I3.tok _, r, q3⟩⟩
end
/-- the table holds no other key -/
def TabAll (K : Frag) (a : Addr) (tab : List (List Nat × D)) : Prop := ∀ (es : Array DictEntry) (n : Nat), K.lookup a = some { cls := Value.type "dict", data := Data.dict es n } → ∀ e ∈ es.toList, ∃ p ∈ tab, ∃ t, e.key = .str (mkS p.1) t
def tabA (K : Frag) (x : Str) (tab : List (List Nat × D)) : Bool := match K.lookup (He.ga K x) with
  | some o => match o.data with
    | .dict es _ => es.toList.all fun e => match e.key with
      | .str y _ => tab.any fun p => decide (mkS p.1 = y)
      | _ => false
    | _ => false
  | none => false
theorem tabA_ok {K : Frag} {x : Str} {tab : List (List Nat × D)} (c : tabA K x tab = true) : TabAll K (He.ga K x) tab := by
  intro es n hl e he
  unfold tabA at c
  rw [hl] at c
  have c := List.all_eq_true.mp c e he
  split at c
  · rename_i y t hk
    obtain ⟨p, hp, q⟩ := List.any_eq_true.mp c
    exact ⟨p, hp, t, by rw [hk, of_decide_eq_true q]⟩
  · cases c
def TabTot (K : Frag) (w : World) (mg : Str → Option Value) (x : Str) (tab : List (List Nat × D)) : Prop := ∃ a, mg x = some (.ref a) ∧ (∃ es n, KDict K w a es n) ∧ (∀ p ∈ tab, ∃ v u, PySem.W.nsIn K a (mkS p.1) = some (some u) ∧ RelV v u ∧ ∀ O H, At K O H v p.2) ∧ TabAll K a tab
theorem tabT_ok {K : Frag} {w : World} {h : Heap} {mg : Str → Option Value} {x : Str} {tab : List (List Nat × D)} (X : K.In h) (G : h.Ns mainGlobals mg) (c : (tabG K x tab && tabA K x tab) = true) (k : ∃ es n, KDict K w (He.ga K x) es n) : TabTot K w mg x tab := by
  rw [Bool.and_eq_true] at c
  have c1 := c.1
  obtain ⟨a, h1, h2, h3⟩ := tabG_ok X G c1 k
  unfold tabG at c1
  split at c1
  · rename_i a' e
    rw [Bool.and_eq_true] at c1
    have ea : a' = He.ga K x := of_decide_eq_true c1.1
    have := (PySem.W.mg_of X G e).symm.trans h1
    cases this
    exact ⟨a, h1, h2, h3, by rw [ea]; exact tabA_ok c.2⟩
  · cases c1
theorem TabTot.at_ {K : Frag} {w : World} {mg : Str → Option Value} {x : Str} {tab : List (List Nat × D)} (t : TabTot K w mg x tab) : TabAt K w mg x tab := by
  obtain ⟨a, h1, h2, h3, _⟩ := t
  exact ⟨a, h1, h2, h3⟩
theorem tab_miss {K : Frag} {w : World} {a : Addr} {es : Array DictEntry} {n : Nat} {tab : List (List Nat × D)} {s : List Nat} (kd : KDict K w a es n) (h : TabAll K a tab) (hf : tab.find? (fun q => q.1 == s) = none) : findBy Value.isStrOf es (mkS s) = none := by
  unfold findBy
  rw [Option.map_eq_none_iff, Array.find?_eq_none]
  intro e he
  obtain ⟨p, hp, t, hk⟩ := h es n kd.at_ e (by simpa using he)
  rw [hk]
  show ¬ ((mkS p.1 == mkS s) = true)
  intro hx
  rw [mkS_beq] at hx
  have := List.find?_eq_none.mp hf p hp
  exact this hx
theorem tab_missN {K : Frag} {w : World} {a : Addr} {es : Array DictEntry} {n : Nat} {tab : List (List Nat × D)} {s : List Nat} (kd : KDict K w a es n) (h : TabAll K a tab) (hf : tab.find? (fun q => q.1 == s) = none) : PySem.W.nsIn K a (mkS s) = some none := by
  unfold PySem.W.nsIn
  rw [kd.at_]
  dsimp only
  have e1 : (es.toList.find? fun x => x.key.isStr (mkS s)) = none := by
    rw [List.find?_eq_none]
    intro e he
    obtain ⟨p, hp, t, hk⟩ := h es n kd.at_ e he
    rw [hk]
    show ¬ ((mkS p.1 == mkS s) = true)
    intro hx
    rw [mkS_beq] at hx
    have := List.find?_eq_none.mp hf p hp
    exact this hx
  rw [e1]
  dsimp only
  rw [if_neg]
  intro hx
  obtain ⟨e, he, hr⟩ := List.any_eq_true.mp hx
  obtain ⟨p, hp, t, hk⟩ := h es n kd.at_ e he
  unfold DictEntry.refKey at hr
  rw [hk] at hr
  cases hr
section
variable {γ ι : Type} {B : Bs γ ι} {W : WX} {X : Cx} {pos : Pos} {a b k d : Expr} {ma mb mk md : ME γ}
/-- k in t -/
theorem pb_inTab {x : Str} {tab : List (List Nat × D)} {px : Pos} (hK : B.K = X.K) (c : TabTot B.K X.w X.mg x tab) (hg : Gl X x) (hk : PE X k (RE B W mk)) (hm : behindInMarks CmpOp.In (Expr.Name x px) = false) (hd : (x == ("__debug__" : Str)) = false := by decide) :
    PE X (.Compare k [.In] [.Name x px] pos) (RE B W (mInTab tab mk)) := by
  obtain ⟨p, h1, ⟨es, n, kd⟩, h3, h4⟩ := c
  rw [hK] at kd
  refine pe_w (pe_cmpR (op_in_kd kd) hk (pe_glob (v := .ref p) hg h1 rfl hd) hm) fun σ H Q ⟨S, e, g, R, h⟩ => ?_
  refine ⟨S, e, g, R, RK.bind (.refl H) h fun y g1 vy H1 _ x1 i1 o1 h2 => ?_⟩
  split at h2
  · rename_i s
    cases o1 with
    | str _ k1 k2 =>
    cases hf : tab.find? (fun q => q.1 == s) with
    | none =>
      rw [hf] at h2
      refine ⟨mkS s, none, rfl, rfl, by rw [← hK]; exact tab_missN (by rw [hK]; exact kd) h4 hf, ?_⟩
      exact h2 _ H1 x1 i1 (.bl _)
    | some r =>
      rw [hf] at h2
      obtain ⟨hm, rfl⟩ := find_mem hf
      obtain ⟨v, u, e1, e2, e3⟩ := h3 r hm
      refine ⟨mkS r.1, some u, rfl, rfl, by rw [← hK]; exact e1, ?_⟩
      exact h2 _ H1 x1 i1 (.bl _)
  · exact h2.elim
/-- .. as a test -/
theorem pb_tinTab {x : Str} {tab : List (List Nat × D)} {px : Pos} (hK : B.K = X.K) (c : TabTot B.K X.w X.mg x tab) (hg : Gl X x) (hk : PE X k (RE B W mk)) (hm : behindInMarks CmpOp.In (Expr.Name x px) = false) (hd : (x == ("__debug__" : Str)) = false := by decide) :
    PT X (.Compare k [.In] [.Name x px] pos) (RT B W (mTest (mInTab tab mk))) := by
  obtain ⟨p, h1, ⟨es, n, kd⟩, h3, h4⟩ := c
  rw [hK] at kd
  refine pt_w (pt_cmpR (op_in_kd kd) hk (pe_glob (v := .ref p) hg h1 rfl hd) hm) fun σ H Q h => ?_
  obtain ⟨S, e, g, R, h⟩ := rt_test h
  refine ⟨S, e, g, R, RK.bind (.refl H) h fun y g1 vy H1 _ x1 i1 o1 h2 => ?_⟩
  split at h2
  · rename_i s
    cases o1 with
    | str _ k1 k2 =>
    cases hf : tab.find? (fun q => q.1 == s) with
    | none =>
      rw [hf] at h2
      refine ⟨mkS s, none, rfl, rfl, by rw [← hK]; exact tab_missN (by rw [hK]; exact kd) h4 hf, ?_⟩
      exact h2 _ H1 x1 i1 (.bl _)
    | some r =>
      rw [hf] at h2
      obtain ⟨hm, rfl⟩ := find_mem hf
      obtain ⟨v, u, e1, e2, e3⟩ := h3 r hm
      refine ⟨mkS r.1, some u, rfl, rfl, by rw [← hK]; exact e1, ?_⟩
      exact h2 _ H1 x1 i1 (.bl _)
  · exact h2.elim
/-- t.get(k, x) -/
theorem pb_tabGet {x : Str} {tab : List (List Nat × D)} {px apos cpos : Pos} (hK : B.K = X.K) (c : TabTot B.K X.w X.mg x tab) (hg : Gl X x) (hk : PE X k (RE B W mk)) (hd' : PE X d (RE B W md)) (m : M2 X (.Name x px) "get" apos k d cpos) (hd : (x == ("__debug__" : Str)) = false := by decide) :
    PE X (.Call (.Attribute (.Name x px) "get" apos) [k, d] [] cpos) (RE B W (mTabGet tab mk md)) := by
  obtain ⟨p, h1, ⟨es, n, kd⟩, h3, h4⟩ := c
  rw [hK] at kd
  refine pe_w (pe_kget2 kd (pe_glob (v := .ref p) hg h1 rfl hd) hk hd' m) fun σ H Q ⟨S, e, g, R, h⟩ => ?_
  refine ⟨S, e, g, R, RK.bind (.refl H) h fun y g1 vy H1 _ x1 i1 o1 h1' => ?_⟩
  refine ⟨S, e, g1, R.exe x1 i1, RK.bind x1 h1' fun z g2 vz H2 x12 x2 i2 o2 h2 => ?_⟩
  have o1' := o1
  split at h2
  · rename_i s z
    cases o1 with
    | str _ k1 k2 =>
    cases hf : tab.find? (fun q => q.1 == s) with
    | none =>
      rw [hf] at h2
      refine ⟨mkS s, rfl, .inl ⟨tab_miss kd (by rw [← hK]; exact h4) hf, ?_⟩⟩
      exact h2 _ H2 x2 i2 o2
    | some r =>
      rw [hf] at h2
      obtain ⟨hm, rfl⟩ := find_mem hf
      obtain ⟨v, u, e1, e2, e3⟩ := h3 r hm
      refine ⟨mkS r.1, rfl, .inr ⟨u, v, PySem.W.find_K kd.at_ (by rw [← hK]; exact e1), e2, ?_⟩⟩
      exact h2 _ H2 x2 i2 (e3 _ _)
  · exact h2.elim
end
end PB

set_option Elab.async false
set_option linter.all false
set_option maxRecDepth 100000
set_option maxHeartbeats 4000000
namespace PB
open PySem PySem.Spec PyProof.Rows L2
/-! ### a tuple, so many times -/
theorem tup_mul0 (l : Addr) (items : Array Value) (n : Nat) (dd : Option Addr) (sl : Array (Option Value)) (x : Int) (u : Tok) (c0 : (decide (x < -2 ^ 63) || decide (x ≥ 2 ^ 63)) = false) (c1 : (items.isEmpty || x == 1) = false) (c2 : (decide (x ≤ 0) || items.isEmpty) = true) :
    Meets (Builtin.«tuple.__mul__» { pos := [Value.ref l, Value.int x u] }) fun _ R s => s.heap.get? l = some { cls := Value.type "tuple", dict := dd, data := Data.seq items n, slots := sl } ∧ R (Except.ok (Flow.ret (Value.ref s.heap.objs.size))) { heap := s.heap.push { cls := Value.type "tuple", data := Data.seq #[] }, gens := s.gens, drawn := s.drawn, toks := s.toks, os := s.os } := by
  refine Meets.of_wp fun prog w A R s h => ?_
  cases s with
  | mk hp g d tk os =>
  obtain ⟨hl, h⟩ := h
  unfold Builtin.«tuple.__mul__»
  show wpAny _ _ (@ite (Sem PySem.Fin) _ _ _ _) _ _ _
  refine wpAny_ite_false (by rw [c0]; rfl) ?_
  show wpAny _ _ (@Bind.bind _ _ _ _ _ _) _ _ _
  refine wpAny_bind ?_
  show wpAny _ _ (@Bind.bind _ _ _ _ _ _) _ _ _
  refine wpAny_bind ?_
  show wpAny _ _ (@Bind.bind _ _ _ _ _ _) _ _ _
  refine wpAny_bind ?_
  refine wpAny_load' hl ?_
  refine wpAny_pure ?_
  refine wpAny_pure ?_
  refine wpAny_ite_false (by rw [c1]; rfl) ?_
  refine wpAny_ite_true (by rw [c2]; rfl) ?_
  refine wpAny_bind ?_
  unfold Builtin.Tuple.tupleExact
  refine wpAny_newObj_type ?_ (by simp [sizeOk])
  refine wpAny_pure ?_
  exact ⟨_, rfl, h⟩
theorem tup_mul1 (l : Addr) (items : Array Value) (n : Nat) (dd : Option Addr) (sl : Array (Option Value)) (x : Int) (u : Tok) (c0 : (decide (x < -2 ^ 63) || decide (x ≥ 2 ^ 63)) = false) (c1 : (items.isEmpty || x == 1) = true) :
    Meets (Builtin.«tuple.__mul__» { pos := [Value.ref l, Value.int x u] }) fun _ R s => s.heap.get? l = some { cls := Value.type "tuple", dict := dd, data := Data.seq items n, slots := sl } ∧ R (Except.ok (Flow.ret (Value.ref l))) s := by
  refine Meets.of_wp fun prog w A R s h => ?_
  cases s with
  | mk hp g d tk os =>
  obtain ⟨hl, h⟩ := h
  unfold Builtin.«tuple.__mul__»
  show wpAny _ _ (@ite (Sem PySem.Fin) _ _ _ _) _ _ _
  refine wpAny_ite_false (by rw [c0]; rfl) ?_
  show wpAny _ _ (@Bind.bind _ _ _ _ _ _) _ _ _
  refine wpAny_bind ?_
  show wpAny _ _ (@Bind.bind _ _ _ _ _ _) _ _ _
  refine wpAny_bind ?_
  show wpAny _ _ (@Bind.bind _ _ _ _ _ _) _ _ _
  refine wpAny_bind ?_
  refine wpAny_load' hl ?_
  refine wpAny_pure ?_
  refine wpAny_pure ?_
  refine wpAny_ite_true (by rw [c1]; rfl) ?_
  refine wpAny_bind ?_
  unfold Builtin.Tuple.tupleIsExact
  refine wpAny_bind (wpAny_typeOf_ref hl (wpAny_pure ?_))
  refine wpAny_ite_true (by rfl) ?_
  refine wpAny_bind (wpAny_rule ?_)
  refine wpAny_pure ?_
  exact ⟨_, rfl, h⟩
def rRepS (K : Frag) : R2 := fun x y H Q => ∃ (l : Addr) (k : Int) (xs : List V), x = .ref l ∧ y = .int k ∧ SqT K H l xs ∧ xs ≠ [] ∧ -1000 ≤ k ∧ ((k = 1 ∧ Q (.ref l) H) ∨ (k ≤ 0 ∧ ∀ p, H p = none → Q (.ref p) (upd H p (.tup []))))
theorem op_repS {X : Cx} : OpR X (binaryOp Operator.Mult) (rRepS X.K) := by
  intro pins s σ H x y v u Q I rx ry h
  obtain ⟨l, k, xs, rfl, rfl, hT, hne, hk, h⟩ := h
  cases rx
  obtain ⟨t, rfl⟩ := ry
  obtain ⟨its, r, ⟨o, ho⟩, hs⟩ := I.tuple hT
  cases o with
  | mk cls dd data sl =>
  obtain ⟨ho, hc, n, hd⟩ := ho
  dsimp only at hc hd
  subst hc
  subst hd
  have hle : its.length = xs.length := r.length.symm
  have hi : its.toArray.isEmpty = false := by
    cases its with
    | nil => exact absurd (List.eq_nil_of_length_eq_zero hle.symm) hne
    | cons a b => rfl
  have k1 : k ≤ 1 := by rcases h with ⟨rfl, _⟩ | ⟨h, _⟩ <;> omega
  have c0 : (decide (k < -2 ^ 63) || decide (k ≥ 2 ^ 63)) = false := by
    rw [decide_eq_false (by omega), decide_eq_false (by omega)]
    rfl
  refine wpAny_binaryOp_repeat_ref ?d ⟨_, ho, rfl⟩ (fun s' => typeIs_int s' k t) noFill_tuple_mul F.fills_int_mul F.slot_int_rmul repeat_tuple F.slot_int_index.lookup (call_meets F.slot_int_rmul (typeIs_int s k t) F.entry_int_rmul (F.args_int_rmul_2 (Value.int k t) (Value.ref l)) (int_rmul_tuple k t l its.toArray n dd sl) ⟨ho, rfl, ⟨_, ho, rfl⟩, ?m⟩)
  case d => decide
  rcases h with ⟨h1, q⟩ | ⟨h1, q⟩
  · refine call_meets F.slot_tuple_mul ⟨_, ho, rfl⟩ F.entry_tuple_mul (F.args_tuple_mul_2 (Value.ref l) (Value.int k t)) (tup_mul1 l its.toArray n dd sl k t c0 (by rw [hi, h1]; rfl)) ⟨ho, ?_⟩
    exact ⟨V.ref l, H, I, rfl, q⟩
  · refine call_meets F.slot_tuple_mul ⟨_, ho, rfl⟩ F.entry_tuple_mul (F.args_tuple_mul_2 (Value.ref l) (Value.int k t)) (tup_mul0 l its.toArray n dd sl k t c0 (by rw [hi, Bool.false_or]; exact beq_eq_false_iff_ne.mpr (by omega)) (by rw [decide_eq_true h1]; rfl)) ⟨ho, ?_⟩
    exact ⟨V.ref s.heap.objs.size, upd H s.heap.objs.size (.tup []), Inv.laid I (fun b ob q => Heap.get?_push_of_some _ q) (Nat.le_refl _) ⟨Nat.zero_le _, [], .nil, IsTup.new s.heap #[]⟩, rfl, q _ (HOk.fresh I.hok (Nat.le_refl _))⟩
section
variable {γ ι : Type} {B : Bs γ ι} {X : Cx}
theorem op_repA (hK : B.K = X.K) : OpR X (binaryOp Operator.Mult) (fun x y H Q => rRepT B.K x y H Q ∨ rRepS B.K x y H Q) := by
  rw [hK]
  exact OpR.or op_repT op_repS
theorem os_repT : OpS2 B oRepT (fun x y H Q => rRepT B.K x y H Q ∨ rRepS B.K x y H Q) := by
  intro S e g g1 σ H0 H x y z vx vy Q R x0 i1 ox oy hz hq
  unfold oRepT at hz
  split at hz
  · rename_i ds k
    split at hz
    · rename_i hl
      cases hz
      obtain ⟨l0, l1, k0, k1⟩ := hl
      have oxc := ox
      cases ox with
      | @tup a xs _ h1 h2 =>
      cases oy
      have ne : xs ≠ [] := by
        intro e
        have := h2.length
        rw [e] at this
        simp at this
        omega
      by_cases c : 2 ≤ k
      · refine .inl ⟨a, k, xs, rfl, rfl, tup_seq h1, ne, c, k1, by rw [h2.length]; exact l1, fun p hp => ?_⟩
        exact hq _ _ (.inr ⟨p, _, hp, rfl⟩) (At.mkT R x0 i1 (h2.rep _) hp)
      · refine .inr ⟨a, k, xs, rfl, rfl, tup_seq h1, ne, k0, ?_⟩
        by_cases c1 : k = 1
        · refine .inl ⟨c1, ?_⟩
          have e1 : (List.replicate k.toNat ds).flatten = ds := by
            rw [c1]
            show ([ds] : List (List D)).flatten = ds
            simp
          rw [e1] at hq
          exact hq _ H (.inl rfl) oxc
        · refine .inr ⟨by omega, fun p hp => ?_⟩
          have e1 : (List.replicate k.toNat ds).flatten = [] := by
            rw [Int.toNat_eq_zero.mpr (by omega)]
            rfl
          rw [e1] at hq
          exact hq _ _ (.inr ⟨p, _, hp, rfl⟩) (At.mkT R x0 i1 .nil hp)
    · cases hz
  · cases hz
end
end PB

set_option Elab.async false
set_option linter.all false
set_option maxRecDepth 100000
set_option maxHeartbeats 4000000
namespace PB
open PySem PySem.Spec PyProof.Rows L2
/-! ### a text no times, once; a list so many times -/
theorem op_mulStr {X : Cx} : OpR X (binaryOp Operator.Mult) (fun x y H Q => ∃ (i : Str) (n : Int), x = .str i ∧ y = .int n ∧ ((n = 0 ∧ Q (.str Str.empty) H) ∨ (n = 1 ∧ Q (.str i) H))) := by
  intro pins s σ H x y v u Q I rx ry h
  obtain ⟨i, n, rfl, rfl, h⟩ := h
  obtain ⟨t, rfl⟩ := rx
  obtain ⟨t', rfl⟩ := ry
  rcases h with ⟨rfl, q⟩ | ⟨rfl, q⟩
  · refine PySem.P.mul_str_none (by decide) (by decide) ?_
    exact ⟨V.str Str.empty, H, I.tok _, ⟨_, rfl⟩, q⟩
  · refine PySem.P.mul_str (by decide) (fun _ h => by simp at h) (fun _ h => by simp at h) ?_
    show ((if (1 : Int) < 1 then _ else _) : Made).post _ _
    rw [if_neg (by decide), if_pos (by simp)]
    exact ⟨V.str i, H, I, ⟨t, rfl⟩, q⟩
section
variable {γ ι : Type} {B : Bs γ ι} {X : Cx}
theorem os_repX : OpS2 B oRepX (fun x y H Q => ∃ (i : Str) (n : Int), x = .str i ∧ y = .int n ∧ ((n = 0 ∧ Q (.str Str.empty) H) ∨ (n = 1 ∧ Q (.str i) H))) := by
  intro S e g g1 σ H0 H x y z vx vy Q R x0 i1 ox oy hz hq
  unfold oRepX at hz
  split at hz
  · rename_i s n
    split at hz
    · rename_i h0
      cases hz
      cases ox
      cases oy
      refine ⟨_, _, rfl, rfl, .inl ⟨h0, ?_⟩⟩
      exact hq _ H (.inl rfl) (.str [] (by decide) rfl)
    · split at hz
      · rename_i h1
        cases hz
        have oxc := ox
        cases ox
        cases oy
        exact ⟨_, _, rfl, rfl, .inr ⟨h1, hq _ H (.inl rfl) oxc⟩⟩
      · cases hz
  · cases hz
theorem os_rep : OpS2 B oRep rRep := by
  intro S e g g1 σ H0 H x y z vx vy Q R x0 i1 ox oy hz hq
  unfold oRep at hz
  split at hz
  · rename_i k
    split at hz
    · rename_i ds kd
      split at hz
      · rename_i hl
        cases hz
        obtain ⟨p, ys, rfl, hp, ap⟩ := ox.items R kd
        cases oy
        have hk := hl.2
        have kb : -(2 ^ 63) ≤ k ∧ k < 2 ^ 63 := by
          have : k.natAbs.log2 < 62 := hk
          have h2 : k.natAbs < 2 ^ 62 := Nat.lt_of_lt_of_le Nat.lt_log2_self (Nat.pow_le_pow_right (by decide) this)
          omega
        refine ⟨p, k, ys, rfl, rfl, hp, kb.1, kb.2, by rw [ap.length]; exact szle hl.1, fun l hl => ?_⟩
        exact hq _ _ (.inr ⟨l, _, hl, rfl⟩) (VOk.mk x0 i1 (ap.rep _) hl)
      · cases hz
    · cases hz
  · cases hz
end
end PB

set_option Elab.async false
set_option linter.all false
set_option maxRecDepth 100000
set_option maxHeartbeats 4000000
namespace PB
open PySem PySem.Spec PyProof.Rows L2
/-! ### x.insert(k, e); x.pop(k) -/
section
variable {K : Frag} {O : Addr → Prop} {H : Hp}
theorem AtL.erase {xs : List V} {ds : List D} (n : Nat) (h : AtL K O H xs ds) : AtL K O H (xs.eraseIdx n) (ds.eraseIdx n) := by
  rw [List.eraseIdx_eq_take_drop_succ, List.eraseIdx_eq_take_drop_succ]
  exact (h.take n).app (h.drop (n + 1))
end
section
variable {γ ι : Type} {B : Bs γ ι} {W : WX} {X : Cx} {pos : Pos} {a : Expr} {es : List Expr} {mr : MA γ}
theorem pb_insert {i : Nat} {x : Str} {px apos : Pos} (hK : B.K = X.K) (hN : X.N[i]? = some x) (ha : PA X (a :: es) (RA B W mr)) (hv : Vis X.env.scope x := by first | exact Or.inl rfl | exact Or.inr (Or.inl rfl)) (hd : (x == ("__debug__" : Str)) = false := by decide) (hcd : (x == ("__classdict__" : Str)) = false := by decide)
    (hbase : attributeBase (.Name x px) "insert" X.env (eval (.Name x px) X.env) = eval (.Name x px) X.env := by rfl)
    (hfew : ((backTo pos (starEach (a :: es) X.env)).all (fun x => !x.1) && (backToKw pos (keywordEach [] X.env)).all (fun x => x.1.isSome)
      && decide ((a :: es).length + ([] : List Keyword).length + (if ([] : List Keyword).isEmpty then 0 else 1) < 30)) = true := by rfl)
    (hline : (apos.endLine == pos.line) = true := by rfl) (hs : starEach (a :: es) X.env = (false, eval a X.env) :: starEach es X.env := by rfl) (hplain : (backTo pos (starEach es X.env)).any (·.1) = false := by rfl) {epos : Pos}
    (hsw : swapsWith (.Call (.Attribute (.Name x px) "insert" apos) (a :: es) [] pos) none epos.line X.env = pure false := by rfl) :
    PS X (.Expr (.Call (.Attribute (.Name x px) "insert" apos) (a :: es) [] pos) epos) (RS B W (mIns i mr)) := by
  refine ps_w (ps_expr (pe_bm PySem.F.plainAttrs_list PySem.F.slot_list_insert PySem.F.type_list_insert mt_insert (pe_var hN hv hd hcd) ha hbase hfew hline hs hplain) hsw) fun Dd σ H ⟨S, e, g, R, h⟩ => ?_
  unfold mIns at h
  have sl := R.sl i
  cases k : gt e i with
  | un =>
    rw [k] at h
    exact h.elim
  | dat d =>
    rw [k] at h
    exact h.elim
  | xc y =>
    rw [k] at h
    exact h.elim
  | gh y =>
    rw [k] at h
    exact h.elim
  | own ds =>
    rw [k] at h sl
    obtain ⟨p, xs, ev, hp, al⟩ := sl
    refine ⟨.ref p, ev, .inl ⟨rfl, xs, SqL.of hp⟩, S, e, g, R, RSK.bind R h fun ys g1 vs H1 x1 i1 o1 h1 => ?_⟩
    have R1 := R.exe x1 i1
    split at h1
    · rename_i n y
      split at h1
      · rename_i d ks
        split at h1
        · rename_i hz
          cases o1 with
          | cons ok os =>
          cases os with
          | cons oy os =>
          cases os
          cases ok
          have op : OwnA e σ p := ⟨i, ds, k, ev⟩
          have hp1 : H1 p = some (.lst xs) := x1 p _ hp (R.notF op)
          have al1 := R.atL x1 al
          obtain ⟨R2, s2⟩ := R1.upd_own (es := ds.take n.toNat ++ [d] ++ ds.drop n.toNat) k ev (((al1.take n.toNat).app (.cons (oy.sto R ks) .nil)).app (al1.drop n.toNat))
          exact ⟨p, xs, n, _, rfl, rfl, hp1, by rw [al1.length]; exact szlt hz.1, hz.2.1, by have := hz.2.2; omega, h1 _ _ R2 (.trans R1 (.exe R x1) s2)⟩
        · exact h1.elim
      · exact h1.elim
    · exact h1.elim
theorem pb_popAt {i : Nat} {x : Str} {px apos : Pos} (hK : B.K = X.K) (hN : X.N[i]? = some x) (ha : PA X (a :: es) (RA B W mr)) (hv : Vis X.env.scope x := by first | exact Or.inl rfl | exact Or.inr (Or.inl rfl)) (hd : (x == ("__debug__" : Str)) = false := by decide) (hcd : (x == ("__classdict__" : Str)) = false := by decide)
    (hbase : attributeBase (.Name x px) "pop" X.env (eval (.Name x px) X.env) = eval (.Name x px) X.env := by rfl)
    (hfew : ((backTo pos (starEach (a :: es) X.env)).all (fun x => !x.1) && (backToKw pos (keywordEach [] X.env)).all (fun x => x.1.isSome)
      && decide ((a :: es).length + ([] : List Keyword).length + (if ([] : List Keyword).isEmpty then 0 else 1) < 30)) = true := by rfl)
    (hline : (apos.endLine == pos.line) = true := by rfl) (hs : starEach (a :: es) X.env = (false, eval a X.env) :: starEach es X.env := by rfl) (hplain : (backTo pos (starEach es X.env)).any (·.1) = false := by rfl) {epos : Pos}
    (hsw : swapsWith (.Call (.Attribute (.Name x px) "pop" apos) (a :: es) [] pos) none epos.line X.env = pure false := by rfl) :
    PS X (.Expr (.Call (.Attribute (.Name x px) "pop" apos) (a :: es) [] pos) epos) (RS B W (mPopAt i mr)) := by
  refine ps_w (ps_expr (pe_bm PySem.F.plainAttrs_list PySem.F.slot_list_pop PySem.F.type_list_pop mt_popAt (pe_var hN hv hd hcd) ha hbase hfew hline hs hplain) hsw) fun Dd σ H ⟨S, e, g, R, h⟩ => ?_
  unfold mPopAt at h
  have sl := R.sl i
  cases k : gt e i with
  | un =>
    rw [k] at h
    exact h.elim
  | dat d =>
    rw [k] at h
    exact h.elim
  | xc y =>
    rw [k] at h
    exact h.elim
  | gh y =>
    rw [k] at h
    exact h.elim
  | own ds =>
    rw [k] at h sl
    obtain ⟨p, xs, ev, hp, al⟩ := sl
    refine ⟨.ref p, ev, .inl ⟨rfl, xs, SqL.of hp⟩, S, e, g, R, RSK.bind R h fun ys g1 vs H1 x1 i1 o1 h1 => ?_⟩
    have R1 := R.exe x1 i1
    split at h1
    · rename_i n
      split at h1
      · rename_i hz
        cases o1 with
        | cons ok os =>
        cases os
        cases ok
        have op : OwnA e σ p := ⟨i, ds, k, ev⟩
        have hp1 : H1 p = some (.lst xs) := x1 p _ hp (R.notF op)
        have al1 := R.atL x1 al
        obtain ⟨R2, s2⟩ := R1.upd_own (es := ds.eraseIdx n.toNat) k ev (al1.erase n.toNat)
        have hl : n.toNat < xs.length := by
          rw [al1.length]
          omega
        have sq : seqIndex? n xs.length = some n.toNat := by
          unfold seqIndex?
          have h0 : ¬ n < 0 := by omega
          have h1 : (decide (0 ≤ n) && decide (n < (xs.length : Int))) = true := by
            rw [decide_eq_true hz.1, decide_eq_true (by rw [al1.length]; exact hz.2.1)]
            rfl
          dsimp only
          rw [if_neg h0, if_pos h1]
        exact ⟨p, xs, n, n.toNat, xs[n.toNat], rfl, rfl, hp1, by omega, by have := hz.2.2; omega, sq, List.getElem?_eq_getElem hl, h1 _ _ R2 (.trans R1 (.exe R x1) s2)⟩
      · exact h1.elim
    · exact h1.elim
end
end PB

set_option Elab.async false
set_option linter.all false
set_option maxRecDepth 100000
set_option maxHeartbeats 4000000
namespace PB
open PySem PySem.Spec PyProof.Rows L2
open PySem.W (alike alikeAll dataLt keyToks keyToksAll AlikeAll dataLt_int dataLt_str dataLt_tuple dataLt_cons)
/-! ### the order of data; min, sorted -/
theorem lexN_lt : ∀ a b : List Nat, decide (a < b) = lexN a b
  | [], [] => by simp [lexN]
  | [], _ :: _ => by simp [lexN]
  | _ :: _, [] => by simp [lexN]
  | x :: xs, y :: ys => by
    unfold lexN
    by_cases h : x = y
    · subst h
      rw [if_pos rfl, ← lexN_lt xs ys]
      simp [List.cons_lt_cons_iff]
    · rw [if_neg h]
      simp [List.cons_lt_cons_iff, h]
mutual
theorem alk_toPy : ∀ x y : D, alkD x y = true → alike (toPy x) (toPy y) = true
  | .int _, .int _, _ => rfl
  | .str _, .str _, _ => rfl
  | .tup xs, .tup ys, h => alkL_toPy xs ys (by simpa [alkD] using h)
  | .non, _, h => by simp [alkD] at h
  | .bl _, _, h => by simp [alkD] at h
  | .lst _, _, h => by simp [alkD] at h
  | .ref _, _, h => by simp [alkD] at h
  | .int _, .non, h => by simp [alkD] at h
  | .int _, .bl _, h => by simp [alkD] at h
  | .int _, .str _, h => by simp [alkD] at h
  | .int _, .tup _, h => by simp [alkD] at h
  | .int _, .lst _, h => by simp [alkD] at h
  | .int _, .ref _, h => by simp [alkD] at h
  | .str _, .non, h => by simp [alkD] at h
  | .str _, .bl _, h => by simp [alkD] at h
  | .str _, .int _, h => by simp [alkD] at h
  | .str _, .tup _, h => by simp [alkD] at h
  | .str _, .lst _, h => by simp [alkD] at h
  | .str _, .ref _, h => by simp [alkD] at h
  | .tup _, .non, h => by simp [alkD] at h
  | .tup _, .bl _, h => by simp [alkD] at h
  | .tup _, .int _, h => by simp [alkD] at h
  | .tup _, .str _, h => by simp [alkD] at h
  | .tup _, .lst _, h => by simp [alkD] at h
  | .tup _, .ref _, h => by simp [alkD] at h
theorem alkL_toPy : ∀ xs ys : List D, alkL xs ys = true → alikeAll (toPyL xs) (toPyL ys) = true
  | [], [], _ => rfl
  | [], _ :: _, _ => rfl
  | _ :: _, [], _ => rfl
  | x :: xs, y :: ys, h => by
    simp only [alkL, Bool.and_eq_true] at h
    show (W.alike (toPy x) (toPy y) && alikeAll (toPyL xs) (toPyL ys)) = true
    rw [alk_toPy x y h.1, alkL_toPy xs ys h.2]
    rfl
end
theorem okE_tup {ds : List D} (h : ∃ n, okE n (.tup ds) = true) : ∃ n, okL n ds = true := by
  obtain ⟨n, h⟩ := h
  cases n <;> simp [okE] at h
  exact ⟨_, h⟩
theorem okL_cons {d : D} {ds : List D} (h : ∃ n, okL n (d :: ds) = true) : (∃ n, okE n d = true) ∧ ∃ n, okL n ds = true := by
  obtain ⟨n, h⟩ := h
  simp only [okL, Bool.and_eq_true] at h
  exact ⟨⟨n, h.1⟩, n, h.2⟩
mutual
theorem lt_toPy : ∀ x y : D, alkD x y = true → (∃ n, okE n x = true) → (∃ n, okE n y = true) → dataLt (toPy x) (toPy y) = ltD x y
  | .int i, .int j, _, _, _ => by rw [show toPy (.int i) = .int i from rfl, show toPy (.int j) = .int j from rfl, dataLt_int]; rfl
  | .str s, .str t, _, _, _ => by
    rw [show toPy (.str s) = .str (mkS s) from rfl, show toPy (.str t) = .str (mkS t) from rfl, dataLt_str, mkS_list, mkS_list, lexN_lt]
    rfl
  | .tup xs, .tup ys, h, hx, hy => by
    rw [show toPy (.tup xs) = .tuple (toPyL xs) from rfl, show toPy (.tup ys) = .tuple (toPyL ys) from rfl, dataLt_tuple]
    exact ltL_toPy xs ys (by simpa [alkD] using h) (okE_tup hx) (okE_tup hy)
  | .non, _, h, _, _ => by simp [alkD] at h
  | .bl _, _, h, _, _ => by simp [alkD] at h
  | .lst _, _, h, _, _ => by simp [alkD] at h
  | .ref _, _, h, _, _ => by simp [alkD] at h
  | .int _, .non, h, _, _ => by simp [alkD] at h
  | .int _, .bl _, h, _, _ => by simp [alkD] at h
  | .int _, .str _, h, _, _ => by simp [alkD] at h
  | .int _, .tup _, h, _, _ => by simp [alkD] at h
  | .int _, .lst _, h, _, _ => by simp [alkD] at h
  | .int _, .ref _, h, _, _ => by simp [alkD] at h
  | .str _, .non, h, _, _ => by simp [alkD] at h
  | .str _, .bl _, h, _, _ => by simp [alkD] at h
  | .str _, .int _, h, _, _ => by simp [alkD] at h
  | .str _, .tup _, h, _, _ => by simp [alkD] at h
  | .str _, .lst _, h, _, _ => by simp [alkD] at h
  | .str _, .ref _, h, _, _ => by simp [alkD] at h
  | .tup _, .non, h, _, _ => by simp [alkD] at h
  | .tup _, .bl _, h, _, _ => by simp [alkD] at h
  | .tup _, .int _, h, _, _ => by simp [alkD] at h
  | .tup _, .str _, h, _, _ => by simp [alkD] at h
  | .tup _, .lst _, h, _, _ => by simp [alkD] at h
  | .tup _, .ref _, h, _, _ => by simp [alkD] at h
theorem ltL_toPy : ∀ xs ys : List D, alkL xs ys = true → (∃ n, okL n xs = true) → (∃ n, okL n ys = true) → PyProof.Rows.lexLt itemOrd (keyToksAll (toPyL xs)) (keyToksAll (toPyL ys)) = ltL xs ys
  | [], [], _, _, _ => by rfl
  | [], y :: ys, _, _, _ => by
    show PyProof.Rows.lexLt itemOrd [.inl 0] (.inl 1 :: (keyToks (toPy y) ++ keyToksAll (toPyL ys))) = true
    rfl
  | x :: xs, [], _, _, _ => by
    show PyProof.Rows.lexLt itemOrd (.inl 1 :: (keyToks (toPy x) ++ keyToksAll (toPyL xs))) [.inl 0] = false
    rfl
  | x :: xs, y :: ys, h, hx, hy => by
    simp only [alkL, Bool.and_eq_true] at h
    show PyProof.Rows.lexLt itemOrd (keyToksAll (toPy x :: toPyL xs)) (keyToksAll (toPy y :: toPyL ys)) = _
    rw [dataLt_cons (alk_toPy x y h.1), eqv_toPy x y (okL_cons hx).1 (okL_cons hy).1, ltL_toPy xs ys h.2 (okL_cons hx).2 (okL_cons hy).2, lt_toPy x y h.1 (okL_cons hx).1 (okL_cons hy).1]
    rfl
end
theorem alk_ne {x y : D} (h : alkD x y = true) : toPy x ≠ .none := by
  cases x with
  | int i => exact fun z => by cases z
  | str i => exact fun z => by cases z
  | tup i => exact fun z => by cases z
  | _ => simp [alkD] at h
theorem alkAll_mem {ds : List D} (h : alkAll ds = true) {x y : D} (hx : x ∈ ds) (hy : y ∈ ds) : alkD x y = true :=
  List.all_eq_true.mp (List.all_eq_true.mp h x hx) y hy
theorem toPyL_map : ∀ ds : List D, toPyL ds = ds.map toPy
  | [] => rfl
  | d :: ds => by
    show toPy d :: toPyL ds = toPy d :: ds.map toPy
    rw [toPyL_map ds]
theorem alkAll_toPy {ds : List D} (h : alkAll ds = true) : AlikeAll (toPyL ds) := by
  rw [toPyL_map]
  refine ⟨fun x hx y hy => ?_, fun x hx => ?_⟩
  · obtain ⟨a, ha, rfl⟩ := List.mem_map.mp hx
    obtain ⟨b, hb, rfl⟩ := List.mem_map.mp hy
    exact alk_toPy a b (alkAll_mem h ha hb)
  · obtain ⟨a, ha, rfl⟩ := List.mem_map.mp hx
    exact alk_ne (alkAll_mem h ha ha)
theorem okL_mem {n : Nat} : ∀ {ds : List D}, okL n ds = true → ∀ d ∈ ds, okE n d = true
  | [], _, d, h => by cases h
  | x :: xs, h, d, hd => by
    simp only [okL, Bool.and_eq_true] at h
    rcases List.mem_cons.mp hd with rfl | hd
    · exact h.1
    · exact okL_mem h.2 d hd
theorem minD_mem : ∀ (ds : List D) (d : D), minD d ds ∈ d :: ds
  | [], d => List.mem_cons_self
  | x :: xs, d => by
    unfold minD
    have := minD_mem xs (if ltD x d = true then x else d)
    rcases List.mem_cons.mp this with h | h
    · rw [h]
      split
      · exact List.mem_cons_of_mem _ List.mem_cons_self
      · exact List.mem_cons_self
    · exact List.mem_cons_of_mem _ (List.mem_cons_of_mem _ h)
theorem minD_toPy {S : List D} (hS : alkAll S = true) (ho : okL 59 S = true) : ∀ (ds : List D) (d : D), d ∈ S → (∀ x ∈ ds, x ∈ S) → W.minD (toPy d) (toPyL ds) = toPy (minD d ds)
  | [], d, _, _ => rfl
  | x :: xs, d, hd, hx => by
    have hxS := hx x List.mem_cons_self
    have e : (if dataLt (toPy x) (toPy d) then toPy x else toPy d) = toPy (if ltD x d = true then x else d) := by
      rw [lt_toPy x d (alkAll_mem hS hxS hd) ⟨59, okL_mem ho x hxS⟩ ⟨59, okL_mem ho d hd⟩]
      cases ltD x d <;> rfl
    show W.minD (if dataLt (toPy x) (toPy d) then toPy x else toPy d) (toPyL xs) = _
    rw [e, minD_toPy hS ho xs _ (by split <;> assumption) fun y hy => hx y (List.mem_cons_of_mem _ hy)]
    rfl
mutual
theorem toPy_inj : ∀ {x y : D}, (∃ n, okE n x = true) → (∃ n, okE n y = true) → toPy x = toPy y → x = y
  | .non, y, _, hy, h => by
    cases y with
    | non => rfl
    | ref _ =>
      obtain ⟨n, hy⟩ := hy
      cases n <;> simp [okE] at hy
    | _ => cases h
  | .bl _, y, _, hy, h => by cases y <;> first | (cases h; rfl) | cases h
  | .int _, y, _, hy, h => by cases y <;> first | (cases h; rfl) | cases h
  | .str l, y, _, hy, h => by
    cases y with
    | str m => rw [mkS_inj (PyData.str.inj h)]
    | _ => cases h
  | .tup xs, y, hx, hy, h => by
    cases y with
    | tup ys => rw [toPyL_inj (okE_tup hx) (okE_tup hy) (PyData.tuple.inj h)]
    | _ => cases h
  | .lst xs, y, hx, hy, h => by
    cases y with
    | lst ys => rw [toPyL_inj (by obtain ⟨n, hx⟩ := hx; cases n <;> simp [okE] at hx; exact ⟨_, hx⟩) (by obtain ⟨n, hy⟩ := hy; cases n <;> simp [okE] at hy; exact ⟨_, hy⟩) (PyData.list.inj h)]
    | _ => cases h
  | .ref _, _, hx, _, _ => by obtain ⟨n, h⟩ := hx; cases n <;> simp [okE] at h
theorem toPyL_inj : ∀ {xs ys : List D}, (∃ n, okL n xs = true) → (∃ n, okL n ys = true) → toPyL xs = toPyL ys → xs = ys
  | [], [], _, _, _ => rfl
  | [], _ :: _, _, _, h => by cases h
  | _ :: _, [], _, _, h => by cases h
  | x :: xs, y :: ys, hx, hy, h => by
    have h : toPy x :: toPyL xs = toPy y :: toPyL ys := h
    rw [toPy_inj (okL_cons hx).1 (okL_cons hy).1 (List.cons.inj h).1, toPyL_inj (okL_cons hx).2 (okL_cons hy).2 (List.cons.inj h).2]
end
theorem Paired.get2 {α β : Type} {F : α → β → Prop} : ∀ {xs : List α} {ys : List β} {i : Nat} {y : β}, Paired F xs ys → ys[i]? = some y → ∃ x, xs[i]? = some x ∧ F x y
  | _, _, _, _, .nil, h => by simp at h
  | _, _, 0, _, .cons r _, h => by
    simp at h
    subst h
    exact ⟨_, rfl, r⟩
  | _, _, i + 1, y, .cons _ t, h => by
    obtain ⟨x, e, q⟩ := Paired.get2 (i := i) (y := y) t (by simpa using h)
    exact ⟨x, by simpa using e, q⟩
section
variable {γ ι : Type} {B : Bs γ ι} {X : Cx}
def rMinT (K : Frag) : List V → Hp → VK → Prop := fun vs H Q => ∃ (O : Addr → Prop) (a : Addr) (xs : List V) (d : D) (ds : List D), vs = [V.ref a] ∧ (SqL K H a xs ∨ SqT K H a xs) ∧ AtL K O H xs (d :: ds) ∧ alkAll (d :: ds) = true ∧ okL 59 (d :: ds) = true ∧
  ∀ (i : Nat) (v : V), xs[i]? = some v → (d :: ds)[i]? = some (minD d ds) → Q v H
theorem cr_minD (hc : X.calm = true) (hu : X.A.units + 65 < cLine) : CallR X (.builtin "min") (rMinT X.K) := by
  intro pins s σ H vs us Q I r h
  obtain ⟨O, a, xs, d, ds, rfl, hs, al, hk, ho, q⟩ := h
  rw [Vals.ref1 r]
  obtain ⟨hy, hd⟩ := layL_of al ho
  have fin : ∀ (its : List Value) (as : List Addr), Vals xs its → ReadsAll s.heap its (toPyL (d :: ds)) as → ∀ (i : Nat) v h' tk bs, its.toArray[i]? = some v → Reads h' v (W.minD (toPy d) (toPyL ds)) bs → (∀ b o, s.heap.get? b = some o → h'.get? b = some o) → EP X pins σ Q v { s with heap := h', toks := tk } := by
    intro its as rv rd i v h' tk bs hv rm hkp
    rw [List.getElem?_toArray] at hv
    obtain ⟨x, hx, rx⟩ := Paired.get2 rv hv
    obtain ⟨e, he, ae⟩ := al.get' hx
    have hem : e ∈ d :: ds := List.mem_of_getElem? he
    obtain ⟨cs, rc⟩ := Dp.reads I (toPy e) x v (dp_of ae (okL_mem ho e hem)) rx
    have ee : toPy e = toPy (minD d ds) := by
      rw [← minD_toPy hk ho ds d List.mem_cons_self fun x hx => List.mem_cons_of_mem _ hx]
      exact SeqAt.Reads.unique _ _ v cs bs (lay_of ae (okL_mem ho e hem)).1 (Reads.keeps hkp rc) rm
    have e2 : e = minD d ds := toPy_inj ⟨59, okL_mem ho e hem⟩ ⟨59, okL_mem ho _ (minD_mem ds d)⟩ ee
    exact ⟨x, H, I.kept hkp, rx, q i x hx (by rw [← e2]; exact he)⟩
  have hu' : X.A.units + 1 + PyData.depthAll (toPy d :: toPyL ds) < cLine := by
    have hd : PyData.depthAll (toPy d :: toPyL ds) ≤ 59 := hd
    omega
  rcases hs with hs | hs
  · obtain ⟨its, rv, pl, _⟩ := I.list hs
    obtain ⟨as, rd⟩ := Dp.readsAll I (toPyL (d :: ds)) xs its (dpL_of al ho) rv
    obtain ⟨o, n, e, c, _, dd⟩ := pl
    exact W.min_list_data (I.ok.hd hc) ⟨o, e, c, n, dd⟩ (show ReadsAll s.heap its.toArray.toList (toPy d :: toPyL ds) as from rd) (alkAll_toPy hk) hu' (fin its as rv rd)
  · obtain ⟨its, rv, pl, _⟩ := I.tuple hs
    obtain ⟨as, rd⟩ := Dp.readsAll I (toPyL (d :: ds)) xs its (dpL_of al ho) rv
    exact W.min_tuple_data (I.ok.hd hc) pl (show ReadsAll s.heap its.toArray.toList (toPy d :: toPyL ds) as from rd) (alkAll_toPy hk) hu' (fin its as rv rd)
theorem cl_minT (hK : B.K = X.K) (hc : X.calm = true) (hu : X.A.units + 65 < cLine) : CallR X (.builtin "min") (rMinT B.K) := by
  rw [hK]
  exact cr_minD hc hu
theorem os_minT : OpSN B oMinT (rMinT B.K) := by
  intro S e g g1 σ H0 H xs z vs Q R x0 i1 os hz hq
  unfold oMinT at hz
  split at hz
  · split at hz
    · rename_i x d ds k
      split at hz
      · rename_i hc
        cases hz
        cases os with
        | cons o os =>
        cases os
        have fin : ∀ (p : Addr) (ys : List V), (SqL B.K H p ys ∨ SqT B.K H p ys) → AtL B.K (Om ⟨B, S⟩ e σ) H ys (d :: ds) → rMinT B.K [.ref p] H Q := by
          intro p ys hs al
          refine ⟨_, p, ys, d, ds, rfl, hs, al, hc.1, hc.2, fun i v hv hi => ?_⟩
          obtain ⟨w, hw, aw⟩ := al.get hi
          rw [hv] at hw
          cases hw
          exact hq v H (.inl rfl) aw
        unfold Rv.seqI at k
        split at k
        · cases k
          cases o with
          | @tup p xs _ k al => exact fin p xs (.inr (tup_seq k)) al
        · obtain ⟨p, ys, rfl, hp, ap⟩ := o.items R k
          exact fin p ys (.inl (SqL.of hp)) ap
      · cases hz
    · cases hz
  · cases hz
/-- a < b -/
def rLtD (K : Frag) : R2 := fun x y H Q => ∃ (O : Addr → Prop) (dx dy : D), At K O H x dx ∧ At K O H y dy ∧ alkD dx dy = true ∧ okE 60 dx = true ∧ okE 60 dy = true ∧ Q (.bl (ltD dx dy)) H
theorem op_ltD (hu : X.A.units + 65 < cLine) : OpR X (compareOp .Lt) (rLtD X.K) := by
  intro pins s σ H x y v u Q I rx ry h
  obtain ⟨O, dx, dy, ax, ay, hk, ox, oy, q⟩ := h
  obtain ⟨as, r1⟩ := Dp.reads I _ x v (dp_of ax ox) rx
  obtain ⟨bs, r2⟩ := Dp.reads I _ y u (dp_of ay oy) ry
  refine W.lt_data r1 r2 (alk_toPy _ _ hk) (alk_ne hk) ?_ ?_
  · have := (lay_of ax ox).2
    omega
  · rw [lt_toPy dx dy hk ⟨_, ox⟩ ⟨_, oy⟩]
    exact ⟨.bl _, H, I, rfl, q⟩
theorem or_ltD (hK : B.K = X.K) (hu : X.A.units + 65 < cLine) : OpR X (compareOp .Lt) (rLtD B.K) := by
  rw [hK]
  exact op_ltD hu
theorem os_ltD : OpS2 B oLtD (rLtD B.K) := by
  intro S e g g1 σ H0 H x y z vx vy Q R x0 i1 ox oy hz hq
  unfold oLtD at hz
  split at hz
  · rename_i hc
    cases hz
    exact ⟨S, x.val, y.val, VOk.weak R ox, VOk.weak R oy, hc.1, hc.2.1, hc.2.2, hq _ H (.inl rfl) (.bl _)⟩
  · cases hz
end
end PB

set_option Elab.async false
set_option linter.all false
namespace PB
/-! ### what a piece of code comes to, as a condition; each step's rule -/
section
variable {γ α β : Type}
def Sat (r : Rs γ α) (Q : α → γ → Prop) : Prop := match r with
  | .ok a g => Q a g
  | _ => False
def SatO (o : Option α) (Q : α → γ → Prop) (g : γ) : Prop := match o with
  | some a => Q a g
  | none => False
theorem Sat_ok (a : α) (g : γ) (Q : α → γ → Prop) : Sat (.ok a g) Q = Q a g := rfl
theorem Sat_ofO (o : Option α) (g : γ) (Q : α → γ → Prop) : Sat (ofO o g) Q = SatO o Q g := by cases o <;> rfl
theorem SatO_some (a : α) (Q : α → γ → Prop) (g : γ) : SatO (some a) Q g = Q a g := rfl
theorem SatO_ite (c : Prop) [Decidable c] (a : α) (Q : α → γ → Prop) (g : γ) : SatO (if c then some a else none) Q g = (c ∧ Q a g) := by
  by_cases h : c
  · rw [if_pos h]
    exact propext ⟨fun q => ⟨h, q⟩, fun q => q.2⟩
  · rw [if_neg h]
    exact propext ⟨fun q => q.elim, fun q => h q.1⟩
theorem Sat_bind (r : Rs γ α) (f : α → γ → Rs γ β) (Q : β → γ → Prop) : Sat (r.bind f) Q = Sat r fun a g => Sat (f a g) Q := by cases r <;> rfl
theorem Sat_okO (r : Rs γ α) (Q : α → γ → Prop) : Sat (okO r) Q = Sat r Q := by cases r <;> rfl
theorem Sat.mono {r : Rs γ α} {Q R : α → γ → Prop} (h : Sat r Q) (k : ∀ a g, Q a g → R a g) : Sat r R := by
  cases r with
  | ok a g => exact k a g h
  | ex x g => exact h
  | no => exact h
theorem Sat.get {r : Rs γ α} {Q : α → γ → Prop} (h : Sat r Q) : ∃ a g, r = .ok a g ∧ Q a g := by
  cases r with
  | ok a g => exact ⟨a, g, rfl, h⟩
  | ex x g => exact h.elim
  | no => exact h.elim
variable {e : Env} {g : γ} {f : Op2} {f1 : Op1} {fN : OpN} {a b c : ME γ} {t u : MT γ} {as : MA γ} {s1 s2 : MS γ} {Q : Rv → γ → Prop} {QB : Bool → γ → Prop} {QA : List Rv → γ → Prop} {QS : Fl → γ → Prop} {QI : List D → γ → Prop} {x y : Rv} {i j k : Nat} {F : MF γ}
def kVar (Q : Rv → γ → Prop) (g : γ) : Sl → Prop
  | .dat d => Q (.dat d) g
  | .own ds => Q (.bor ds) g
  | _ => False
theorem S_var : Sat (mVar i e g) Q = kVar Q g (gt e i) := by
  unfold mVar
  cases gt e i <;> rfl
theorem kVar_dat {d : D} : kVar Q g (.dat d) = Q (.dat d) g := rfl
theorem kVar_own {d : List D} : kVar Q g (.own d) = Q (.bor d) g := rfl
theorem S_C {d : D} : Sat (mC d e g) Q = Q (.dat d) g := rfl
def k1 (f : Op1) (Q : Rv → γ → Prop) (x : Rv) (g : γ) : Prop := SatO (f x) Q g
theorem S_op1 : Sat (mOp1 f1 a e g) Q = Sat (a e g) (k1 f1 Q) := by
  unfold mOp1
  rw [Sat_bind]
  congr 1
  funext x g
  exact Sat_ofO _ _ _
theorem k1_ : k1 f1 Q x g = SatO (f1 x) Q g := rfl
def k2 (f : Op2) (b : ME γ) (e : Env) (Q : Rv → γ → Prop) (x : Rv) (g : γ) : Prop := Sat (b e g) fun y g2 => SatO (f x y) Q g2
def k2b (f : Op2) (Q : Rv → γ → Prop) (x y : Rv) (g : γ) : Prop := SatO (f x y) Q g
theorem S_op2 : Sat (mOp2 f a b e g) Q = Sat (a e g) (k2 f b e Q) := by
  unfold mOp2 k2
  rw [Sat_bind]
  congr 1
  funext x g
  rw [Sat_bind]
  congr 1
  funext y g
  exact Sat_ofO _ _ _
theorem k2_ : k2 f b e Q x g = Sat (b e g) (k2b f Q x) := rfl
theorem k2b_ : k2b f Q x y g = SatO (f x y) Q g := rfl
theorem S_nil : Sat (mNil e g) QA = QA [] g := rfl
def kc (as : MA γ) (e : Env) (Q : List Rv → γ → Prop) (x : Rv) (g : γ) : Prop := Sat (as e g) fun xs g2 => Q (x :: xs) g2
def kcb (Q : List Rv → γ → Prop) (x : Rv) (xs : List Rv) (g : γ) : Prop := Q (x :: xs) g
theorem S_cons : Sat (mCons a as e g) QA = Sat (a e g) (kc as e QA) := by
  unfold mCons kc
  rw [Sat_bind]
  congr 1
  funext x g
  rw [Sat_bind]
  rfl
theorem kc_ : kc as e QA x g = Sat (as e g) (kcb QA x) := rfl
theorem kcb_ {xs : List Rv} : kcb QA x xs g = QA (x :: xs) g := rfl
def kN (f : OpN) (Q : Rv → γ → Prop) (xs : List Rv) (g : γ) : Prop := SatO (f xs) Q g
theorem S_opN : Sat (mOpN fN as e g) Q = Sat (as e g) (kN fN Q) := by
  unfold mOpN kN
  rw [Sat_bind]
  congr 1
  funext x g
  exact Sat_ofO _ _ _
theorem kN_ {xs : List Rv} : kN fN Q xs g = SatO (fN xs) Q g := rfl
def kT (Q : Rv → γ → Prop) (xs : List Rv) (g : γ) : Prop := match stoL xs with
  | some ds => ds.length ≤ SZ ∧ Q (.dat (.tup ds)) g
  | none => False
def kL (Q : Rv → γ → Prop) (xs : List Rv) (g : γ) : Prop := match stoL xs with
  | some ds => ds.length ≤ SZ ∧ Q (.own ds) g
  | none => False
theorem S_tup : Sat (mTup as e g) Q = Sat (as e g) (kT Q) := by
  unfold mTup
  rw [Sat_bind]
  congr 1
  funext xs g
  unfold kT
  cases stoL xs with
  | some ds =>
    dsimp only
    by_cases h : ds.length ≤ SZ
    · rw [if_pos h]
      exact propext ⟨fun q => ⟨h, q⟩, fun q => q.2⟩
    · rw [if_neg h]
      exact propext ⟨fun q => q.elim, fun q => h q.1⟩
  | none => rfl
theorem S_lst : Sat (mLst as e g) Q = Sat (as e g) (kL Q) := by
  unfold mLst
  rw [Sat_bind]
  congr 1
  funext xs g
  unfold kL
  cases stoL xs with
  | some ds =>
    dsimp only
    by_cases h : ds.length ≤ SZ
    · rw [if_pos h]
      exact propext ⟨fun q => ⟨h, q⟩, fun q => q.2⟩
    · rw [if_neg h]
      exact propext ⟨fun q => q.elim, fun q => h q.1⟩
  | none => rfl
theorem stoL_nil : stoL [] = some [] := rfl
def consO (d : D) : Option (List D) → Option (List D)
  | some ds => some (d :: ds)
  | none => none
theorem stoL_dat {d : D} {xs : List Rv} : stoL (.dat d :: xs) = consO d (stoL xs) := by
  show (match (Rv.dat d).sto, stoL xs with | some d, some ds => some (d :: ds) | _, _ => none) = _
  cases stoL xs <;> rfl
theorem stoL_own {d : List D} {xs : List Rv} : stoL (.own d :: xs) = consO (.lst d) (stoL xs) := by
  show (match (Rv.own d).sto, stoL xs with | some d, some ds => some (d :: ds) | _, _ => none) = _
  cases stoL xs <;> rfl
theorem consO_some {d : D} {ds : List D} : consO d (some ds) = some (d :: ds) := rfl
theorem kT_ {xs : List Rv} {ds : List D} (h : stoL xs = some ds) (hl : ds.length ≤ SZ) : kT Q xs g = Q (.dat (.tup ds)) g := by
  unfold kT
  rw [h]
  exact propext ⟨fun q => q.2, fun q => ⟨hl, q⟩⟩
theorem kL_ {xs : List Rv} {ds : List D} (h : stoL xs = some ds) (hl : ds.length ≤ SZ) : kL Q xs g = Q (.own ds) g := by
  unfold kL
  rw [h]
  exact propext ⟨fun q => q.2, fun q => ⟨hl, q⟩⟩
def kCall (F : MF γ) (Q : Rv → γ → Prop) (xs : List Rv) (g : γ) : Prop := match stoL xs with
  | some ds => Sat (F ds g) Q
  | none => False
theorem S_call : Sat (mCall F as e g) Q = Sat (as e g) (kCall F Q) := by
  unfold mCall
  rw [Sat_bind]
  congr 1
  funext xs g
  unfold kCall
  cases stoL xs with
  | some ds => exact Sat_okO _ _
  | none => rfl
theorem kCall_ {xs : List Rv} {ds : List D} (h : stoL xs = some ds) : kCall F Q xs g = Sat (F ds g) Q := by
  unfold kCall
  rw [h]
def kI {α : Type} (A B : Env → γ → Rs γ α) (e : Env) (Q : α → γ → Prop) (c : Bool) (g : γ) : Prop := match c with
  | true => Sat (A e g) Q
  | false => Sat (B e g) Q
theorem S_if : Sat (mIf t a b e g) Q = Sat (t e g) (kI a b e Q) := by
  unfold mIf
  rw [Sat_bind]
  congr 1
  funext c g
  cases c <;> rfl
theorem S_ifS : Sat (mIfS t s1 s2 e g) QS = Sat (t e g) (kI s1 s2 e QS) := by
  unfold mIfS
  rw [Sat_bind]
  congr 1
  funext c g
  cases c <;> rfl
theorem kI_true {A B : Env → γ → Rs γ α} {Q : α → γ → Prop} : kI A B e Q true g = Sat (A e g) Q := rfl
theorem kI_false {A B : Env → γ → Rs γ α} {Q : α → γ → Prop} : kI A B e Q false g = Sat (B e g) Q := rfl
theorem kI_c {A B : Env → γ → Rs γ α} {Q : α → γ → Prop} {c : Bool} (h1 : c = true → Sat (A e g) Q) (h2 : c = false → Sat (B e g) Q) : kI A B e Q c g := by
  cases c
  · exact h2 rfl
  · exact h1 rfl
theorem kI_d {A B : Env → γ → Rs γ α} {Q : α → γ → Prop} {p : Prop} [Decidable p] (h1 : p → Sat (A e g) Q) (h2 : ¬ p → Sat (B e g) Q) : kI A B e Q (decide p) g :=
  kI_c (fun h => h1 (of_decide_eq_true h)) (fun h => h2 (of_decide_eq_false h))
def kAndV (b : ME γ) (e : Env) (Q : Rv → γ → Prop) (x : Rv) (g : γ) : Prop := match x with
  | .dat (.bl true) => Sat (b e g) Q
  | .dat (.bl false) => Q (dB false) g
  | _ => False
def kOrV (b : ME γ) (e : Env) (Q : Rv → γ → Prop) (x : Rv) (g : γ) : Prop := match x with
  | .dat (.bl true) => Q (dB true) g
  | .dat (.bl false) => Sat (b e g) Q
  | _ => False
theorem S_andV : Sat (mAndV a b e g) Q = Sat (a e g) (kAndV b e Q) := by
  unfold mAndV
  rw [Sat_bind]
  congr 1
  funext x g
  unfold kAndV
  cases x with
  | dat d => cases d <;> first
    | rfl
    | (rename_i b; cases b <;> rfl)
  | own d => rfl
  | bor d => rfl
theorem S_orV : Sat (mOrV a b e g) Q = Sat (a e g) (kOrV b e Q) := by
  unfold mOrV
  rw [Sat_bind]
  congr 1
  funext x g
  unfold kOrV
  cases x with
  | dat d => cases d <;> first
    | rfl
    | (rename_i b; cases b <;> rfl)
  | own d => rfl
  | bor d => rfl
theorem kAndV_true : kAndV b e Q (.dat (.bl true)) g = Sat (b e g) Q := rfl
theorem kAndV_false : kAndV b e Q (.dat (.bl false)) g = Q (.dat (.bl false)) g := rfl
theorem kOrV_true : kOrV b e Q (.dat (.bl true)) g = Q (.dat (.bl true)) g := rfl
theorem kOrV_false : kOrV b e Q (.dat (.bl false)) g = Sat (b e g) Q := rfl
theorem S_notV : Sat (mNotV a e g) Q = Sat (a e g) fun x g => match x with
    | .dat (.bl c) => Q (.dat (.bl (!c))) g
    | _ => False := by
  unfold mNotV
  rw [Sat_bind]
  congr 1
  funext x g
  cases x with
  | dat d => cases d <;> first
    | rfl
    | (rename_i b; cases b <;> rfl)
  | own d => rfl
  | bor d => rfl
def kTest (Q : Bool → γ → Prop) (x : Rv) (g : γ) : Prop := match x with
  | .dat (.bl c) => Q c g
  | _ => False
theorem S_test : Sat (mTest a e g) QB = Sat (a e g) (kTest QB) := by
  unfold mTest
  rw [Sat_bind]
  congr 1
  funext x g
  unfold kTest
  cases x with
  | dat d => cases d <;> first
    | rfl
    | (rename_i b; cases b <;> rfl)
  | own d => rfl
  | bor d => rfl
theorem kTest_ {c : Bool} : kTest QB (.dat (.bl c)) g = QB c g := rfl
def kTru (Q : Bool → γ → Prop) (x : Rv) (g : γ) : Prop := SatO (oTru x) Q g
theorem S_tru : Sat (mTru a e g) QB = Sat (a e g) (kTru QB) := by
  unfold mTru kTru
  rw [Sat_bind]
  congr 1
  funext x g
  exact Sat_ofO _ _ _
theorem kTru_ : kTru QB x g = SatO (oTru x) QB g := rfl
def kAnd (u : MT γ) (e : Env) (Q : Bool → γ → Prop) (c : Bool) (g : γ) : Prop := match c with
  | true => Sat (u e g) Q
  | false => Q false g
def kOr (u : MT γ) (e : Env) (Q : Bool → γ → Prop) (c : Bool) (g : γ) : Prop := match c with
  | true => Q true g
  | false => Sat (u e g) Q
def kNot (Q : Bool → γ → Prop) (c : Bool) (g : γ) : Prop := Q (!c) g
theorem S_and : Sat (mAnd t u e g) QB = Sat (t e g) (kAnd u e QB) := by
  unfold mAnd
  rw [Sat_bind]
  congr 1
  funext c g
  cases c <;> rfl
theorem S_or : Sat (mOr t u e g) QB = Sat (t e g) (kOr u e QB) := by
  unfold mOr
  rw [Sat_bind]
  congr 1
  funext c g
  cases c <;> rfl
theorem S_not : Sat (mNot t e g) QB = Sat (t e g) (kNot QB) := by
  unfold mNot
  rw [Sat_bind]
  rfl
theorem kAnd_true : kAnd u e QB true g = Sat (u e g) QB := rfl
theorem kAnd_false : kAnd u e QB false g = QB false g := rfl
theorem kOr_true : kOr u e QB true g = QB true g := rfl
theorem kOr_false : kOr u e QB false g = Sat (u e g) QB := rfl
theorem kNot_ {c : Bool} : kNot QB c g = QB (!c) g := rfl
/-- statements -/
def kS (s2 : MS γ) (Q : Fl → γ → Prop) (f : Fl) (g : γ) : Prop := match f with
  | .nx e => Sat (s2 e g) Q
  | .rt r => Q (.rt r) g
  | .bk e => Q (.bk e) g
  | .ct e => Q (.ct e) g
theorem S_seq : Sat (mSeq s1 s2 e g) QS = Sat (s1 e g) (kS s2 QS) := by
  unfold mSeq
  rw [Sat_bind]
  congr 1
  funext f g
  cases f <;> rfl
theorem kS_nx : kS s2 QS (.nx e) g = Sat (s2 e g) QS := rfl
theorem kS_rt {r : Rv} : kS s2 QS (.rt r) g = QS (.rt r) g := rfl
theorem kS_bk : kS s2 QS (.bk e) g = QS (.bk e) g := rfl
theorem kS_ct : kS s2 QS (.ct e) g = QS (.ct e) g := rfl
theorem S_pass : Sat (mPass e g) QS = QS (.nx e) g := rfl
def kSet (i : Nat) (e : Env) (Q : Fl → γ → Prop) (x : Rv) (g : γ) : Prop := match x.slot with
  | some s => Q (.nx (st e i s)) g
  | none => False
theorem S_set : Sat (mSet i a e g) QS = Sat (a e g) (kSet i e QS) := by
  unfold mSet
  rw [Sat_bind]
  congr 1
  funext x g
  unfold kSet
  cases x <;> rfl
theorem kSet_dat {d : D} : kSet i e QS (.dat d) g = QS (.nx (st e i (.dat d))) g := rfl
theorem kSet_own {d : List D} : kSet i e QS (.own d) g = QS (.nx (st e i (.own d))) g := rfl
def kTgt (tg : MG) (e : Env) (Q : Fl → γ → Prop) (x : Rv) (g : γ) : Prop := match x with
  | .dat d => match tg d e with
    | some e1 => Q (.nx e1) g
    | none => False
  | _ => False
theorem S_tgt {tg : MG} : Sat (mTgt tg a e g) QS = Sat (a e g) (kTgt tg e QS) := by
  unfold mTgt
  rw [Sat_bind]
  congr 1
  funext x g
  cases x with
  | dat d =>
    show Sat (match tg d e with | some e1 => Rs.ok (.nx e1) g | none => .no) QS = kTgt tg e QS (.dat d) g
    unfold kTgt
    dsimp only
    cases tg d e <;> rfl
  | own d => rfl
  | bor d => rfl
theorem kTgt_ {tg : MG} {d : D} {e1 : Env} (h : tg d e = some e1) : kTgt tg e QS (.dat d) g = QS (.nx e1) g := by
  unfold kTgt
  dsimp only
  rw [h]
def kTgtL (is : List Nat) (e : Env) (Q : Fl → γ → Prop) (x : Rv) (g : γ) : Prop := SatO (x.items) (fun ds g => SatO (tgL is ds e) (fun e1 g => Q (.nx e1) g) g) g
theorem S_tgtL {is : List Nat} : Sat (mTgtL is a e g) QS = Sat (a e g) (kTgtL is e QS) := by
  unfold mTgtL
  rw [Sat_bind]
  congr 1
  funext x g
  unfold kTgtL
  cases x.items with
  | none => rfl
  | some ds =>
    dsimp only
    show _ = SatO (tgL is ds e) _ g
    cases tgL is ds e <;> rfl
theorem kTgtL_ {is : List Nat} : kTgtL is e QS x g = SatO (x.items) (fun ds g => SatO (tgL is ds e) (fun e1 g => QS (.nx e1) g) g) g := rfl
def kP (b : ME γ) (i j : Nat) (e : Env) (Q : Fl → γ → Prop) (x : Rv) (g : γ) : Prop := Sat (b e g) fun y g2 => match x, y with
  | .dat x, .dat y => Q (.nx (st (st e i (.dat x)) j (.dat y))) g2
  | _, _ => False
theorem S_par : Sat (mPar i j a b e g) QS = Sat (a e g) (kP b i j e QS) := by
  unfold mPar
  rw [Sat_bind]
  congr 1
  funext x g
  unfold kP
  rw [Sat_bind]
  congr 1
  funext y g
  cases x <;> cases y <;> rfl
def kPb (i j : Nat) (e : Env) (Q : Fl → γ → Prop) (x y : Rv) (g : γ) : Prop := match x, y with
  | .dat x, .dat y => Q (.nx (st (st e i (.dat x)) j (.dat y))) g
  | _, _ => False
theorem kP_ : kP b i j e QS x g = Sat (b e g) (kPb i j e QS x) := rfl
theorem kPb_ {d d' : D} : kPb i j e QS (.dat d) (.dat d') g = QS (.nx (st (st e i (.dat d)) j (.dat d'))) g := rfl
def kAug (i : Nat) (f : Op2) (e : Env) (d : D) (Q : Fl → γ → Prop) (y : Rv) (g : γ) : Prop := match f (.dat d) y with
  | some r => kSet i e Q r g
  | none => False
theorem S_aug {d : D} (h : gt e i = .dat d) : Sat (mAug i f a e g) QS = Sat (a e g) (kAug i f e d QS) := by
  unfold mAug
  rw [h]
  dsimp only
  rw [Sat_bind]
  congr 1
  funext y g
  unfold kAug
  cases f (.dat d) y with
  | none => rfl
  | some r =>
    dsimp only
    unfold kSet
    cases r <;> rfl
theorem kAug_ {d : D} : kAug i f e d QS y g = SatO (f (.dat d) y) (kSet i e QS) g := by
  unfold kAug
  cases f (.dat d) y <;> rfl
theorem S_ret : Sat (mRet a e g) QS = Sat (a e g) fun x g => QS (.rt x) g := by
  unfold mRet
  rw [Sat_bind]
  rfl
def kR (Q : Fl → γ → Prop) (x : Rv) (g : γ) : Prop := Q (.rt x) g
theorem S_ret' : Sat (mRet a e g) QS = Sat (a e g) (kR QS) := S_ret
theorem kR_ : kR QS x g = QS (.rt x) g := rfl
theorem S_retN : Sat (mRetN e g) QS = QS (.rt (.dat .non)) g := rfl
theorem S_break : Sat (mBreak e g) QS = QS (.bk e) g := rfl
theorem S_cont : Sat (mCont e g) QS = QS (.ct e) g := rfl
theorem S_frz_own {ds : List D} (h : gt e i = .own ds) : Sat (mFrz i e g) QS = QS (.nx (st e i (.dat (.lst ds)))) g := by
  unfold mFrz
  rw [h]
  rfl
theorem S_frz_dat {d : D} (h : gt e i = .dat d) : Sat (mFrz i e g) QS = QS (.nx e) g := by
  unfold mFrz
  rw [h]
  rfl
def kA (i : Nat) (e : Env) (ds : List D) (Q : Fl → γ → Prop) (y : Rv) (g : γ) : Prop := match y.sto with
  | some d => ds.length < SZ ∧ Q (.nx (st e i (.own (ds ++ [d])))) g
  | none => False
theorem S_app {ds : List D} (h : gt e i = .own ds) : Sat (mApp i a e g) QS = Sat (a e g) (kA i e ds QS) := by
  unfold mApp
  rw [h]
  dsimp only
  rw [Sat_bind]
  congr 1
  funext y g
  unfold kA
  cases y.sto with
  | none => rfl
  | some d =>
    dsimp only
    by_cases hl : ds.length < SZ
    · rw [if_pos hl]
      exact propext ⟨fun q => ⟨hl, q⟩, fun q => q.2⟩
    · rw [if_neg hl]
      exact propext ⟨fun q => q.elim, fun q => hl q.1⟩
theorem kA_dat {ds : List D} {d : D} : kA i e ds QS (.dat d) g = (ds.length < SZ ∧ QS (.nx (st e i (.own (ds ++ [d])))) g) := rfl
theorem kA_own {ds : List D} {d : List D} : kA i e ds QS (.own d) g = (ds.length < SZ ∧ QS (.nx (st e i (.own (ds ++ [.lst d])))) g) := rfl
/-- loops -/
def kF (tg : MG) (b : MS γ) (e : Env) (Q : Fl → γ → Prop) (ds : List D) (g : γ) : Prop := Sat (forL tg b ds e g) Q
theorem S_for {src : MI γ} {tg : MG} {b : MS γ} : Sat (mFor src tg b e g) QS = Sat (src e g) (kF tg b e QS) := by
  unfold mFor
  rw [Sat_bind]
  rfl
theorem kF_ {tg : MG} {b : MS γ} {ds : List D} : kF tg b e QS ds g = Sat (forL tg b ds e g) QS := rfl
theorem S_forNil {tg : MG} {b : MS γ} : Sat (forL tg b [] e g) QS = QS (.nx e) g := rfl
def kFb (tg : MG) (b : MS γ) (ds : List D) (Q : Fl → γ → Prop) (f : Fl) (g : γ) : Prop := match f with
  | .nx e2 => Sat (forL tg b ds e2 g) Q
  | .ct e2 => Sat (forL tg b ds e2 g) Q
  | .bk e2 => Q (.nx e2) g
  | .rt r => Q (.rt r) g
theorem S_forCons {tg : MG} {b : MS γ} {d : D} {ds : List D} {e1 : Env} (h : tg d e = some e1) : Sat (forL tg b (d :: ds) e g) QS = Sat (b e1 g) (kFb tg b ds QS) := by
  show Sat (match tg d e with | none => .no | some e1 => match b e1 g with
      | .ok (.nx e2) g2 => forL tg b ds e2 g2
      | .ok (.ct e2) g2 => forL tg b ds e2 g2
      | .ok (.bk e2) g2 => .ok (.nx e2) g2
      | .ok (.rt r) g2 => .ok (.rt r) g2
      | .ex x g2 => .ex x g2
      | .no => .no) QS = _
  rw [h]
  dsimp only
  cases b e1 g with
  | ok f g => cases f <;> rfl
  | ex x g => rfl
  | no => rfl
theorem kFb_nx {tg : MG} {b : MS γ} {ds : List D} : kFb tg b ds QS (.nx e) g = Sat (forL tg b ds e g) QS := rfl
theorem kFb_ct {tg : MG} {b : MS γ} {ds : List D} : kFb tg b ds QS (.ct e) g = Sat (forL tg b ds e g) QS := rfl
theorem kFb_bk {tg : MG} {b : MS γ} {ds : List D} : kFb tg b ds QS (.bk e) g = QS (.nx e) g := rfl
theorem kFb_rt {tg : MG} {b : MS γ} {ds : List D} {r : Rv} : kFb tg b ds QS (.rt r) g = QS (.rt r) g := rfl
theorem tgN_ {d : D} : tgN i d e = some (st e i (.dat d)) := rfl
/-- a loop by what holds ahead of each round: the items gone, the items to come -/
theorem S_forI {tg : MG} {b : MS γ} {ds : List D} (I : List D → List D → Env → γ → Prop) (h0 : I [] ds e g)
    (hs : ∀ pre d post e g, ds = pre ++ d :: post → I pre (d :: post) e g → ∃ e1, tg d e = some e1 ∧ Sat (b e1 g) fun f g2 => match f with
      | .nx e2 => I (pre ++ [d]) post e2 g2
      | .ct e2 => I (pre ++ [d]) post e2 g2
      | .bk e2 => QS (.nx e2) g2
      | .rt r => QS (.rt r) g2)
    (hd : ∀ e g, I ds [] e g → QS (.nx e) g) : Sat (forL tg b ds e g) QS := by
  have key : ∀ post pre e g, ds = pre ++ post → I pre post e g → Sat (forL tg b post e g) QS := by
    intro post
    induction post with
    | nil =>
      intro pre e g hp hi
      rw [List.append_nil] at hp
      subst hp
      exact hd e g hi
    | cons d post ih =>
      intro pre e g hp hi
      obtain ⟨e1, h1, h2⟩ := hs pre d post e g hp hi
      rw [S_forCons h1]
      refine h2.mono fun f g2 q => ?_
      have hp2 : ds = (pre ++ [d]) ++ post := by rw [hp, List.append_assoc]; rfl
      cases f with
      | nx e2 => exact ih _ _ _ hp2 q
      | ct e2 => exact ih _ _ _ hp2 q
      | bk e2 => exact q
      | rt r => exact q
  exact key ds [] e g rfl h0
def kItems (Q : List D → γ → Prop) (x : Rv) (g : γ) : Prop := SatO (seqOf x) Q g
theorem S_items : Sat (mItems a e g) QI = Sat (a e g) (kItems QI) := by
  unfold mItems kItems
  rw [Sat_bind]
  congr 1
  funext x g
  exact Sat_ofO _ _ _
theorem kItems_tup {ds : List D} : kItems QI (.dat (.tup ds)) g = QI ds g := rfl
theorem kItems_lst {ds : List D} : kItems QI (.dat (.lst ds)) g = QI ds g := rfl
theorem kItems_own {ds : List D} : kItems QI (.own ds) g = QI ds g := rfl
def kRng (Q : List D → γ → Prop) (x : Rv) (g : γ) : Prop := match x with
  | .dat (.int n) => RngOk n ∧ Q (rng 0 n.toNat) g
  | _ => False
theorem S_range1 : Sat (mRange1 a e g) QI = Sat (a e g) (kRng QI) := by
  unfold mRange1
  rw [Sat_bind]
  congr 1
  funext x g
  unfold kRng
  cases x with
  | dat d =>
    cases d with
    | int n =>
      dsimp only
      by_cases h : RngOk n
      · rw [if_pos h]
        exact propext ⟨fun q => ⟨h, q⟩, fun q => q.2⟩
      · rw [if_neg h]
        exact propext ⟨fun q => q.elim, fun q => h q.1⟩
    | _ => rfl
  | own d => rfl
  | bor d => rfl
theorem kRng_ {n : Int} : kRng QI (.dat (.int n)) g = (RngOk n ∧ QI (rng 0 n.toNat) g) := rfl
/-- list comprehensions -/
def kLc (tg : MG) (c : MT γ) (a : ME γ) (e : Env) (Q : Rv → γ → Prop) (ds : List D) (g : γ) : Prop := Sat (lcL tg c a e ds [] g) Q
theorem S_lc {src : MI γ} {tg : MG} {own : List Nat} : Sat (mLc src tg t a own e g) Q = Sat (src e g) (kLc tg t a (wp e own) Q) := by
  unfold mLc
  rw [Sat_bind]
  rfl
theorem kLc_ {tg : MG} {ds : List D} : kLc tg t a e Q ds g = Sat (lcL tg t a e ds [] g) Q := rfl
theorem S_lcNil {tg : MG} {acc : List D} : Sat (lcL tg t a e [] acc g) Q = Q (.own acc) g := rfl
def kLcA (tg : MG) (t : MT γ) (a : ME γ) (e : Env) (ds acc : List D) (Q : Rv → γ → Prop) (x : Rv) (g : γ) : Prop := match x.sto with
  | some y => acc.length < SZ ∧ Sat (lcL tg t a e ds (acc ++ [y]) g) Q
  | none => False
def kLcT (tg : MG) (t : MT γ) (a : ME γ) (e e1 : Env) (ds acc : List D) (Q : Rv → γ → Prop) (c : Bool) (g : γ) : Prop := match c with
  | true => Sat (a e1 g) (kLcA tg t a e ds acc Q)
  | false => Sat (lcL tg t a e ds acc g) Q
theorem S_lcCons {tg : MG} {d : D} {ds acc : List D} {e1 : Env} (h : tg d e = some e1) : Sat (lcL tg t a e (d :: ds) acc g) Q = Sat (t e1 g) (kLcT tg t a e e1 ds acc Q) := by
  show Sat (match tg d e with
    | none => .no
    | some e1 => match t e1 g with
      | .ok true g1 => match a e1 g1 with
        | .ok r g2 => match r.sto with
          | some y => if acc.length < SZ then lcL tg t a e ds (acc ++ [y]) g2 else .no
          | none => .no
        | _ => .no
      | .ok false g1 => lcL tg t a e ds acc g1
      | _ => .no) Q = _
  rw [h]
  dsimp only
  cases t e1 g with
  | ok c g1 =>
    cases c with
    | false => rfl
    | true =>
      show Sat (match a e1 g1 with
        | .ok r g2 => match r.sto with
          | some y => if acc.length < SZ then lcL tg t a e ds (acc ++ [y]) g2 else .no
          | none => .no
        | _ => .no) Q = Sat (a e1 g1) (kLcA tg t a e ds acc Q)
      cases a e1 g1 with
      | ok r g2 =>
        show Sat (match r.sto with
          | some y => if acc.length < SZ then lcL tg t a e ds (acc ++ [y]) g2 else .no
          | none => .no) Q = kLcA tg t a e ds acc Q r g2
        unfold kLcA
        cases r.sto with
        | none => rfl
        | some y =>
          dsimp only
          by_cases hl : acc.length < SZ
          · rw [if_pos hl]
            exact propext ⟨fun q => ⟨hl, q⟩, fun q => q.2⟩
          · rw [if_neg hl]
            exact propext ⟨fun q => q.elim, fun q => hl q.1⟩
      | ex x g => rfl
      | no => rfl
  | ex x g => rfl
  | no => rfl
theorem kLcT_true {tg : MG} {e1 : Env} {ds acc : List D} : kLcT tg t a e e1 ds acc Q true g = Sat (a e1 g) (kLcA tg t a e ds acc Q) := rfl
theorem kLcT_false {tg : MG} {e1 : Env} {ds acc : List D} : kLcT tg t a e e1 ds acc Q false g = Sat (lcL tg t a e ds acc g) Q := rfl
theorem kLcA_dat {tg : MG} {ds acc : List D} {d : D} : kLcA tg t a e ds acc Q (.dat d) g = (acc.length < SZ ∧ Sat (lcL tg t a e ds (acc ++ [d]) g) Q) := rfl
theorem kLcA_own {tg : MG} {ds acc : List D} {d : List D} : kLcA tg t a e ds acc Q (.own d) g = (acc.length < SZ ∧ Sat (lcL tg t a e ds (acc ++ [.lst d]) g) Q) := rfl
theorem S_yes : Sat (mYes e g) QB = QB true g := rfl
/-- a comprehension whose element is a plain function of the item, all items taken -/
theorem S_lcMap {tg : MG} {ds : List D} (fn : D → D) (hl : ds.length ≤ SZ) (I : γ → Prop) (h0 : I g)
    (hs : ∀ d ∈ ds, ∀ g, I g → ∃ e1, tg d e = some e1 ∧ Sat (t e1 g) fun c g1 => c = true ∧ Sat (a e1 g1) fun r g2 => r.sto = some (fn d) ∧ I g2)
    (hd : ∀ g, I g → Q (.own (ds.map fn)) g) : Sat (lcL tg t a e ds [] g) Q := by
  have key : ∀ post pre g, ds = pre ++ post → I g → Sat (lcL tg t a e post (pre.map fn) g) Q := by
    intro post
    induction post with
    | nil =>
      intro pre g hp hi
      rw [List.append_nil] at hp
      subst hp
      exact hd g hi
    | cons d post ih =>
      intro pre g hp hi
      obtain ⟨e1, h1, h2⟩ := hs d (by rw [hp]; simp) g hi
      rw [S_lcCons h1]
      refine h2.mono fun c g1 q => ?_
      obtain ⟨rfl, q⟩ := q
      refine q.mono fun r g2 q2 => ?_
      obtain ⟨q2, q3⟩ := q2
      show kLcA tg t a e post (pre.map fn) Q r g2
      unfold kLcA
      rw [q2]
      have hpl : (pre.map fn).length < SZ := by
        rw [List.length_map]
        have := congrArg List.length hp
        rw [List.length_append, List.length_cons] at this
        omega
      refine ⟨hpl, ?_⟩
      have hp2 : ds = (pre ++ [d]) ++ post := by rw [hp, List.append_assoc]; rfl
      have := ih (pre ++ [d]) g2 hp2 q3
      rw [List.map_append] at this
      exact this
  exact key ds [] g rfl h0
/-- while: what holds ahead of each test, what goes down -/
theorem S_while {n : Nat} (I : Nat → Env → γ → Prop) (m0 : Nat) (h0 : I m0 e g) (hn : m0 < n)
    (hs : ∀ m e g, I m e g → Sat (t e g) fun c g1 => match c with
      | true => Sat (s1 e g1) fun f g2 => match f with
        | .nx e2 => ∃ m', m' < m ∧ I m' e2 g2
        | .ct e2 => ∃ m', m' < m ∧ I m' e2 g2
        | .bk e2 => QS (.nx e2) g2
        | .rt r => QS (.rt r) g2
      | false => QS (.nx e) g1) : Sat (mWhile t s1 n e g) QS := by
  induction n generalizing m0 e g with
  | zero => omega
  | succ n ih =>
    have h := hs m0 e g h0
    show Sat (match t e g with
    | .ok true g1 => match s1 e g1 with
      | .ok (.nx e2) g2 => mWhile t s1 n e2 g2
      | .ok (.ct e2) g2 => mWhile t s1 n e2 g2
      | .ok (.bk e2) g2 => .ok (.nx e2) g2
      | .ok (.rt r) g2 => .ok (.rt r) g2
      | .ex x g2 => .ex x g2
      | .no => .no
    | .ok false g1 => .ok (.nx e) g1
    | .ex x g1 => .ex x g1
    | .no => .no) QS
    cases ht : t e g with
    | no =>
      rw [ht] at h
      exact h
    | ex x g1 =>
      rw [ht] at h
      exact h
    | ok c g1 =>
      rw [ht] at h
      cases c with
      | false => exact h
      | true =>
        have h' : Sat (s1 e g1) _ := h
        dsimp only
        cases hb : s1 e g1 with
        | no =>
          rw [hb] at h'
          exact h'
        | ex x g2 =>
          rw [hb] at h'
          exact h'
        | ok f g2 =>
          rw [hb] at h'
          cases f with
          | nx e2 =>
            obtain ⟨m', hm, hi⟩ := h'
            exact ih m' hi (by omega)
          | ct e2 =>
            obtain ⟨m', hm, hi⟩ := h'
            exact ih m' hi (by omega)
          | bk e2 => exact h'
          | rt r => exact h'
/-- a def -/
def kD (Q : Rv → γ → Prop) (f : Fl) (g : γ) : Prop := match f with
  | .nx _ => Q (.dat .non) g
  | .rt r => Q r.ret g
  | _ => False
theorem S_def {n k : Nat} {b : MS γ} {ds : List D} (h : ds.length = k) : Sat (mDef n k b ds g) Q = Sat (b (ds.map Sl.dat ++ List.replicate (n - k) .un) g) (kD Q) := by
  unfold mDef
  rw [if_pos h]
  cases b (ds.map Sl.dat ++ List.replicate (n - k) .un) g with
  | ok f g => cases f <;> rfl
  | ex x g => rfl
  | no => rfl
theorem kD_rt {r : Rv} : kD Q (.rt r) g = Q r.ret g := rfl
theorem kD_nx : kD Q (.nx e) g = Q (.dat .non) g := rfl
/-- operations -/
theorem o_add {i j : Int} : oAdd (.dat (.int i)) (.dat (.int j)) = some (.dat (.int (i + j))) := rfl
theorem o_sub {i j : Int} : oSub (.dat (.int i)) (.dat (.int j)) = some (.dat (.int (i - j))) := rfl
theorem o_mul {i j : Int} (h : MulOk i j) : oMul (.dat (.int i)) (.dat (.int j)) = some (.dat (.int (i * j))) := if_pos h
theorem o_div {i j : Int} (h : DivOk j) : oDiv (.dat (.int i)) (.dat (.int j)) = some (.dat (.int (i / j))) := if_pos h
theorem o_mod {i j : Int} (h : 0 < j) : oMod (.dat (.int i)) (.dat (.int j)) = some (.dat (.int (i % j))) := if_pos h
theorem o_pow {i j : Int} (h : PowOk i j) : oPow (.dat (.int i)) (.dat (.int j)) = some (.dat (.int (i ^ j.toNat))) := if_pos h
theorem o_eq {i j : Int} : oEq (.dat (.int i)) (.dat (.int j)) = some (.dat (.bl (decide (i = j)))) := rfl
theorem o_ne {i j : Int} : oNe (.dat (.int i)) (.dat (.int j)) = some (.dat (.bl (!decide (i = j)))) := rfl
theorem o_lt {i j : Int} : oLt (.dat (.int i)) (.dat (.int j)) = some (.dat (.bl (decide (i < j)))) := rfl
theorem o_le {i j : Int} : oLe (.dat (.int i)) (.dat (.int j)) = some (.dat (.bl (decide (i ≤ j)))) := rfl
theorem o_gt {i j : Int} : oGt (.dat (.int i)) (.dat (.int j)) = some (.dat (.bl (decide (j < i)))) := rfl
theorem o_ge {i j : Int} : oGe (.dat (.int i)) (.dat (.int j)) = some (.dat (.bl (decide (j ≤ i)))) := rfl
theorem o_eqB {i j : Bool} : oEq (.dat (.bl i)) (.dat (.bl j)) = some (.dat (.bl (i == j))) := rfl
theorem o_neB {i j : Bool} : oNe (.dat (.bl i)) (.dat (.bl j)) = some (.dat (.bl (!(i == j)))) := rfl
theorem o_is2 {i j : Bool} : oIs2 (.dat (.bl i)) (.dat (.bl j)) = some (.dat (.bl (decide (i = j)))) := rfl
theorem o_isnot2 {i j : Bool} : oIsNot2 (.dat (.bl i)) (.dat (.bl j)) = some (.dat (.bl (!decide (i = j)))) := rfl
theorem o_abs {i : Int} : oAbs [.dat (.int i)] = some (.dat (.int (if i < 0 then -i else i))) := rfl
theorem o_ix {ds : List D} {i : Int} : oIx (.dat (.tup ds)) (.dat (.int i)) = (atI ds i).map .dat := rfl
theorem o_ixO {ds : List D} {i : Int} : oIx (.own ds) (.dat (.int i)) = (atI ds i).map .dat := rfl
theorem o_ixB {ds : List D} {i : Int} : oIx (.bor ds) (.dat (.int i)) = (atI ds i).map .dat := rfl
theorem o_ixL {ds : List D} {i : Int} : oIx (.dat (.lst ds)) (.dat (.int i)) = (atI ds i).map .dat := rfl
theorem o_tupO {ds : List D} : oTuple [.own ds] = some (.dat (.tup ds)) := rfl
theorem o_isBool {b : Bool} : oIs .bool (.dat (.bl b)) = some (.dat (.bl true)) := rfl
theorem o_all {ds : List D} : oAll [.own ds] = (dBls ds).map fun bs => dB (bs.all id) := rfl
theorem o_any {ds : List D} : oAny [.own ds] = (dBls ds).map fun bs => dB (bs.any id) := rfl
end
section
variable {γ : Type} {g : γ} {F : MF γ} {Q : Rv → γ → Prop} {xs : List Rv} {e : Env} {t : MT γ} {a : ME γ}
theorem kCall_u : kCall F Q xs g = SatO (stoL xs) (fun ds g => Sat (F ds g) Q) g := by
  unfold kCall
  cases stoL xs <;> rfl
theorem kT_u : kT Q xs g = SatO (stoL xs) (fun ds g => ds.length ≤ SZ ∧ Q (.dat (.tup ds)) g) g := by
  unfold kT
  cases stoL xs <;> rfl
theorem kL_u : kL Q xs g = SatO (stoL xs) (fun ds g => ds.length ≤ SZ ∧ Q (.own ds) g) g := by
  unfold kL
  cases stoL xs <;> rfl
theorem o_mul_u {i j : Int} {P : Rv → γ → Prop} : SatO (oMul (.dat (.int i)) (.dat (.int j))) P g = (MulOk i j ∧ P (.dat (.int (i * j))) g) := SatO_ite _ _ _ _
theorem o_div_u {i j : Int} {P : Rv → γ → Prop} : SatO (oDiv (.dat (.int i)) (.dat (.int j))) P g = (DivOk j ∧ P (.dat (.int (i / j))) g) := SatO_ite _ _ _ _
theorem o_mod_u {i j : Int} {P : Rv → γ → Prop} : SatO (oMod (.dat (.int i)) (.dat (.int j))) P g = (0 < j ∧ P (.dat (.int (i % j))) g) := SatO_ite _ _ _ _
theorem o_pow_u {i j : Int} {P : Rv → γ → Prop} : SatO (oPow (.dat (.int i)) (.dat (.int j))) P g = (PowOk i j ∧ P (.dat (.int (i ^ j.toNat))) g) := SatO_ite _ _ _ _
theorem o_eq_u {x y : Rv} {P : Rv → γ → Prop} (h1 : okE 60 x.val = true) (h2 : okE 60 y.val = true) : SatO (oEq x y) P g = P (.dat (.bl (eqv x.val y.val))) g := by
  unfold oEq eqD
  rw [if_pos ⟨h1, h2⟩]
  rfl
theorem o_ne_u {x y : Rv} {P : Rv → γ → Prop} (h1 : okE 60 x.val = true) (h2 : okE 60 y.val = true) : SatO (oNe x y) P g = P (.dat (.bl (!eqv x.val y.val))) g := by
  unfold oNe eqD
  rw [if_pos ⟨h1, h2⟩]
  rfl
theorem map_some' {α β : Type} (f : α → β) (x : α) : (some x).map f = some (f x) := rfl
theorem dBls_rep (n : Nat) : dBls (List.replicate n (.bl true)) = some (List.replicate n true) := by
  induction n with
  | zero => rfl
  | succ n ih =>
    rw [List.replicate_succ, List.replicate_succ]
    show (dBls _).map _ = _
    rw [ih]
    rfl
theorem o_all_rep {n : Nat} : oAll [.own (List.replicate n (.bl true))] = some (.dat (.bl true)) := by
  show (dBls _).map _ = _
  rw [dBls_rep]
  have : (List.replicate n true).all id = true := by
    induction n with
    | zero => rfl
    | succ n ih => rw [List.replicate_succ, List.all_cons, ih]; rfl
  show some (dB ((List.replicate n true).all id)) = _
  rw [this]
  rfl
/-- a comprehension that tells True of each item it takes -/
theorem S_lcAll {tg : MG} {ds : List D} (hl : ds.length ≤ SZ)
    (hs : ∀ d ∈ ds, ∃ e1, tg d e = some e1 ∧ Sat (t e1 g) fun c g1 => g1 = g ∧ (c = true → Sat (a e1 g) fun r g2 => g2 = g ∧ r = .dat (.bl true)))
    (hd : ∀ n, Q (.own (List.replicate n (.bl true))) g) : Sat (lcL tg t a e ds [] g) Q := by
  have key : ∀ post n, post.length + n ≤ SZ → (∀ d ∈ post, d ∈ ds) → Sat (lcL tg t a e post (List.replicate n (.bl true)) g) Q := by
    intro post
    induction post with
    | nil =>
      intro n _ _
      exact hd n
    | cons d post ih =>
      intro n hn hm
      obtain ⟨e1, h1, h2⟩ := hs d (hm d (by simp))
      rw [S_lcCons h1]
      refine h2.mono fun c g1 q => ?_
      obtain ⟨rfl, q⟩ := q
      rw [List.length_cons] at hn
      cases c with
      | false => exact ih n (by omega) (fun d hd => hm d (by simp [hd]))
      | true =>
        refine (q rfl).mono fun r g2 q2 => ?_
        obtain ⟨rfl, rfl⟩ := q2
        rw [kLcA_dat]
        refine ⟨by rw [List.length_replicate]; omega, ?_⟩
        have := ih (n + 1) (by omega) (fun d hd => hm d (by simp [hd]))
        rw [List.replicate_succ'] at this
        exact this
  exact key ds 0 (by omega) (fun d h => h)
end
section
variable {γ : Type} {g : γ} {QS : Fl → γ → Prop} {QI : List D → γ → Prop} {Q : Rv → γ → Prop} {e : Env} {a b k : ME γ} {i : Nat}
def kPutK (i : Nat) (e : Env) (ds : List D) (QS : Fl → γ → Prop) (y z : Rv) (g : γ) : Prop := SatO y.sto (fun d g => match z with
  | .dat (.int n) => SatO (ixN ds.length n) (fun j g => QS (.nx (st e i (.own (ds.set j d)))) g) g
  | _ => False) g
def kPut (k : ME γ) (i : Nat) (e : Env) (ds : List D) (QS : Fl → γ → Prop) (y : Rv) (g : γ) : Prop := Sat (k e g) (kPutK i e ds QS y)
theorem S_put {ds : List D} (h : gt e i = .own ds) : Sat (mPut i k a e g) QS = Sat (a e g) (kPut k i e ds QS) := by
  unfold mPut
  rw [Sat_bind]
  congr 1
  funext y g
  rw [h]
  dsimp only
  rw [Sat_bind]
  unfold kPut
  congr 1
  funext z g
  unfold kPutK
  cases hy : y.sto with
  | none => rfl
  | some d =>
    cases z with
    | dat z => 
      cases z with
      | int n =>
        dsimp only [SatO]
        cases ixN ds.length n <;> rfl
      | _ => rfl
    | own z => rfl
    | bor z => rfl
theorem kPut_ {ds : List D} {y : Rv} : kPut k i e ds QS y g = Sat (k e g) (kPutK i e ds QS y) := rfl
theorem kPutK_ {ds : List D} {d : D} {n : Int} : kPutK i e ds QS (.dat d) (.dat (.int n)) g = SatO (ixN ds.length n) (fun j g => QS (.nx (st e i (.own (ds.set j d)))) g) g := rfl
def kZip (b : ME γ) (e : Env) (QI : List D → γ → Prop) (x : Rv) (g : γ) : Prop := Sat (b e g) fun y g => SatO (zip2 x y) QI g
def kZipb (QI : List D → γ → Prop) (x y : Rv) (g : γ) : Prop := SatO (zip2 x y) QI g
theorem S_zip2 : Sat (mZip2 a b e g) QI = Sat (a e g) (kZip b e QI) := by
  unfold mZip2 kZip
  rw [Sat_bind]
  congr 1
  funext x g
  rw [Sat_bind]
  congr 1
  funext y g
  exact Sat_ofO _ _ _
theorem kZip_ {x : Rv} : kZip b e QI x g = Sat (b e g) (kZipb QI x) := rfl
theorem kZipb_tup {xs ys : List D} : kZipb QI (.dat (.tup xs)) (.dat (.tup ys)) g = QI (zipD xs ys) g := rfl
theorem o_sum {ds : List D} : oSum [.own ds] = (dInts ds).map fun ns => .dat (.int ns.sum) := rfl
theorem o_sumB {ds : List D} : oSum [.bor ds] = (dInts ds).map fun ns => .dat (.int ns.sum) := rfl
theorem o_tupB {ds : List D} : oTuple [.bor ds] = some (.dat (.tup ds)) := rfl
theorem o_tupL {ds : List D} : oTuple [.dat (.lst ds)] = some (.dat (.tup ds)) := rfl
theorem o_lenT {ds : List D} : oLen [.dat (.tup ds)] = some (.dat (.int ds.length)) := rfl
theorem o_isT {T : Ty} {d : D} (h : ∀ a, d ≠ .ref a) : oIs T (.dat d) = some (.dat (.bl (isTy T d))) := by
  cases d <;> first
    | rfl
    | (rename_i a; exact absurd rfl (h a))
theorem kRng_3 : kRng QI (.dat (.int 3)) g = QI [.int 0, .int 1, .int 2] g := by
  rw [kRng_]
  exact propext ⟨fun h => h.2, fun h => ⟨by decide, h⟩⟩
end
section
variable {γ : Type} {g : γ} {QS : Fl → γ → Prop} {Q : Rv → γ → Prop} {e : Env} {t : MT γ} {a b : ME γ}
/-- a loop over data made of things of one kind -/
theorem S_forA {α : Type} {tg : MG} {b : MS γ} (ls : List α) (dn : α → D) (I : List α → List α → Env → γ → Prop) (h0 : I [] ls e g)
    (hs : ∀ pre x post e g, ls = pre ++ x :: post → I pre (x :: post) e g → ∃ e1, tg (dn x) e = some e1 ∧ Sat (b e1 g) fun f g2 => match f with
      | .nx e2 => I (pre ++ [x]) post e2 g2
      | .ct e2 => I (pre ++ [x]) post e2 g2
      | .bk e2 => QS (.nx e2) g2
      | .rt r => QS (.rt r) g2)
    (hd : ∀ e g, I ls [] e g → QS (.nx e) g) : Sat (forL tg b (ls.map dn) e g) QS := by
  have key : ∀ post pre e g, ls = pre ++ post → I pre post e g → Sat (forL tg b (post.map dn) e g) QS := by
    intro post
    induction post with
    | nil =>
      intro pre e g hp hi
      rw [List.append_nil] at hp
      subst hp
      exact hd e g hi
    | cons d post ih =>
      intro pre e g hp hi
      obtain ⟨e1, h1, h2⟩ := hs pre d post e g hp hi
      rw [List.map_cons, S_forCons h1]
      refine h2.mono fun f g2 q => ?_
      have hp2 : ls = (pre ++ [d]) ++ post := by rw [hp, List.append_assoc]; rfl
      cases f with
      | nx e2 => exact ih _ _ _ hp2 q
      | ct e2 => exact ih _ _ _ hp2 q
      | bk e2 => exact q
      | rt r => exact q
  exact key ls [] e g rfl h0
/-- a comprehension over such, nothing changed -/
theorem S_lcA {α : Type} {tg : MG} (ls : List α) (dn fn : α → D) (hl : ls.length ≤ SZ)
    (hs : ∀ x ∈ ls, ∃ e1, tg (dn x) e = some e1 ∧ Sat (t e1 g) fun c g1 => c = true ∧ g1 = g ∧ Sat (a e1 g) fun r g2 => r.sto = some (fn x) ∧ g2 = g)
    (hd : Q (.own (ls.map fn)) g) : Sat (lcL tg t a e (ls.map dn) [] g) Q := by
  have key : ∀ post pre, ls = pre ++ post → Sat (lcL tg t a e (post.map dn) (pre.map fn) g) Q := by
    intro post
    induction post with
    | nil =>
      intro pre hp
      rw [List.append_nil] at hp
      subst hp
      exact hd
    | cons d post ih =>
      intro pre hp
      obtain ⟨e1, h1, h2⟩ := hs d (by rw [hp]; simp)
      rw [List.map_cons, S_lcCons h1]
      refine h2.mono fun c g1 q => ?_
      obtain ⟨rfl, rfl, q⟩ := q
      rw [kLcT_true]
      refine q.mono fun r g2 q2 => ?_
      obtain ⟨q2, rfl⟩ := q2
      unfold kLcA
      rw [q2]
      have hpl : (pre.map fn).length < SZ := by
        rw [List.length_map]
        have := congrArg List.length hp
        rw [List.length_append, List.length_cons] at this
        omega
      refine ⟨hpl, ?_⟩
      have hp2 : ls = (pre ++ [d]) ++ post := by rw [hp, List.append_assoc]; rfl
      have := ih (pre ++ [d]) hp2
      rw [List.map_append] at this
      exact this
  exact key ls [] rfl
theorem o_eqS {i j : List Nat} : oEq (.dat (.str i)) (.dat (.str j)) = some (.dat (.bl (i == j))) := rfl
theorem o_neS {i j : List Nat} : oNe (.dat (.str i)) (.dat (.str j)) = some (.dat (.bl (!(i == j)))) := rfl
theorem o_addS {i j : List Nat} (h : i.length + j.length ≤ SZ) : oAdd (.dat (.str i)) (.dat (.str j)) = some (.dat (.str (i ++ j))) := if_pos h
theorem o_ixT {ds : List D} {i : Int} : oIx (.dat (.tup ds)) (.dat (.int i)) = (atI ds i).map .dat := rfl
theorem o_ixS {s : List Nat} {i : Int} : oIx (.dat (.str s)) (.dat (.int i)) = (atI s i).map fun c => .dat (.str [c]) := rfl
theorem o_intB {b : Bool} : oInt [.dat (.bl b)] = some (.dat (.int (if b then 1 else 0))) := rfl
theorem o_lenS {s : List Nat} : oLen [.dat (.str s)] = some (.dat (.int s.length)) := rfl
theorem o_lenO {s : List D} : oLen [.own s] = some (.dat (.int s.length)) := rfl
theorem o_lenB {s : List D} : oLen [.bor s] = some (.dat (.int s.length)) := rfl
theorem o_iaddI {i j : Int} : oIAdd (.dat (.int i)) (.dat (.int j)) = some (.dat (.int (i + j))) := rfl
def kS1 (f : List Nat → Rv → Option Rv) (b : ME γ) (e : Env) (Q : Rv → γ → Prop) (x : Rv) (g : γ) : Prop := match x with
  | .dat (.str s) => Sat (b e g) fun y g2 => SatO (f s y) Q g2
  | _ => False
def kS1b (f : List Nat → Rv → Option Rv) (s : List Nat) (Q : Rv → γ → Prop) (y : Rv) (g : γ) : Prop := SatO (f s y) Q g
theorem S_s1 {f : List Nat → Rv → Option Rv} : Sat (mS1 f a b e g) Q = Sat (a e g) (kS1 f b e Q) := by
  unfold mS1
  rw [Sat_bind]
  congr 1
  funext x g
  unfold kS1
  cases x with
  | dat d =>
    cases d with
    | str s =>
      dsimp only
      rw [Sat_bind]
      congr 1
      funext y g2
      exact Sat_ofO _ _ _
    | _ => rfl
  | own d => rfl
  | bor d => rfl
theorem kS1_ {f : List Nat → Rv → Option Rv} {s : List Nat} : kS1 f b e Q (.dat (.str s)) g = Sat (b e g) (kS1b f s Q) := rfl
theorem kS1b_ {f : List Nat → Rv → Option Rv} {s : List Nat} {y : Rv} : kS1b f s Q y g = SatO (f s y) Q g := rfl
def kLm (f : List D → D → Option Int) (b : ME γ) (e : Env) (Q : Rv → γ → Prop) (x : Rv) (g : γ) : Prop := match x.items with
  | some l => Sat (b e g) fun y g2 => SatO (f l y.val) (fun n g => Q (.dat (.int n)) g) g2
  | none => False
def kLmb (f : List D → D → Option Int) (l : List D) (Q : Rv → γ → Prop) (y : Rv) (g : γ) : Prop := SatO (f l y.val) (fun n g => Q (.dat (.int n)) g) g
theorem S_lm {f : List D → D → Option Int} : Sat (mLm f a b e g) Q = Sat (a e g) (kLm f b e Q) := by
  unfold mLm
  rw [Sat_bind]
  congr 1
  funext x g
  unfold kLm
  cases x.items with
  | none => rfl
  | some l =>
    dsimp only
    rw [Sat_bind]
    congr 1
    funext y g2
    rw [Sat_ofO]
    cases f l y.val <;> rfl
theorem kLm_bor {f : List D → D → Option Int} {l : List D} : kLm f b e Q (.bor l) g = Sat (b e g) (kLmb f l Q) := rfl
theorem kLm_own {f : List D → D → Option Int} {l : List D} : kLm f b e Q (.own l) g = Sat (b e g) (kLmb f l Q) := rfl
theorem kLmb_ {f : List D → D → Option Int} {l : List D} {d : D} : kLmb f l Q (.dat d) g = SatO (f l d) (fun n g => Q (.dat (.int n)) g) g := rfl
def kTab (tab : List (List Nat × D)) (Q : Rv → γ → Prop) (y : Rv) (g : γ) : Prop := match y with
  | .dat (.str s) => SatO (tab.find? (fun q => q.1 == s)) (fun q g => Q (.dat q.2) g) g
  | _ => False
theorem S_tab {tab : List (List Nat × D)} : Sat (mTab tab a e g) Q = Sat (a e g) (kTab tab Q) := by
  unfold mTab
  rw [Sat_bind]
  congr 1
  funext x g
  unfold kTab
  cases x with
  | dat d =>
    cases d with
    | str s =>
      dsimp only
      rw [Sat_ofO]
      cases tab.find? (fun q => q.1 == s) <;> rfl
    | _ => rfl
  | own d => rfl
  | bor d => rfl
end
theorem dStrs_map {α : Type} (f : α → List Nat) (ls : List α) : dStrs (ls.map fun x => .str (f x)) = some (ls.map f) := by
  induction ls with
  | nil => rfl
  | cons x xs ih =>
    rw [List.map_cons, List.map_cons]
    show (dStrs _).map _ = _
    rw [ih]
    rfl
theorem joinL_nil (ls : List (List Nat)) : joinL [] ls = ls.flatten := by
  match ls with
  | [] => rfl
  | [x] => simp [joinL]
  | x :: y :: r =>
    have := joinL_nil (y :: r)
    simp only [joinL, List.append_nil, List.flatten_cons] at *
    rw [this]
theorem o_join {α : Type} (f : α → List Nat) (ls : List α) (h : (ls.map fun x => (f x).length).sum ≤ SZ) : oJoin [] (.own (ls.map fun x => .str (f x))) = some (.dat (.str (ls.flatMap f))) := by
  unfold oJoin
  show (match dStrs (ls.map fun x => .str (f x)) with | some ss => _ | none => none) = _
  rw [dStrs_map]
  dsimp only
  rw [if_pos (by
    rw [List.map_map]
    show (List.map (fun x => (f x).length) ls).sum + 0 * _ ≤ SZ
    rw [Nat.zero_mul]
    exact h), joinL_nil]
  rfl
theorem rng_lenD (i : Int) (n : Nat) : (rng i n).length = n := by
  induction n generalizing i with
  | zero => rfl
  | succ n ih => rw [rng, List.length_cons, ih]
theorem rng_map (n : Nat) : ∀ (i : Int), rng i n = (List.range n).map fun k => D.int (i + (k : Nat)) := by
  induction n with
  | zero => intro i; rfl
  | succ n ih =>
    intro i
    rw [rng, ih, List.range_succ_eq_map, List.map_cons, List.map_map]
    congr 1
    · simp
    · apply List.map_congr_left
      intro k _
      show D.int _ = D.int _
      congr 1
      show i + 1 + (k : Int) = i + ((k + 1 : Nat) : Int)
      omega
/-! ### sizes -/
theorem log2_lt {a n : Nat} (h : a < 2 ^ n) (hn : 0 < n) : a.log2 < n := by
  by_cases h0 : a = 0
  · subst h0
    exact hn
  · exact (Nat.log2_lt h0).mpr h
theorem mulOk {i j : Int} {a b : Nat} (hi : i.natAbs < 2 ^ a) (hj : j.natAbs < 2 ^ b) (h : a + b ≤ 1000000) (ha : 0 < a) (hb : 0 < b) : MulOk i j := by
  have h1 := log2_lt hi ha
  have h2 := log2_lt hj hb
  show _ + _ < _
  omega
theorem divOk {j : Int} {b : Nat} (h0 : 0 < j) (hj : j.natAbs < 2 ^ b) (h : b ≤ 9000) (hb : 0 < b) : DivOk j := ⟨h0, by have := log2_lt hj hb; omega⟩
end PB

set_option Elab.async false
set_option linter.all false
set_option maxRecDepth 10000
set_option exponentiation.threshold 2000
namespace PB
def mixM : MS LS := (mSeq (mIncC 0)
    (mSeq (mSet 1 (mCnt 0))
    (mSeq (mSet 2 (mC (.int 5)))
    (mSeq (mIfS (mHasC 0) (mSet 2 (mAtC 0 (mOp2 oMod (mVar 1) (mLenC 0)))) mPass)
    (mSeq (mSet 3 (mOp2 oMod (mOp2 oPow (mOp2 oAdd (mOp2 oAdd (mOp2 oAdd (mVar 2) (mOp2 oMul (mOp2 oMul (mC (.int 1009)) (mVar 1)) (mVar 1))) (mOp2 oMul (mC (.int 48611)) (mVar 1))) (mC (.int 17))) (mC (.int 5))) (mC (.int 2147483647))))
    (mRet (mOp2 oMod (mOp2 oAdd (mOp2 oMul (mVar 3) (mC (.int 39373))) (mOp2 oMul (mC (.int 7919)) (mVar 1))) (mC (.int 1000000007)))))))))
def mixF : MF LS := mDef 4 1 mixM
def drawM : MS LS := (mSeq (mIfS (mAnd (mTest (mOp2 oEq (mTold 0) (mC (.int 0)))) (mHasG 0)) (mPopG 0) mPass)
    (mSeq (mIfS (mTest (mOp2 oGt (mTold 0) (mC (.int 0)))) (mSeq (mSet 2 (mOp2 oMod (mTold 0) (mVar 1)))
    (mSeq (mSetTold 0 (mOp2 oDiv (mTold 0) (mVar 1)))
    (mRet (mVar 2)))) mPass)
    (mSeq (mSet 2 (mC (.int 0)))
    (mSeq (mSet 3 (mC (.int 1)))
    (mSeq (mWhile (mTest (mOp2 oLt (mVar 3) (mVar 1))) (mSeq (mSet 2 (mOp2 oAdd (mOp2 oMul (mVar 2) (mC (.int 1000000007))) (mCall mixF (mCons (mVar 0) mNil))))
    (mSet 3 (mOp2 oMul (mVar 3) (mC (.int 1000000007))))) 100)
    (mRet (mOp2 oMod (mVar 2) (mVar 1))))))))
def drawF : MF LS := mDef 4 2 drawM
theorem bpow_le {j k : Nat} (h : j ≤ k) : (1000000007 : Int) ^ j ≤ 1000000007 ^ k := by
  have e : ∀ j : Nat, (1000000007 : Int) ^ j = ((1000000007 ^ j : Nat) : Int) := fun j => by
    rw [Int.natCast_pow]
    rfl
  rw [e, e]
  exact Int.ofNat_le.mpr (Nat.pow_le_pow_right (by decide) h)
/-- the state, so many draws to come -/
structure Bud (a b : Nat) (s : LS) : Prop where
  ok : s.Ok
  ea : s.a = a
  cn : s.cnt + 16 * b ≤ 100000000
theorem Bud.le {a b c : Nat} {s : LS} (h : Bud a b s) (k : c ≤ b) : Bud a c s := ⟨h.ok, h.ea, by have := h.cn; omega⟩
theorem isSt_ {e : Env} {i a : Nat} {s : LS} (h : gt e i = .dat (.ref a)) (k : s.a = a) : isSt e i s = true := by
  unfold isSt
  rw [h]
  simp [k]
section
variable {e : Env} {i a b : Nat} {s : LS} {Q : Rv → LS → Prop} {QS : Fl → LS → Prop} {QB : Bool → LS → Prop}
theorem S_told (h : isSt e i s = true) : Sat (mTold i e s) Q = Q (.dat (.int s.told)) s := by
  unfold mTold
  rw [if_pos h]
  rfl
theorem S_cnt (h : isSt e i s = true) : Sat (mCnt i e s) Q = Q (.dat (.int s.cnt)) s := by
  unfold mCnt
  rw [if_pos h]
  rfl
theorem S_hasG (h : isSt e i s = true) : Sat (mHasG i e s) QB = QB (!s.gr.isEmpty) s := by
  unfold mHasG
  rw [if_pos h]
  rfl
theorem S_hasC (h : isSt e i s = true) : Sat (mHasC i e s) QB = QB (!s.cs.isEmpty) s := by
  unfold mHasC
  rw [if_pos h]
  rfl
theorem S_lenC (h : isSt e i s = true) : Sat (mLenC i e s) Q = Q (.dat (.int s.cs.length)) s := by
  unfold mLenC
  rw [if_pos h]
  rfl
theorem S_incC (h : isSt e i s = true) : Sat (mIncC i e s) QS = QS (.nx e) { s with cnt := s.cnt + 1 } := by
  unfold mIncC
  rw [if_pos h]
  rfl
end
theorem atI_nat {α : Type} {xs : List α} {i : Int} (h0 : 0 ≤ i) (h1 : i < xs.length) : ∃ x, x ∈ xs ∧ atI xs i = some x := by
  have hi : i.toNat < xs.length := by omega
  refine ⟨xs[i.toNat], List.getElem_mem hi, ?_⟩
  unfold atI ixN
  rw [if_pos h0, if_pos h1]
  show xs[i.toNat]? = _
  exact List.getElem?_eq_getElem hi
theorem pw5 {x : Int} (h0 : 0 ≤ x) (h1 : x < 2 ^ 64) : PowOk x 5 := ⟨by decide, by decide, by omega⟩
theorem S_mix {a b : Nat} {s : LS} {Q : Rv → LS → Prop} (h : s.Ok) (ea : s.a = a) (hc : s.cnt < 100000000)
    (q : ∀ k : Int, 0 ≤ k → k < 1000000007 → Q (.dat (.int k)) { s with cnt := s.cnt + 1 }) : Sat (mixF [.ref a] s) Q := by
  unfold mixF
  rw [S_def (k := 1) (ds := [.ref a]) rfl]
  show Sat (mixM [.dat (.ref a), .un, .un, .un] s) _
  unfold mixM
  rw [S_seq, S_incC (isSt_ rfl ea), kS_nx, S_seq, S_set, S_cnt (s := { s with cnt := s.cnt + 1 }) (isSt_ rfl ea), kSet_dat, kS_nx, S_seq, S_set, S_C, kSet_dat, kS_nx]
  dsimp only [st]
  rw [S_seq, S_ifS, S_hasC (s := { s with cnt := s.cnt + 1 }) (isSt_ rfl ea)]
  have fin : ∀ c : Int, 0 ≤ c → c < 2147483648 → Sat ((mSeq (mSet 3 (mOp2 oMod (mOp2 oPow (mOp2 oAdd (mOp2 oAdd (mOp2 oAdd (mVar 2) (mOp2 oMul (mOp2 oMul (mC (.int 1009)) (mVar 1)) (mVar 1))) (mOp2 oMul (mC (.int 48611)) (mVar 1))) (mC (.int 17))) (mC (.int 5))) (mC (.int 2147483647))))
    (mRet (mOp2 oMod (mOp2 oAdd (mOp2 oMul (mVar 3) (mC (.int 39373))) (mOp2 oMul (mC (.int 7919)) (mVar 1))) (mC (.int 1000000007))))) [.dat (.ref a), .dat (.int ((s.cnt + 1 : Nat) : Int)), .dat (.int c), .un] { s with cnt := s.cnt + 1 }) (kD Q) := by
    intro c c0 c1
    have hn : (s.cnt + 1 : Nat) ≤ 100000000 := by omega
    have hn0 : 0 ≤ ((s.cnt + 1 : Nat) : Int) := by omega
    have hn1 : ((s.cnt + 1 : Nat) : Int) ≤ 100000000 := by omega
    generalize ((s.cnt + 1 : Nat) : Int) = n at *
    rw [S_seq, S_set, S_op2, S_op2, S_op2, S_op2, S_op2, S_var]
    dsimp only [gt]
    rw [kVar_dat, k2_, S_op2, S_op2, S_C, k2_, S_var]
    dsimp only [gt]
    rw [kVar_dat, k2b_, o_mul (mulOk (a := 10) (b := 27) (by decide) (by omega) (by decide) (by decide) (by decide)), SatO_some, k2_, S_var]
    dsimp only [gt]
    have b1 : 0 ≤ 1009 * n := by omega
    have b2 : 1009 * n ≤ 100900000000 := by omega
    have b3 : 0 ≤ 1009 * n * n := Int.mul_nonneg b1 hn0
    have b4 : 1009 * n * n ≤ 100900000000 * 100000000 := Int.mul_le_mul b2 hn1 hn0 (by decide)
    rw [kVar_dat, k2b_, o_mul (mulOk (a := 40) (b := 27) (by omega) (by omega) (by decide) (by decide) (by decide)), SatO_some, k2b_, o_add, SatO_some, k2_, S_op2, S_C, k2_, S_var]
    dsimp only [gt]
    rw [kVar_dat, k2b_, o_mul (mulOk (a := 20) (b := 27) (by decide) (by omega) (by decide) (by decide) (by decide)), SatO_some, k2b_, o_add, SatO_some, k2_, S_C, k2b_, o_add, SatO_some, k2_, S_C, k2b_, o_pow (pw5 (by omega) (by omega)), SatO_some, k2_, S_C, k2b_, o_mod (by decide), SatO_some, kSet_dat, kS_nx]
    dsimp only [st]
    have m0 := Int.emod_nonneg ((c + 1009 * n * n + 48611 * n + 17) ^ (5 : Int).toNat) (show (2147483647 : Int) ≠ 0 by decide)
    have m1 := Int.emod_lt_of_pos ((c + 1009 * n * n + 48611 * n + 17) ^ (5 : Int).toNat) (show (0 : Int) < 2147483647 by decide)
    generalize (c + 1009 * n * n + 48611 * n + 17) ^ (5 : Int).toNat % 2147483647 = m at *
    rw [S_ret', S_op2, S_op2, S_op2, S_var]
    dsimp only [gt]
    rw [kVar_dat, k2_, S_C, k2b_, o_mul (mulOk (a := 32) (b := 20) (by omega) (by decide) (by decide) (by decide) (by decide)), SatO_some, k2_, S_op2, S_C, k2_, S_var]
    dsimp only [gt]
    rw [kVar_dat, k2b_, o_mul (mulOk (a := 20) (b := 27) (by decide) (by omega) (by decide) (by decide) (by decide)), SatO_some, k2b_, o_add, SatO_some, k2_, S_C, k2b_, o_mod (by decide), SatO_some, kR_, kD_rt]
    exact q _ (Int.emod_nonneg _ (by decide)) (Int.emod_lt_of_pos _ (by decide))
  cases hcs : s.cs.isEmpty with
  | true => exact fin 5 (by decide) (by decide)
  | false =>
    show Sat (mSet 2 (mAtC 0 (mOp2 oMod (mVar 1) (mLenC 0))) _ _) _
    have hl : 0 < s.cs.length := by
      cases hq : s.cs with
      | nil =>
        rw [hq] at hcs
        cases hcs
      | cons x xs => simp
    have r0 := Int.emod_nonneg ((s.cnt + 1 : Nat) : Int) (show ((s.cs.length : Nat) : Int) ≠ 0 by omega)
    have r1 := Int.emod_lt_of_pos ((s.cnt + 1 : Nat) : Int) (show (0 : Int) < (s.cs.length : Nat) by omega)
    obtain ⟨x, hx, ex⟩ := atI_nat r0 r1
    have hx2 := h.2.2 x hx
    have key : mAtC 0 (mOp2 oMod (mVar 1) (mLenC 0)) [.dat (.ref a), .dat (.int ((s.cnt + 1 : Nat) : Int)), .dat (.int 5), .un] { s with cnt := s.cnt + 1 } = .ok (.dat (.int x)) { s with cnt := s.cnt + 1 } := by
      unfold mAtC mOp2 mVar mLenC
      have z : ∀ m, isSt [.dat (.ref a), .dat (.int ((s.cnt + 1 : Nat) : Int)), .dat (.int 5), .un] 0 { s with cnt := m } = true := fun m => isSt_ rfl ea
      rw [if_pos (z _)]
      dsimp only [gt, Rs.bind_ok]
      rw [if_pos (z _)]
      dsimp only [Rs.bind_ok]
      rw [o_mod (by omega), ofO_some]
      dsimp only [Rs.bind_ok]
      rw [if_pos (z _), ex]
      rfl
    rw [S_set, key, Sat_ok, kSet_dat, kS_nx]
    exact fin x hx2.1 (by omega)
/-- a draw -/
theorem S_draw {a b : Nat} {n : Int} {s : LS} {Q : Rv → LS → Prop} (h : Bud a (b + 1) s) (n0 : 0 < n) (n1 : n ≤ 10 ^ 90)
    (q : ∀ (k : Int) (s' : LS), 0 ≤ k → k < n → Bud a b s' → Q (.dat (.int k)) s') : Sat (drawF [.ref a, .int n] s) Q := by
  have nb : n.natAbs < 2 ^ 300 := by
    have : (10 : Int) ^ 90 < 2 ^ 300 := by decide
    omega
  have hcn := h.cn
  -- with a number told
  have told : ∀ s' : LS, s'.Ok → s'.a = a → s'.cnt = s.cnt → 0 < s'.told → Sat ((mSeq (mSet 2 (mOp2 oMod (mTold 0) (mVar 1)))
    (mSeq (mSetTold 0 (mOp2 oDiv (mTold 0) (mVar 1)))
    (mRet (mVar 2)))) [.dat (.ref a), .dat (.int n), .un, .un] s') (fun f g => kD Q f g ∧ ∃ r, f = .rt r) := by
    intro s' h1 h2 h3 h4
    rw [S_seq, S_set, S_op2, S_told (isSt_ rfl h2), k2_, S_var]
    dsimp only [gt]
    rw [kVar_dat, k2b_, o_mod n0, SatO_some, kSet_dat, kS_nx]
    dsimp only [st]
    have key : mSetTold 0 (mOp2 oDiv (mTold 0) (mVar 1)) [.dat (.ref a), .dat (.int n), .dat (.int (s'.told % n)), .un] s' = .ok (.nx [.dat (.ref a), .dat (.int n), .dat (.int (s'.told % n)), .un]) { s' with told := s'.told / n } := by
      unfold mSetTold mOp2 mVar mTold
      have z : isSt [.dat (.ref a), .dat (.int n), .dat (.int (s'.told % n)), .un] 0 s' = true := isSt_ rfl h2
      rw [if_pos z]
      dsimp only [gt, Rs.bind_ok]
      rw [o_div (divOk n0 nb (by decide) (by decide)), ofO_some]
      dsimp only [Rs.bind_ok]
      rw [if_pos z]
    rw [S_seq, key, Sat_ok, kS_nx, S_ret', S_var]
    dsimp only [gt]
    rw [kVar_dat, kR_]
    refine ⟨?_, _, rfl⟩
    rw [kD_rt]
    refine q _ _ (Int.emod_nonneg _ (by omega)) (Int.emod_lt_of_pos _ n0) ⟨⟨?_, h1.2.1, h1.2.2⟩, h2, ?_⟩
    · show 0 ≤ s'.told / n
      exact Int.ediv_nonneg (by omega) (by omega)
    · show s'.cnt + 16 * b ≤ _
      omega
  -- the rest
  have rest : ∀ s' : LS, s'.Ok → s'.a = a → s'.cnt = s.cnt → Sat ((mSeq (mSet 2 (mC (.int 0)))
    (mSeq (mSet 3 (mC (.int 1)))
    (mSeq (mWhile (mTest (mOp2 oLt (mVar 3) (mVar 1))) (mSeq (mSet 2 (mOp2 oAdd (mOp2 oMul (mVar 2) (mC (.int 1000000007))) (mCall mixF (mCons (mVar 0) mNil))))
    (mSet 3 (mOp2 oMul (mVar 3) (mC (.int 1000000007))))) 100)
    (mRet (mOp2 oMod (mVar 2) (mVar 1)))))) [.dat (.ref a), .dat (.int n), .un, .un] s') (kD Q) := by
    intro s' h1 h2 h3
    rw [S_seq, S_set, S_C, kSet_dat, kS_nx, S_seq, S_set, S_C, kSet_dat, kS_nx]
    dsimp only [st]
    rw [S_seq]
    refine S_while (fun m e g => ∃ (t z : Int) (j : Nat), e = [.dat (.ref a), .dat (.int n), .dat (.int t), .dat (.int z)] ∧ g.Ok ∧ g.a = a ∧ g.cnt = s.cnt + j ∧ j + m = 12 ∧ z = 1000000007 ^ j ∧ 0 ≤ t ∧ t < z) 12 ⟨0, 1, 0, rfl, h1, h2, h3, rfl, rfl, by decide, by decide⟩ (by decide) ?_
    rintro m e g ⟨t, z, j, rfl, g1, g2, g3, g4, g5, g6, g7⟩
    rw [S_test, S_op2, S_var]
    dsimp only [gt]
    rw [kVar_dat, k2_, S_var]
    dsimp only [gt]
    rw [kVar_dat, k2b_, o_lt, SatO_some, kTest_]
    have zle : ∀ j : Nat, j ≤ 12 → (1000000007 : Int) ^ j < 2 ^ 400 := fun j hj => by
      have e1 : (1000000007 : Int) ^ j ≤ 1000000007 ^ 12 := bpow_le hj
      have e2 : (1000000007 : Int) ^ 12 < 2 ^ 400 := by decide
      omega
    have zpos : (0 : Int) < 1000000007 ^ j := Int.pow_pos (by decide)
    by_cases hz : z < n
    · rw [decide_eq_true hz]
      dsimp only
      have hj : j < 11 := by
        by_cases hj : j < 11
        · exact hj
        · exfalso
          have e1 : (1000000007 : Int) ^ 11 ≤ 1000000007 ^ j := bpow_le (by omega)
          have e2 : (10 : Int) ^ 90 < 1000000007 ^ 11 := by decide
          omega
      have zb := zle j (by omega)
      rw [S_seq, S_set, S_op2, S_op2, S_var]
      dsimp only [gt]
      rw [kVar_dat, k2_, S_C, k2b_, o_mul (mulOk (a := 400) (b := 32) (by omega) (by decide) (by decide) (by decide) (by decide)), SatO_some, k2_, S_call, S_cons, S_var]
      dsimp only [gt]
      rw [kVar_dat, kc_, S_nil, kcb_, kCall_ (ds := [.ref a]) rfl]
      refine S_mix (b := 0) g1 g2 (by omega) fun k k0 k1 => ?_
      rw [k2b_, o_add, SatO_some, kSet_dat, kS_nx]
      dsimp only [st]
      rw [S_set, S_op2, S_var]
      dsimp only [gt]
      rw [kVar_dat, k2_, S_C, k2b_, o_mul (mulOk (a := 400) (b := 32) (by omega) (by decide) (by decide) (by decide) (by decide)), SatO_some, kSet_dat]
      dsimp only [st]
      refine ⟨m - 1, by omega, _, _, j + 1, rfl, g1, g2, ?_, by omega, ?_, ?_, ?_⟩
      · show g.cnt + 1 = _
        omega
      · rw [g5, Int.pow_succ]
      · omega
      · omega
    · rw [decide_eq_false hz]
      dsimp only
      rw [kS_nx, S_ret', S_op2, S_var]
      dsimp only [gt]
      rw [kVar_dat, k2_, S_var]
      dsimp only [gt]
      rw [kVar_dat, k2b_, o_mod n0, SatO_some, kR_, kD_rt]
      exact q _ _ (Int.emod_nonneg _ (by omega)) (Int.emod_lt_of_pos _ n0) ⟨g1, g2, by omega⟩
  unfold drawF
  rw [S_def (k := 2) (ds := [.ref a, .int n]) rfl]
  show Sat (drawM [.dat (.ref a), .dat (.int n), .un, .un] s) _
  unfold drawM
  -- behind the first statement
  have mid : ∀ s' : LS, s'.Ok → s'.a = a → s'.cnt = s.cnt → Sat ((mSeq (mIfS (mTest (mOp2 oGt (mTold 0) (mC (.int 0)))) (mSeq (mSet 2 (mOp2 oMod (mTold 0) (mVar 1)))
    (mSeq (mSetTold 0 (mOp2 oDiv (mTold 0) (mVar 1)))
    (mRet (mVar 2)))) mPass)
    (mSeq (mSet 2 (mC (.int 0)))
    (mSeq (mSet 3 (mC (.int 1)))
    (mSeq (mWhile (mTest (mOp2 oLt (mVar 3) (mVar 1))) (mSeq (mSet 2 (mOp2 oAdd (mOp2 oMul (mVar 2) (mC (.int 1000000007))) (mCall mixF (mCons (mVar 0) mNil))))
    (mSet 3 (mOp2 oMul (mVar 3) (mC (.int 1000000007))))) 100)
    (mRet (mOp2 oMod (mVar 2) (mVar 1))))))) [.dat (.ref a), .dat (.int n), .un, .un] s') (kD Q) := by
    intro s' h1 h2 h3
    rw [S_seq, S_ifS, S_test, S_op2, S_told (isSt_ rfl h2), k2_, S_C, k2b_, o_gt, SatO_some, kTest_]
    refine kI_d (fun hp => ?_) (fun _ => ?_)
    · refine (told s' h1 h2 h3 hp).mono fun f g ⟨w, r, e⟩ => ?_
      subst e
      exact w
    · exact rest s' h1 h2 h3
  rw [S_seq, S_ifS, S_and, S_test, S_op2, S_told (isSt_ rfl h.ea), k2_, S_C, k2b_, o_eq, SatO_some, kTest_]
  by_cases ht : s.told = 0
  · rw [decide_eq_true ht, kAnd_true, S_hasG (isSt_ rfl h.ea)]
    cases hg : s.gr with
    | nil => exact mid s h.ok h.ea rfl
    | cons x r =>
      show Sat (mPopG 0 _ s) _
      have key : mPopG 0 [.dat (.ref a), .dat (.int n), .un, .un] s = .ok (.nx [.dat (.ref a), .dat (.int n), .un, .un]) { s with gr := r, told := x } := by
        unfold mPopG
        rw [if_pos (isSt_ rfl h.ea), hg]
      rw [key, Sat_ok, kS_nx]
      have hx := h.ok.2.1
      rw [hg] at hx
      exact mid _ ⟨Int.le_of_lt (hx x (by simp)), fun y hy => hx y (by simp [hy]), h.ok.2.2⟩ h.ea rfl
  · rw [decide_eq_false ht, kAnd_false]
    exact mid s h.ok h.ea rfl
end PB

set_option Elab.async false
set_option linter.all false
set_option maxRecDepth 10000
set_option exponentiation.threshold 2000
namespace PB
/-! ### the greatest number that two share, lowest terms -/
def sharedM : MS LS := (mSeq (mSet 0 (mOpN oAbs (mCons (mVar 0) mNil)))
    (mSeq (mSet 1 (mOpN oAbs (mCons (mVar 1) mNil)))
    (mSeq (mWhile (mTest (mOp2 oGt (mVar 1) (mC (.int 0)))) (mPar 0 1 (mVar 1) (mOp2 oMod (mVar 0) (mVar 1))) 100000)
    (mRet (mVar 0)))))
def sharedF : MF LS := mDef 2 2 sharedM
theorem abs_if (x : Int) : (if x < 0 then -x else x) = (x.natAbs : Int) := by
  split <;> omega
theorem halve {a b m : Nat} (hb : 0 < b) (hab : b ≤ a) (h : a * b < 2 ^ (m + 1)) : b * (a % b) < 2 ^ m := by
  have h1 : a % b < b := Nat.mod_lt _ hb
  have h3 : b * (a / b) + a % b = a := Nat.div_add_mod a b
  have h4 : 0 < a / b := Nat.div_pos hab hb
  have h5 : b * 1 ≤ b * (a / b) := Nat.mul_le_mul_left b h4
  have h2 : 2 * (a % b) ≤ a := by omega
  have h6 : b * (2 * (a % b)) ≤ b * a := Nat.mul_le_mul_left b h2
  rw [Nat.mul_left_comm] at h6
  rw [Nat.mul_comm] at h
  rw [Nat.pow_succ] at h
  omega
theorem S_shared {x y : Int} {s : LS} {Q : Rv → LS → Prop} (hx : x.natAbs < 2 ^ 1000) (hy : y.natAbs < 2 ^ 1000) (q : Q (.dat (.int ((Nat.gcd x.natAbs y.natAbs : Nat) : Int))) s) : Sat (sharedF [.int x, .int y] s) Q := by
  unfold sharedF
  rw [S_def (k := 2) (ds := [.int x, .int y]) rfl]
  show Sat (sharedM [.dat (.int x), .dat (.int y)] s) _
  unfold sharedM
  simp only [S_var, S_C, S_op1, k1_, S_op2, k2_, k2b_, S_nil, S_cons, kc_, kcb_, S_opN, kN_, S_tup, S_lst, kT_u, kL_u, stoL_nil, stoL_dat, stoL_own, consO_some, SatO_some, S_call, kCall_u, S_if, S_ifS, kI_true, kI_false, S_andV, S_orV, kAndV_true, kAndV_false, kOrV_true, kOrV_false, S_test, kTest_, S_tru, kTru_, S_and, S_or, S_not, kAnd_true, kAnd_false, kOr_true, kOr_false, kNot_, S_seq, kS_nx, kS_rt, kS_bk, kS_ct, S_pass, S_set, kSet_dat, kSet_own, S_par, kP_, kPb_, S_ret', kR_, S_retN, S_break, S_cont, S_for, kF_, S_forNil, kFb_nx, kFb_ct, kFb_bk, kFb_rt, S_items, kItems_tup, kItems_lst, kItems_own, S_lc, kLc_, S_lcNil, S_yes, kD_rt, kD_nx, Rv.ret, gt, st, kVar_dat, kVar_own, o_add, o_sub, o_eq, o_ne, o_lt, o_le, o_gt, o_ge, o_eqB, o_neB, o_is2, o_isnot2, o_abs, o_ix, o_ixO, o_ixB, o_ixL, o_tupO, o_isBool, map_some', wp, tgN_, List.length_cons, List.length_nil, Nat.reduceAdd, Nat.reduceLeDiff, true_and, decide_true, decide_false, Bool.not_true, Bool.not_false, o_mul_u, o_div_u, o_mod_u, o_pow_u, o_eqS, o_neS, o_intB, o_lenS, o_lenO, o_lenB, o_iaddI, S_s1, kS1_, kS1b_, S_lm, kLm_bor, kLm_own, kLmb_, S_tab, o_ixT, o_ixS, S_put, kPut_, kPutK_, S_zip2, kZip_, kZipb_tup, o_sum, o_sumB, o_tupB, o_tupL, o_lenT, S_range1, kRng_3, S_tgtL, kTgtL_, List.nil_append, List.cons_append, Nat.reduceLT, SZ, forall_const, true_implies, abs_if]
  refine S_while (fun m e g => ∃ (a b k : Nat), e = [.dat (.int (a : Int)), .dat (.int (b : Int))] ∧ g = s ∧ Nat.gcd a b = Nat.gcd x.natAbs y.natAbs ∧ a * b < 2 ^ k ∧ m = if b ≤ a then k + 1 else k + 2) (if y.natAbs ≤ x.natAbs then 2000 + 1 else 2000 + 2) ⟨_, _, 2000, rfl, rfl, rfl, ?_, rfl⟩ (by split <;> decide) ?_
  · have h1 : x.natAbs * y.natAbs < 2 ^ 1000 * 2 ^ 1000 := Nat.mul_lt_mul'' hx hy
    rw [← Nat.pow_add] at h1
    exact h1
  · rintro m e g ⟨a, b, k, rfl, rfl, h1, h2, h3⟩
    simp only [S_var, S_C, S_op1, k1_, S_op2, k2_, k2b_, S_nil, S_cons, kc_, kcb_, S_opN, kN_, S_tup, S_lst, kT_u, kL_u, stoL_nil, stoL_dat, stoL_own, consO_some, SatO_some, S_call, kCall_u, S_if, S_ifS, kI_true, kI_false, S_andV, S_orV, kAndV_true, kAndV_false, kOrV_true, kOrV_false, S_test, kTest_, S_tru, kTru_, S_and, S_or, S_not, kAnd_true, kAnd_false, kOr_true, kOr_false, kNot_, S_seq, kS_nx, kS_rt, kS_bk, kS_ct, S_pass, S_set, kSet_dat, kSet_own, S_par, kP_, kPb_, S_ret', kR_, S_retN, S_break, S_cont, S_for, kF_, S_forNil, kFb_nx, kFb_ct, kFb_bk, kFb_rt, S_items, kItems_tup, kItems_lst, kItems_own, S_lc, kLc_, S_lcNil, S_yes, kD_rt, kD_nx, Rv.ret, gt, st, kVar_dat, kVar_own, o_add, o_sub, o_eq, o_ne, o_lt, o_le, o_gt, o_ge, o_eqB, o_neB, o_is2, o_isnot2, o_abs, o_ix, o_ixO, o_ixB, o_ixL, o_tupO, o_isBool, map_some', wp, tgN_, List.length_cons, List.length_nil, Nat.reduceAdd, Nat.reduceLeDiff, true_and, decide_true, decide_false, Bool.not_true, Bool.not_false, o_mul_u, o_div_u, o_mod_u, o_pow_u, o_eqS, o_neS, o_intB, o_lenS, o_lenO, o_lenB, o_iaddI, S_s1, kS1_, kS1b_, S_lm, kLm_bor, kLm_own, kLmb_, S_tab, o_ixT, o_ixS, S_put, kPut_, kPutK_, S_zip2, kZip_, kZipb_tup, o_sum, o_sumB, o_tupB, o_tupL, o_lenT, S_range1, kRng_3, S_tgtL, kTgtL_, List.nil_append, List.cons_append, Nat.reduceLT, SZ, forall_const, true_implies]
    by_cases hb : 0 < b
    · rw [decide_eq_true (by omega)]
      simp only [S_var, S_C, S_op1, k1_, S_op2, k2_, k2b_, S_nil, S_cons, kc_, kcb_, S_opN, kN_, S_tup, S_lst, kT_u, kL_u, stoL_nil, stoL_dat, stoL_own, consO_some, SatO_some, S_call, kCall_u, S_if, S_ifS, kI_true, kI_false, S_andV, S_orV, kAndV_true, kAndV_false, kOrV_true, kOrV_false, S_test, kTest_, S_tru, kTru_, S_and, S_or, S_not, kAnd_true, kAnd_false, kOr_true, kOr_false, kNot_, S_seq, kS_nx, kS_rt, kS_bk, kS_ct, S_pass, S_set, kSet_dat, kSet_own, S_par, kP_, kPb_, S_ret', kR_, S_retN, S_break, S_cont, S_for, kF_, S_forNil, kFb_nx, kFb_ct, kFb_bk, kFb_rt, S_items, kItems_tup, kItems_lst, kItems_own, S_lc, kLc_, S_lcNil, S_yes, kD_rt, kD_nx, Rv.ret, gt, st, kVar_dat, kVar_own, o_add, o_sub, o_eq, o_ne, o_lt, o_le, o_gt, o_ge, o_eqB, o_neB, o_is2, o_isnot2, o_abs, o_ix, o_ixO, o_ixB, o_ixL, o_tupO, o_isBool, map_some', wp, tgN_, List.length_cons, List.length_nil, Nat.reduceAdd, Nat.reduceLeDiff, true_and, decide_true, decide_false, Bool.not_true, Bool.not_false, o_mul_u, o_div_u, o_mod_u, o_pow_u, o_eqS, o_neS, o_intB, o_lenS, o_lenO, o_lenB, o_iaddI, S_s1, kS1_, kS1b_, S_lm, kLm_bor, kLm_own, kLmb_, S_tab, o_ixT, o_ixS, S_put, kPut_, kPutK_, S_zip2, kZip_, kZipb_tup, o_sum, o_sumB, o_tupB, o_tupL, o_lenT, S_range1, kRng_3, S_tgtL, kTgtL_, List.nil_append, List.cons_append, Nat.reduceLT, SZ, forall_const, true_implies]
      refine ⟨by omega, ?_⟩
      have e1 : (a : Int) % (b : Int) = ((a % b : Nat) : Int) := rfl
      have hg : Nat.gcd b (a % b) = Nat.gcd x.natAbs y.natAbs := by
        rw [← h1, Nat.gcd_comm b, ← Nat.gcd_rec, Nat.gcd_comm]
      by_cases hab : b ≤ a
      · rw [if_pos hab] at h3
        have hlt := Nat.mod_lt a hb
        cases k with
        | zero =>
          exfalso
          have : 1 * 1 ≤ a * b := Nat.mul_le_mul (by omega) hb
          omega
        | succ k =>
          refine ⟨k + 1, by omega, b, a % b, k, by rw [e1], hg, halve hb hab h2, ?_⟩
          rw [if_pos (by omega)]
      · rw [if_neg hab] at h3
        have e2 : a % b = a := Nat.mod_eq_of_lt (by omega)
        refine ⟨k + 1, by omega, b, a % b, k, by rw [e1], hg, by rw [e2, Nat.mul_comm]; exact h2, ?_⟩
        rw [e2, if_pos (by omega)]
    · rw [decide_eq_false (by omega)]
      simp only [S_var, S_C, S_op1, k1_, S_op2, k2_, k2b_, S_nil, S_cons, kc_, kcb_, S_opN, kN_, S_tup, S_lst, kT_u, kL_u, stoL_nil, stoL_dat, stoL_own, consO_some, SatO_some, S_call, kCall_u, S_if, S_ifS, kI_true, kI_false, S_andV, S_orV, kAndV_true, kAndV_false, kOrV_true, kOrV_false, S_test, kTest_, S_tru, kTru_, S_and, S_or, S_not, kAnd_true, kAnd_false, kOr_true, kOr_false, kNot_, S_seq, kS_nx, kS_rt, kS_bk, kS_ct, S_pass, S_set, kSet_dat, kSet_own, S_par, kP_, kPb_, S_ret', kR_, S_retN, S_break, S_cont, S_for, kF_, S_forNil, kFb_nx, kFb_ct, kFb_bk, kFb_rt, S_items, kItems_tup, kItems_lst, kItems_own, S_lc, kLc_, S_lcNil, S_yes, kD_rt, kD_nx, Rv.ret, gt, st, kVar_dat, kVar_own, o_add, o_sub, o_eq, o_ne, o_lt, o_le, o_gt, o_ge, o_eqB, o_neB, o_is2, o_isnot2, o_abs, o_ix, o_ixO, o_ixB, o_ixL, o_tupO, o_isBool, map_some', wp, tgN_, List.length_cons, List.length_nil, Nat.reduceAdd, Nat.reduceLeDiff, true_and, decide_true, decide_false, Bool.not_true, Bool.not_false, o_mul_u, o_div_u, o_mod_u, o_pow_u, o_eqS, o_neS, o_intB, o_lenS, o_lenO, o_lenB, o_iaddI, S_s1, kS1_, kS1b_, S_lm, kLm_bor, kLm_own, kLmb_, S_tab, o_ixT, o_ixS, S_put, kPut_, kPutK_, S_zip2, kZip_, kZipb_tup, o_sum, o_sumB, o_tupB, o_tupL, o_lenT, S_range1, kRng_3, S_tgtL, kTgtL_, List.nil_append, List.cons_append, Nat.reduceLT, SZ, forall_const, true_implies]
      have hb0 : b = 0 := by omega
      subst hb0
      rw [Nat.gcd_zero_right] at h1
      rw [h1]
      exact q
def lowestM : MS LS := (mSeq (mSet 1 (mC (.int 0)))
    (mSeq (mFor (mItems (mVar 0)) (tgN 2) (mSet 1 (mCall sharedF (mCons (mVar 1) (mCons (mVar 2) mNil)))))
    (mRet (mOpN oTuple (mCons (mLc (mItems (mVar 0)) (tgN 2) mYes (mOp2 oDiv (mVar 2) (mVar 1)) [2]) mNil)))))
def lowestF : MF LS := mDef 3 1 lowestM
/-- a fraction in lowest terms -/
def fr (p q : Int) : D := .tup [.int p, .int q]
structure Low (n : Nat) (p q : Int) : Prop where
  qp : 0 < q
  co : Nat.gcd p.natAbs q.natAbs = 1
  pb : p.natAbs < 2 ^ n
  qb : q.natAbs < 2 ^ n
theorem Low.le {n m : Nat} {p q : Int} (h : Low n p q) (k : n ≤ m) : Low m p q :=
  ⟨h.qp, h.co, Nat.lt_of_lt_of_le h.pb (Nat.pow_le_pow_right (by decide) k), Nat.lt_of_lt_of_le h.qb (Nat.pow_le_pow_right (by decide) k)⟩
theorem natAbs_div_nat (p : Int) {g : Nat} (hd : (g : Int) ∣ p) : (p / (g : Int)).natAbs = p.natAbs / g := by
  obtain ⟨k, rfl⟩ := hd
  by_cases h : g = 0
  · subst h
    simp
  · rw [Int.mul_ediv_cancel_left _ (by omega), Int.natAbs_mul, Int.natAbs_natCast, Nat.mul_div_cancel_left _ (by omega)]
theorem low_div {n : Nat} {p q : Int} (hq : 0 < q) (hp : p.natAbs < 2 ^ n) (hqb : q.natAbs < 2 ^ n) : Low n (p / (Nat.gcd p.natAbs q.natAbs : Nat)) (q / (Nat.gcd p.natAbs q.natAbs : Nat)) := by
  have g0 : 0 < Nat.gcd p.natAbs q.natAbs := Nat.gcd_pos_of_pos_right _ (by omega)
  have d1 : ((Nat.gcd p.natAbs q.natAbs : Nat) : Int) ∣ p := Int.ofNat_dvd_left.mpr (Nat.gcd_dvd_left _ _)
  have d2 : ((Nat.gcd p.natAbs q.natAbs : Nat) : Int) ∣ q := Int.ofNat_dvd_left.mpr (Nat.gcd_dvd_right _ _)
  have e1 := natAbs_div_nat p d1
  have e2 := natAbs_div_nat q d2
  have l1 : p.natAbs / Nat.gcd p.natAbs q.natAbs ≤ p.natAbs := Nat.div_le_self _ _
  have l2 : q.natAbs / Nat.gcd p.natAbs q.natAbs ≤ q.natAbs := Nat.div_le_self _ _
  refine ⟨?_, ?_, by omega, by omega⟩
  · obtain ⟨k, hk⟩ := d2
    generalize hG : Nat.gcd p.natAbs q.natAbs = G at *
    rw [hk, Int.mul_ediv_cancel_left _ (by omega)]
    rw [hk] at hq
    exact Int.pos_of_mul_pos_right hq (by omega)
  · rw [e1, e2]
    exact Nat.gcd_div_gcd_div_gcd_of_pos_right (by omega)
theorem S_lowest {p q : Int} {s : LS} {Q : Rv → LS → Prop} (hq : 0 < q) (hp : p.natAbs < 2 ^ 1000) (hqb : q.natAbs < 2 ^ 1000) (h : ∀ p' q', (∀ n, p.natAbs < 2 ^ n → q.natAbs < 2 ^ n → Low n p' q') → Q (.dat (fr p' q')) s) : Sat (lowestF [.lst [.int p, .int q]] s) Q := by
  unfold lowestF
  rw [S_def (k := 1) (ds := [.lst [.int p, .int q]]) rfl]
  show Sat (lowestM [.dat (.lst [.int p, .int q]), .un, .un] s) _
  unfold lowestM
  have e0 : Nat.gcd (0 : Int).natAbs p.natAbs = p.natAbs := Nat.gcd_zero_left _
  have e1 : (Nat.gcd ((p.natAbs : Nat) : Int).natAbs q.natAbs) = Nat.gcd p.natAbs q.natAbs := by rw [Int.natAbs_natCast]
  simp only [S_var, S_C, S_op1, k1_, S_op2, k2_, k2b_, S_nil, S_cons, kc_, kcb_, S_opN, kN_, S_tup, S_lst, kT_u, kL_u, stoL_nil, stoL_dat, stoL_own, consO_some, SatO_some, S_call, kCall_u, S_if, S_ifS, kI_true, kI_false, S_andV, S_orV, kAndV_true, kAndV_false, kOrV_true, kOrV_false, S_test, kTest_, S_tru, kTru_, S_and, S_or, S_not, kAnd_true, kAnd_false, kOr_true, kOr_false, kNot_, S_seq, kS_nx, kS_rt, kS_bk, kS_ct, S_pass, S_set, kSet_dat, kSet_own, S_par, kP_, kPb_, S_ret', kR_, S_retN, S_break, S_cont, S_for, kF_, S_forNil, kFb_nx, kFb_ct, kFb_bk, kFb_rt, S_items, kItems_tup, kItems_lst, kItems_own, S_lc, kLc_, S_lcNil, S_yes, kD_rt, kD_nx, Rv.ret, gt, st, kVar_dat, kVar_own, o_add, o_sub, o_eq, o_ne, o_lt, o_le, o_gt, o_ge, o_eqB, o_neB, o_is2, o_isnot2, o_abs, o_ix, o_ixO, o_ixB, o_ixL, o_tupO, o_isBool, map_some', wp, tgN_, List.length_cons, List.length_nil, Nat.reduceAdd, Nat.reduceLeDiff, true_and, decide_true, decide_false, Bool.not_true, Bool.not_false, o_mul_u, o_div_u, o_mod_u, o_pow_u, o_eqS, o_neS, o_intB, o_lenS, o_lenO, o_lenB, o_iaddI, S_s1, kS1_, kS1b_, S_lm, kLm_bor, kLm_own, kLmb_, S_tab, o_ixT, o_ixS, S_put, kPut_, kPutK_, S_zip2, kZip_, kZipb_tup, o_sum, o_sumB, o_tupB, o_tupL, o_lenT, S_range1, kRng_3, S_tgtL, kTgtL_, List.nil_append, List.cons_append, Nat.reduceLT, SZ, forall_const, true_implies]
  rw [S_forCons (tgN_)]
  simp only [S_var, S_C, S_op1, k1_, S_op2, k2_, k2b_, S_nil, S_cons, kc_, kcb_, S_opN, kN_, S_tup, S_lst, kT_u, kL_u, stoL_nil, stoL_dat, stoL_own, consO_some, SatO_some, S_call, kCall_u, S_if, S_ifS, kI_true, kI_false, S_andV, S_orV, kAndV_true, kAndV_false, kOrV_true, kOrV_false, S_test, kTest_, S_tru, kTru_, S_and, S_or, S_not, kAnd_true, kAnd_false, kOr_true, kOr_false, kNot_, S_seq, kS_nx, kS_rt, kS_bk, kS_ct, S_pass, S_set, kSet_dat, kSet_own, S_par, kP_, kPb_, S_ret', kR_, S_retN, S_break, S_cont, S_for, kF_, S_forNil, kFb_nx, kFb_ct, kFb_bk, kFb_rt, S_items, kItems_tup, kItems_lst, kItems_own, S_lc, kLc_, S_lcNil, S_yes, kD_rt, kD_nx, Rv.ret, gt, st, kVar_dat, kVar_own, o_add, o_sub, o_eq, o_ne, o_lt, o_le, o_gt, o_ge, o_eqB, o_neB, o_is2, o_isnot2, o_abs, o_ix, o_ixO, o_ixB, o_ixL, o_tupO, o_isBool, map_some', wp, tgN_, List.length_cons, List.length_nil, Nat.reduceAdd, Nat.reduceLeDiff, true_and, decide_true, decide_false, Bool.not_true, Bool.not_false, o_mul_u, o_div_u, o_mod_u, o_pow_u, o_eqS, o_neS, o_intB, o_lenS, o_lenO, o_lenB, o_iaddI, S_s1, kS1_, kS1b_, S_lm, kLm_bor, kLm_own, kLmb_, S_tab, o_ixT, o_ixS, S_put, kPut_, kPutK_, S_zip2, kZip_, kZipb_tup, o_sum, o_sumB, o_tupB, o_tupL, o_lenT, S_range1, kRng_3, S_tgtL, kTgtL_, List.nil_append, List.cons_append, Nat.reduceLT, SZ, forall_const, true_implies]
  refine S_shared (by decide) hp ?_
  rw [e0]
  simp only [S_var, S_C, S_op1, k1_, S_op2, k2_, k2b_, S_nil, S_cons, kc_, kcb_, S_opN, kN_, S_tup, S_lst, kT_u, kL_u, stoL_nil, stoL_dat, stoL_own, consO_some, SatO_some, S_call, kCall_u, S_if, S_ifS, kI_true, kI_false, S_andV, S_orV, kAndV_true, kAndV_false, kOrV_true, kOrV_false, S_test, kTest_, S_tru, kTru_, S_and, S_or, S_not, kAnd_true, kAnd_false, kOr_true, kOr_false, kNot_, S_seq, kS_nx, kS_rt, kS_bk, kS_ct, S_pass, S_set, kSet_dat, kSet_own, S_par, kP_, kPb_, S_ret', kR_, S_retN, S_break, S_cont, S_for, kF_, S_forNil, kFb_nx, kFb_ct, kFb_bk, kFb_rt, S_items, kItems_tup, kItems_lst, kItems_own, S_lc, kLc_, S_lcNil, S_yes, kD_rt, kD_nx, Rv.ret, gt, st, kVar_dat, kVar_own, o_add, o_sub, o_eq, o_ne, o_lt, o_le, o_gt, o_ge, o_eqB, o_neB, o_is2, o_isnot2, o_abs, o_ix, o_ixO, o_ixB, o_ixL, o_tupO, o_isBool, map_some', wp, tgN_, List.length_cons, List.length_nil, Nat.reduceAdd, Nat.reduceLeDiff, true_and, decide_true, decide_false, Bool.not_true, Bool.not_false, o_mul_u, o_div_u, o_mod_u, o_pow_u, o_eqS, o_neS, o_intB, o_lenS, o_lenO, o_lenB, o_iaddI, S_s1, kS1_, kS1b_, S_lm, kLm_bor, kLm_own, kLmb_, S_tab, o_ixT, o_ixS, S_put, kPut_, kPutK_, S_zip2, kZip_, kZipb_tup, o_sum, o_sumB, o_tupB, o_tupL, o_lenT, S_range1, kRng_3, S_tgtL, kTgtL_, List.nil_append, List.cons_append, Nat.reduceLT, SZ, forall_const, true_implies]
  rw [S_forCons (tgN_)]
  simp only [S_var, S_C, S_op1, k1_, S_op2, k2_, k2b_, S_nil, S_cons, kc_, kcb_, S_opN, kN_, S_tup, S_lst, kT_u, kL_u, stoL_nil, stoL_dat, stoL_own, consO_some, SatO_some, S_call, kCall_u, S_if, S_ifS, kI_true, kI_false, S_andV, S_orV, kAndV_true, kAndV_false, kOrV_true, kOrV_false, S_test, kTest_, S_tru, kTru_, S_and, S_or, S_not, kAnd_true, kAnd_false, kOr_true, kOr_false, kNot_, S_seq, kS_nx, kS_rt, kS_bk, kS_ct, S_pass, S_set, kSet_dat, kSet_own, S_par, kP_, kPb_, S_ret', kR_, S_retN, S_break, S_cont, S_for, kF_, S_forNil, kFb_nx, kFb_ct, kFb_bk, kFb_rt, S_items, kItems_tup, kItems_lst, kItems_own, S_lc, kLc_, S_lcNil, S_yes, kD_rt, kD_nx, Rv.ret, gt, st, kVar_dat, kVar_own, o_add, o_sub, o_eq, o_ne, o_lt, o_le, o_gt, o_ge, o_eqB, o_neB, o_is2, o_isnot2, o_abs, o_ix, o_ixO, o_ixB, o_ixL, o_tupO, o_isBool, map_some', wp, tgN_, List.length_cons, List.length_nil, Nat.reduceAdd, Nat.reduceLeDiff, true_and, decide_true, decide_false, Bool.not_true, Bool.not_false, o_mul_u, o_div_u, o_mod_u, o_pow_u, o_eqS, o_neS, o_intB, o_lenS, o_lenO, o_lenB, o_iaddI, S_s1, kS1_, kS1b_, S_lm, kLm_bor, kLm_own, kLmb_, S_tab, o_ixT, o_ixS, S_put, kPut_, kPutK_, S_zip2, kZip_, kZipb_tup, o_sum, o_sumB, o_tupB, o_tupL, o_lenT, S_range1, kRng_3, S_tgtL, kTgtL_, List.nil_append, List.cons_append, Nat.reduceLT, SZ, forall_const, true_implies]
  refine S_shared (by rw [Int.natAbs_natCast]; exact hp) hqb ?_
  rw [e1]
  have g0 : 0 < Nat.gcd p.natAbs q.natAbs := Nat.gcd_pos_of_pos_right _ (by omega)
  have gl : Nat.gcd p.natAbs q.natAbs ≤ q.natAbs := Nat.le_of_dvd (by omega) (Nat.gcd_dvd_right _ _)
  have hd : DivOk ((Nat.gcd p.natAbs q.natAbs : Nat) : Int) := divOk (b := 1000) (by omega) (by rw [Int.natAbs_natCast]; omega) (by decide) (by decide)
  simp only [S_var, S_C, S_op1, k1_, S_op2, k2_, k2b_, S_nil, S_cons, kc_, kcb_, S_opN, kN_, S_tup, S_lst, kT_u, kL_u, stoL_nil, stoL_dat, stoL_own, consO_some, SatO_some, S_call, kCall_u, S_if, S_ifS, kI_true, kI_false, S_andV, S_orV, kAndV_true, kAndV_false, kOrV_true, kOrV_false, S_test, kTest_, S_tru, kTru_, S_and, S_or, S_not, kAnd_true, kAnd_false, kOr_true, kOr_false, kNot_, S_seq, kS_nx, kS_rt, kS_bk, kS_ct, S_pass, S_set, kSet_dat, kSet_own, S_par, kP_, kPb_, S_ret', kR_, S_retN, S_break, S_cont, S_for, kF_, S_forNil, kFb_nx, kFb_ct, kFb_bk, kFb_rt, S_items, kItems_tup, kItems_lst, kItems_own, S_lc, kLc_, S_lcNil, S_yes, kD_rt, kD_nx, Rv.ret, gt, st, kVar_dat, kVar_own, o_add, o_sub, o_eq, o_ne, o_lt, o_le, o_gt, o_ge, o_eqB, o_neB, o_is2, o_isnot2, o_abs, o_ix, o_ixO, o_ixB, o_ixL, o_tupO, o_isBool, map_some', wp, tgN_, List.length_cons, List.length_nil, Nat.reduceAdd, Nat.reduceLeDiff, true_and, decide_true, decide_false, Bool.not_true, Bool.not_false, o_mul_u, o_div_u, o_mod_u, o_pow_u, o_eqS, o_neS, o_intB, o_lenS, o_lenO, o_lenB, o_iaddI, S_s1, kS1_, kS1b_, S_lm, kLm_bor, kLm_own, kLmb_, S_tab, o_ixT, o_ixS, S_put, kPut_, kPutK_, S_zip2, kZip_, kZipb_tup, o_sum, o_sumB, o_tupB, o_tupL, o_lenT, S_range1, kRng_3, S_tgtL, kTgtL_, List.nil_append, List.cons_append, Nat.reduceLT, SZ, forall_const, true_implies]
  rw [S_lcCons (tgN_)]
  simp only [S_var, S_C, S_op1, k1_, S_op2, k2_, k2b_, S_nil, S_cons, kc_, kcb_, S_opN, kN_, S_tup, S_lst, kT_u, kL_u, stoL_nil, stoL_dat, stoL_own, consO_some, SatO_some, S_call, kCall_u, S_if, S_ifS, kI_true, kI_false, S_andV, S_orV, kAndV_true, kAndV_false, kOrV_true, kOrV_false, S_test, kTest_, S_tru, kTru_, S_and, S_or, S_not, kAnd_true, kAnd_false, kOr_true, kOr_false, kNot_, S_seq, kS_nx, kS_rt, kS_bk, kS_ct, S_pass, S_set, kSet_dat, kSet_own, S_par, kP_, kPb_, S_ret', kR_, S_retN, S_break, S_cont, S_for, kF_, S_forNil, kFb_nx, kFb_ct, kFb_bk, kFb_rt, S_items, kItems_tup, kItems_lst, kItems_own, S_lc, kLc_, S_lcNil, S_yes, kD_rt, kD_nx, Rv.ret, gt, st, kVar_dat, kVar_own, o_add, o_sub, o_eq, o_ne, o_lt, o_le, o_gt, o_ge, o_eqB, o_neB, o_is2, o_isnot2, o_abs, o_ix, o_ixO, o_ixB, o_ixL, o_tupO, o_isBool, map_some', wp, tgN_, List.length_cons, List.length_nil, Nat.reduceAdd, Nat.reduceLeDiff, true_and, decide_true, decide_false, Bool.not_true, Bool.not_false, o_mul_u, o_div_u, o_mod_u, o_pow_u, o_eqS, o_neS, o_intB, o_lenS, o_lenO, o_lenB, o_iaddI, S_s1, kS1_, kS1b_, S_lm, kLm_bor, kLm_own, kLmb_, S_tab, o_ixT, o_ixS, S_put, kPut_, kPutK_, S_zip2, kZip_, kZipb_tup, o_sum, o_sumB, o_tupB, o_tupL, o_lenT, S_range1, kRng_3, S_tgtL, kTgtL_, List.nil_append, List.cons_append, Nat.reduceLT, SZ, forall_const, true_implies, kLcT_true, kLcA_dat]
  refine ⟨hd, ?_⟩
  rw [S_lcCons (tgN_)]
  simp only [S_var, S_C, S_op1, k1_, S_op2, k2_, k2b_, S_nil, S_cons, kc_, kcb_, S_opN, kN_, S_tup, S_lst, kT_u, kL_u, stoL_nil, stoL_dat, stoL_own, consO_some, SatO_some, S_call, kCall_u, S_if, S_ifS, kI_true, kI_false, S_andV, S_orV, kAndV_true, kAndV_false, kOrV_true, kOrV_false, S_test, kTest_, S_tru, kTru_, S_and, S_or, S_not, kAnd_true, kAnd_false, kOr_true, kOr_false, kNot_, S_seq, kS_nx, kS_rt, kS_bk, kS_ct, S_pass, S_set, kSet_dat, kSet_own, S_par, kP_, kPb_, S_ret', kR_, S_retN, S_break, S_cont, S_for, kF_, S_forNil, kFb_nx, kFb_ct, kFb_bk, kFb_rt, S_items, kItems_tup, kItems_lst, kItems_own, S_lc, kLc_, S_lcNil, S_yes, kD_rt, kD_nx, Rv.ret, gt, st, kVar_dat, kVar_own, o_add, o_sub, o_eq, o_ne, o_lt, o_le, o_gt, o_ge, o_eqB, o_neB, o_is2, o_isnot2, o_abs, o_ix, o_ixO, o_ixB, o_ixL, o_tupO, o_isBool, map_some', wp, tgN_, List.length_cons, List.length_nil, Nat.reduceAdd, Nat.reduceLeDiff, true_and, decide_true, decide_false, Bool.not_true, Bool.not_false, o_mul_u, o_div_u, o_mod_u, o_pow_u, o_eqS, o_neS, o_intB, o_lenS, o_lenO, o_lenB, o_iaddI, S_s1, kS1_, kS1b_, S_lm, kLm_bor, kLm_own, kLmb_, S_tab, o_ixT, o_ixS, S_put, kPut_, kPutK_, S_zip2, kZip_, kZipb_tup, o_sum, o_sumB, o_tupB, o_tupL, o_lenT, S_range1, kRng_3, S_tgtL, kTgtL_, List.nil_append, List.cons_append, Nat.reduceLT, SZ, forall_const, true_implies, kLcT_true, kLcA_dat]
  refine ⟨hd, ?_⟩
  exact h _ _ fun n h1 h2 => low_div hq h1 h2
theorem low_eq {n : Nat} {p q r t : Int} (h : Low n p q) (k : Low n r t) (e : p * t = r * q) : p = r ∧ q = t := by
  have e' : p.natAbs * t.natAbs = r.natAbs * q.natAbs := by rw [← Int.natAbs_mul, ← Int.natAbs_mul, e]
  have d1 : q.natAbs ∣ t.natAbs := by
    have : q.natAbs ∣ p.natAbs * t.natAbs := ⟨r.natAbs, by rw [e', Nat.mul_comm]⟩
    exact Nat.Coprime.dvd_of_dvd_mul_left (by rw [Nat.coprime_comm]; exact h.co) this
  have d2 : t.natAbs ∣ q.natAbs := by
    have : t.natAbs ∣ r.natAbs * q.natAbs := ⟨p.natAbs, by rw [← e', Nat.mul_comm]⟩
    exact Nat.Coprime.dvd_of_dvd_mul_left (by rw [Nat.coprime_comm]; exact k.co) this
  have hqt : q = t := by
    have := Nat.dvd_antisymm d1 d2
    have := h.qp
    have := k.qp
    omega
  subst hqt
  exact ⟨Int.eq_of_mul_eq_mul_right (by have := h.qp; omega) e, rfl⟩
end PB

set_option Elab.async false
set_option linter.all false
set_option maxRecDepth 10000
set_option exponentiation.threshold 2000
namespace PB
/-! ### three numbers; the law's own comparison of what is found with what is due -/
def v3 (x y z : Int) : D := .tup [.int x, .int y, .int z]
def wholeM : MS LS := (mRet (mAndV (mOp1 (oIs .int) (mVar 0)) (mNotV (mOp1 (oIs .bool) (mVar 0)))))
def wholeF : MF LS := mDef 1 1 wholeM
def sameM (F : MF LS) : MS LS := (mSeq (mIfS (mTest (mOp1 (oIs .tuple) (mVar 1))) (mSeq (mIfS (mOr (mNot (mTest (mOp1 (oIs .tuple) (mVar 0)))) (mTest (mOp2 oNe (mOpN oLen (mCons (mVar 0) mNil)) (mOpN oLen (mCons (mVar 1) mNil))))) (mRet (mC (.bl false))) mPass)
    (mRet (mOpN oAll (mCons (mLc (mZip2 (mVar 0) (mVar 1)) (tgT [2, 3]) mYes (mCall F (mCons (mVar 2) (mCons (mVar 3) mNil))) [2, 3]) mNil)))) mPass)
    (mSeq (mIfS (mTest (mOp1 oIsN (mVar 1))) (mRet (mOp1 oIsN (mVar 0))) mPass)
    (mSeq (mIfS (mTest (mOp1 (oIs .bool) (mVar 1))) (mRet (mAndV (mOp1 (oIs .bool) (mVar 0)) (mOp2 oEq (mVar 0) (mVar 1)))) mPass)
    (mSeq (mIfS (mTest (mOp1 (oIs .int) (mVar 1))) (mRet (mAndV (mCall wholeF (mCons (mVar 0) mNil)) (mOp2 oEq (mVar 0) (mVar 1)))) mPass)
    (mRet (mAndV (mOp1 (oIs .str) (mVar 0)) (mOp2 oEq (mVar 0) (mVar 1))))))))
def sameF : Nat → MF LS
  | 0 => fun _ _ => .no
  | n + 1 => mDef 4 2 (sameM (sameF n))
mutual
/-- numbers, texts, truths, None, and tuples of such, not deeper than n -/
def plainN : Nat → D → Bool
  | _, .non => true
  | _, .bl _ => true
  | _, .int _ => true
  | _, .str _ => true
  | n + 1, .tup ds => plainL n ds && decide (ds.length ≤ SZ)
  | _, _ => false
def plainL : Nat → List D → Bool
  | _, [] => true
  | n, d :: ds => plainN n d && plainL n ds
end
theorem plainL_mem {n : Nat} {ds : List D} (h : plainL n ds = true) : ∀ d ∈ ds, plainN n d = true := by
  induction ds with
  | nil => intro d hd; cases hd
  | cons x xs ih =>
    unfold plainL at h
    rw [Bool.and_eq_true] at h
    intro d hd
    rcases List.mem_cons.mp hd with rfl | hd
    · exact h.1
    · exact ih h.2 d hd
theorem zipD_mem {ds : List D} : ∀ d ∈ zipD ds ds, ∃ x ∈ ds, d = .tup [x, x] := by
  induction ds with
  | nil => intro d hd; cases hd
  | cons x xs ih =>
    intro d hd
    rcases List.mem_cons.mp hd with rfl | hd
    · exact ⟨x, by simp, rfl⟩
    · obtain ⟨y, hy, e⟩ := ih d hd
      exact ⟨y, by simp [hy], e⟩
theorem zipD_len {ds es : List D} : (zipD ds es).length ≤ ds.length := by
  induction ds generalizing es with
  | nil => simp [zipD]
  | cons x xs ih =>
    cases es with
    | nil => simp [zipD]
    | cons y ys =>
      have := ih (es := ys)
      simp only [zipD, List.length_cons]
      omega
theorem S_whole {i : Int} {s : LS} {Q : Rv → LS → Prop} (q : Q (.dat (.bl true)) s) : Sat (wholeF [.int i] s) Q := q
/-- what is due is found -/
theorem S_same {n : Nat} {s : LS} : ∀ {d : D} {Q : Rv → LS → Prop}, plainN n d = true → Q (.dat (.bl true)) s → Sat (sameF (n + 1) [d, d] s) Q := by
  induction n with
  | zero =>
    intro d Q h q
    cases d with
    | tup ds => cases h
    | lst ds => cases h
    | ref a => cases h
    | non => exact q
    | bl b =>
      cases b <;> exact q
    | int i =>
      unfold sameF
      rw [S_def (k := 2) (ds := [.int i, .int i]) rfl]
      show Sat (sameM (sameF 0) [.dat (.int i), .dat (.int i), .un, .un] s) _
      unfold sameM
      simp only [S_var, S_C, S_op1, k1_, S_op2, k2_, k2b_, S_nil, S_cons, kc_, kcb_, S_opN, kN_, S_tup, S_lst, kT_u, kL_u, stoL_nil, stoL_dat, stoL_own, consO_some, SatO_some, S_call, kCall_u, S_if, S_ifS, kI_true, kI_false, S_andV, S_orV, kAndV_true, kAndV_false, kOrV_true, kOrV_false, S_test, kTest_, S_tru, kTru_, S_and, S_or, S_not, kAnd_true, kAnd_false, kOr_true, kOr_false, kNot_, S_seq, kS_nx, kS_rt, kS_bk, kS_ct, S_pass, S_set, kSet_dat, kSet_own, S_par, kP_, kPb_, S_ret', kR_, S_retN, S_break, S_cont, S_for, kF_, S_forNil, kFb_nx, kFb_ct, kFb_bk, kFb_rt, S_items, kItems_tup, kItems_lst, kItems_own, S_lc, kLc_, S_lcNil, S_yes, kD_rt, kD_nx, Rv.ret, gt, st, kVar_dat, kVar_own, o_add, o_sub, o_eq, o_ne, o_lt, o_le, o_gt, o_ge, o_eqB, o_neB, o_is2, o_isnot2, o_abs, o_ix, o_ixO, o_ixB, o_ixL, o_tupO, o_isBool, map_some', wp, tgN_, List.length_cons, List.length_nil, Nat.reduceAdd, Nat.reduceLeDiff, true_and, decide_true, decide_false, Bool.not_true, Bool.not_false, o_mul_u, o_div_u, o_mod_u, o_pow_u, o_eqS, o_neS, o_intB, o_lenS, o_lenO, o_lenB, o_iaddI, S_s1, kS1_, kS1b_, S_lm, kLm_bor, kLm_own, kLmb_, S_tab, o_ixT, o_ixS, S_put, kPut_, kPutK_, S_zip2, kZip_, kZipb_tup, o_sum, o_sumB, o_tupB, o_tupL, o_lenT, S_range1, kRng_3, S_tgtL, kTgtL_, List.nil_append, List.cons_append, Nat.reduceLT, SZ, forall_const, true_implies, oIs, isTy, oIsN, isNon, dB, Rv.val]
      refine S_whole ?_
      simp only [S_var, S_C, S_op1, k1_, S_op2, k2_, k2b_, S_nil, S_cons, kc_, kcb_, S_opN, kN_, S_tup, S_lst, kT_u, kL_u, stoL_nil, stoL_dat, stoL_own, consO_some, SatO_some, S_call, kCall_u, S_if, S_ifS, kI_true, kI_false, S_andV, S_orV, kAndV_true, kAndV_false, kOrV_true, kOrV_false, S_test, kTest_, S_tru, kTru_, S_and, S_or, S_not, kAnd_true, kAnd_false, kOr_true, kOr_false, kNot_, S_seq, kS_nx, kS_rt, kS_bk, kS_ct, S_pass, S_set, kSet_dat, kSet_own, S_par, kP_, kPb_, S_ret', kR_, S_retN, S_break, S_cont, S_for, kF_, S_forNil, kFb_nx, kFb_ct, kFb_bk, kFb_rt, S_items, kItems_tup, kItems_lst, kItems_own, S_lc, kLc_, S_lcNil, S_yes, kD_rt, kD_nx, Rv.ret, gt, st, kVar_dat, kVar_own, o_add, o_sub, o_eq, o_ne, o_lt, o_le, o_gt, o_ge, o_eqB, o_neB, o_is2, o_isnot2, o_abs, o_ix, o_ixO, o_ixB, o_ixL, o_tupO, o_isBool, map_some', wp, tgN_, List.length_cons, List.length_nil, Nat.reduceAdd, Nat.reduceLeDiff, true_and, decide_true, decide_false, Bool.not_true, Bool.not_false, o_mul_u, o_div_u, o_mod_u, o_pow_u, o_eqS, o_neS, o_intB, o_lenS, o_lenO, o_lenB, o_iaddI, S_s1, kS1_, kS1b_, S_lm, kLm_bor, kLm_own, kLmb_, S_tab, o_ixT, o_ixS, S_put, kPut_, kPutK_, S_zip2, kZip_, kZipb_tup, o_sum, o_sumB, o_tupB, o_tupL, o_lenT, S_range1, kRng_3, S_tgtL, kTgtL_, List.nil_append, List.cons_append, Nat.reduceLT, SZ, forall_const, true_implies]
      exact q
    | str i =>
      unfold sameF
      rw [S_def (k := 2) (ds := [.str i, .str i]) rfl]
      show Sat (sameM (sameF 0) [.dat (.str i), .dat (.str i), .un, .un] s) _
      unfold sameM
      simp only [S_var, S_C, S_op1, k1_, S_op2, k2_, k2b_, S_nil, S_cons, kc_, kcb_, S_opN, kN_, S_tup, S_lst, kT_u, kL_u, stoL_nil, stoL_dat, stoL_own, consO_some, SatO_some, S_call, kCall_u, S_if, S_ifS, kI_true, kI_false, S_andV, S_orV, kAndV_true, kAndV_false, kOrV_true, kOrV_false, S_test, kTest_, S_tru, kTru_, S_and, S_or, S_not, kAnd_true, kAnd_false, kOr_true, kOr_false, kNot_, S_seq, kS_nx, kS_rt, kS_bk, kS_ct, S_pass, S_set, kSet_dat, kSet_own, S_par, kP_, kPb_, S_ret', kR_, S_retN, S_break, S_cont, S_for, kF_, S_forNil, kFb_nx, kFb_ct, kFb_bk, kFb_rt, S_items, kItems_tup, kItems_lst, kItems_own, S_lc, kLc_, S_lcNil, S_yes, kD_rt, kD_nx, Rv.ret, gt, st, kVar_dat, kVar_own, o_add, o_sub, o_eq, o_ne, o_lt, o_le, o_gt, o_ge, o_eqB, o_neB, o_is2, o_isnot2, o_abs, o_ix, o_ixO, o_ixB, o_ixL, o_tupO, o_isBool, map_some', wp, tgN_, List.length_cons, List.length_nil, Nat.reduceAdd, Nat.reduceLeDiff, true_and, decide_true, decide_false, Bool.not_true, Bool.not_false, o_mul_u, o_div_u, o_mod_u, o_pow_u, o_eqS, o_neS, o_intB, o_lenS, o_lenO, o_lenB, o_iaddI, S_s1, kS1_, kS1b_, S_lm, kLm_bor, kLm_own, kLmb_, S_tab, o_ixT, o_ixS, S_put, kPut_, kPutK_, S_zip2, kZip_, kZipb_tup, o_sum, o_sumB, o_tupB, o_tupL, o_lenT, S_range1, kRng_3, S_tgtL, kTgtL_, List.nil_append, List.cons_append, Nat.reduceLT, SZ, forall_const, true_implies, oIs, isTy, oIsN, isNon, dB, Rv.val]
      rw [beq_self_eq_true]
      exact q
  | succ n ih =>
    intro d Q h q
    cases d with
    | lst ds => cases h
    | ref a => cases h
    | non => exact q
    | bl b =>
      cases b <;> exact q
    | int i =>
      unfold sameF
      rw [S_def (k := 2) (ds := [.int i, .int i]) rfl]
      show Sat (sameM (sameF (n + 1)) [.dat (.int i), .dat (.int i), .un, .un] s) _
      unfold sameM
      simp only [S_var, S_C, S_op1, k1_, S_op2, k2_, k2b_, S_nil, S_cons, kc_, kcb_, S_opN, kN_, S_tup, S_lst, kT_u, kL_u, stoL_nil, stoL_dat, stoL_own, consO_some, SatO_some, S_call, kCall_u, S_if, S_ifS, kI_true, kI_false, S_andV, S_orV, kAndV_true, kAndV_false, kOrV_true, kOrV_false, S_test, kTest_, S_tru, kTru_, S_and, S_or, S_not, kAnd_true, kAnd_false, kOr_true, kOr_false, kNot_, S_seq, kS_nx, kS_rt, kS_bk, kS_ct, S_pass, S_set, kSet_dat, kSet_own, S_par, kP_, kPb_, S_ret', kR_, S_retN, S_break, S_cont, S_for, kF_, S_forNil, kFb_nx, kFb_ct, kFb_bk, kFb_rt, S_items, kItems_tup, kItems_lst, kItems_own, S_lc, kLc_, S_lcNil, S_yes, kD_rt, kD_nx, Rv.ret, gt, st, kVar_dat, kVar_own, o_add, o_sub, o_eq, o_ne, o_lt, o_le, o_gt, o_ge, o_eqB, o_neB, o_is2, o_isnot2, o_abs, o_ix, o_ixO, o_ixB, o_ixL, o_tupO, o_isBool, map_some', wp, tgN_, List.length_cons, List.length_nil, Nat.reduceAdd, Nat.reduceLeDiff, true_and, decide_true, decide_false, Bool.not_true, Bool.not_false, o_mul_u, o_div_u, o_mod_u, o_pow_u, o_eqS, o_neS, o_intB, o_lenS, o_lenO, o_lenB, o_iaddI, S_s1, kS1_, kS1b_, S_lm, kLm_bor, kLm_own, kLmb_, S_tab, o_ixT, o_ixS, S_put, kPut_, kPutK_, S_zip2, kZip_, kZipb_tup, o_sum, o_sumB, o_tupB, o_tupL, o_lenT, S_range1, kRng_3, S_tgtL, kTgtL_, List.nil_append, List.cons_append, Nat.reduceLT, SZ, forall_const, true_implies, oIs, isTy, oIsN, isNon, dB, Rv.val]
      refine S_whole ?_
      simp only [S_var, S_C, S_op1, k1_, S_op2, k2_, k2b_, S_nil, S_cons, kc_, kcb_, S_opN, kN_, S_tup, S_lst, kT_u, kL_u, stoL_nil, stoL_dat, stoL_own, consO_some, SatO_some, S_call, kCall_u, S_if, S_ifS, kI_true, kI_false, S_andV, S_orV, kAndV_true, kAndV_false, kOrV_true, kOrV_false, S_test, kTest_, S_tru, kTru_, S_and, S_or, S_not, kAnd_true, kAnd_false, kOr_true, kOr_false, kNot_, S_seq, kS_nx, kS_rt, kS_bk, kS_ct, S_pass, S_set, kSet_dat, kSet_own, S_par, kP_, kPb_, S_ret', kR_, S_retN, S_break, S_cont, S_for, kF_, S_forNil, kFb_nx, kFb_ct, kFb_bk, kFb_rt, S_items, kItems_tup, kItems_lst, kItems_own, S_lc, kLc_, S_lcNil, S_yes, kD_rt, kD_nx, Rv.ret, gt, st, kVar_dat, kVar_own, o_add, o_sub, o_eq, o_ne, o_lt, o_le, o_gt, o_ge, o_eqB, o_neB, o_is2, o_isnot2, o_abs, o_ix, o_ixO, o_ixB, o_ixL, o_tupO, o_isBool, map_some', wp, tgN_, List.length_cons, List.length_nil, Nat.reduceAdd, Nat.reduceLeDiff, true_and, decide_true, decide_false, Bool.not_true, Bool.not_false, o_mul_u, o_div_u, o_mod_u, o_pow_u, o_eqS, o_neS, o_intB, o_lenS, o_lenO, o_lenB, o_iaddI, S_s1, kS1_, kS1b_, S_lm, kLm_bor, kLm_own, kLmb_, S_tab, o_ixT, o_ixS, S_put, kPut_, kPutK_, S_zip2, kZip_, kZipb_tup, o_sum, o_sumB, o_tupB, o_tupL, o_lenT, S_range1, kRng_3, S_tgtL, kTgtL_, List.nil_append, List.cons_append, Nat.reduceLT, SZ, forall_const, true_implies]
      exact q
    | str i =>
      unfold sameF
      rw [S_def (k := 2) (ds := [.str i, .str i]) rfl]
      show Sat (sameM (sameF (n + 1)) [.dat (.str i), .dat (.str i), .un, .un] s) _
      unfold sameM
      simp only [S_var, S_C, S_op1, k1_, S_op2, k2_, k2b_, S_nil, S_cons, kc_, kcb_, S_opN, kN_, S_tup, S_lst, kT_u, kL_u, stoL_nil, stoL_dat, stoL_own, consO_some, SatO_some, S_call, kCall_u, S_if, S_ifS, kI_true, kI_false, S_andV, S_orV, kAndV_true, kAndV_false, kOrV_true, kOrV_false, S_test, kTest_, S_tru, kTru_, S_and, S_or, S_not, kAnd_true, kAnd_false, kOr_true, kOr_false, kNot_, S_seq, kS_nx, kS_rt, kS_bk, kS_ct, S_pass, S_set, kSet_dat, kSet_own, S_par, kP_, kPb_, S_ret', kR_, S_retN, S_break, S_cont, S_for, kF_, S_forNil, kFb_nx, kFb_ct, kFb_bk, kFb_rt, S_items, kItems_tup, kItems_lst, kItems_own, S_lc, kLc_, S_lcNil, S_yes, kD_rt, kD_nx, Rv.ret, gt, st, kVar_dat, kVar_own, o_add, o_sub, o_eq, o_ne, o_lt, o_le, o_gt, o_ge, o_eqB, o_neB, o_is2, o_isnot2, o_abs, o_ix, o_ixO, o_ixB, o_ixL, o_tupO, o_isBool, map_some', wp, tgN_, List.length_cons, List.length_nil, Nat.reduceAdd, Nat.reduceLeDiff, true_and, decide_true, decide_false, Bool.not_true, Bool.not_false, o_mul_u, o_div_u, o_mod_u, o_pow_u, o_eqS, o_neS, o_intB, o_lenS, o_lenO, o_lenB, o_iaddI, S_s1, kS1_, kS1b_, S_lm, kLm_bor, kLm_own, kLmb_, S_tab, o_ixT, o_ixS, S_put, kPut_, kPutK_, S_zip2, kZip_, kZipb_tup, o_sum, o_sumB, o_tupB, o_tupL, o_lenT, S_range1, kRng_3, S_tgtL, kTgtL_, List.nil_append, List.cons_append, Nat.reduceLT, SZ, forall_const, true_implies, oIs, isTy, oIsN, isNon, dB, Rv.val]
      rw [beq_self_eq_true]
      exact q
    | tup ds =>
      unfold plainN at h
      rw [Bool.and_eq_true] at h
      obtain ⟨h1, h2⟩ := h
      have h2 := of_decide_eq_true h2
      rw [sameF]
      rw [S_def (k := 2) (ds := [.tup ds, .tup ds]) rfl]
      show Sat (sameM (sameF (n + 1)) [.dat (.tup ds), .dat (.tup ds), .un, .un] s) _
      unfold sameM
      simp only [S_var, S_C, S_op1, k1_, S_op2, k2_, k2b_, S_nil, S_cons, kc_, kcb_, S_opN, kN_, S_tup, S_lst, kT_u, kL_u, stoL_nil, stoL_dat, stoL_own, consO_some, SatO_some, S_call, kCall_u, S_if, S_ifS, kI_true, kI_false, S_andV, S_orV, kAndV_true, kAndV_false, kOrV_true, kOrV_false, S_test, kTest_, S_tru, kTru_, S_and, S_or, S_not, kAnd_true, kAnd_false, kOr_true, kOr_false, kNot_, S_seq, kS_nx, kS_rt, kS_bk, kS_ct, S_pass, S_set, kSet_dat, kSet_own, S_par, kP_, kPb_, S_ret', kR_, S_retN, S_break, S_cont, S_for, kF_, S_forNil, kFb_nx, kFb_ct, kFb_bk, kFb_rt, S_items, kItems_tup, kItems_lst, kItems_own, S_lc, kLc_, S_lcNil, S_yes, kD_rt, kD_nx, Rv.ret, gt, st, kVar_dat, kVar_own, o_add, o_sub, o_eq, o_ne, o_lt, o_le, o_gt, o_ge, o_eqB, o_neB, o_is2, o_isnot2, o_abs, o_ix, o_ixO, o_ixB, o_ixL, o_tupO, o_isBool, map_some', wp, tgN_, List.length_cons, List.length_nil, Nat.reduceAdd, Nat.reduceLeDiff, true_and, decide_true, decide_false, Bool.not_true, Bool.not_false, o_mul_u, o_div_u, o_mod_u, o_pow_u, o_eqS, o_neS, o_intB, o_lenS, o_lenO, o_lenB, o_iaddI, S_s1, kS1_, kS1b_, S_lm, kLm_bor, kLm_own, kLmb_, S_tab, o_ixT, o_ixS, S_put, kPut_, kPutK_, S_zip2, kZip_, kZipb_tup, o_sum, o_sumB, o_tupB, o_tupL, o_lenT, S_range1, kRng_3, S_tgtL, kTgtL_, List.nil_append, List.cons_append, Nat.reduceLT, SZ, forall_const, true_implies, oIs, isTy, oIsN, isNon, dB, Rv.val]
      refine S_lcAll (Nat.le_trans zipD_len h2) (fun d hd => ?_) (fun m => ?_)
      · obtain ⟨x, hx, rfl⟩ := zipD_mem d hd
        refine ⟨_, rfl, ?_⟩
        simp only [S_var, S_C, S_op1, k1_, S_op2, k2_, k2b_, S_nil, S_cons, kc_, kcb_, S_opN, kN_, S_tup, S_lst, kT_u, kL_u, stoL_nil, stoL_dat, stoL_own, consO_some, SatO_some, S_call, kCall_u, S_if, S_ifS, kI_true, kI_false, S_andV, S_orV, kAndV_true, kAndV_false, kOrV_true, kOrV_false, S_test, kTest_, S_tru, kTru_, S_and, S_or, S_not, kAnd_true, kAnd_false, kOr_true, kOr_false, kNot_, S_seq, kS_nx, kS_rt, kS_bk, kS_ct, S_pass, S_set, kSet_dat, kSet_own, S_par, kP_, kPb_, S_ret', kR_, S_retN, S_break, S_cont, S_for, kF_, S_forNil, kFb_nx, kFb_ct, kFb_bk, kFb_rt, S_items, kItems_tup, kItems_lst, kItems_own, S_lc, kLc_, S_lcNil, S_yes, kD_rt, kD_nx, Rv.ret, gt, st, kVar_dat, kVar_own, o_add, o_sub, o_eq, o_ne, o_lt, o_le, o_gt, o_ge, o_eqB, o_neB, o_is2, o_isnot2, o_abs, o_ix, o_ixO, o_ixB, o_ixL, o_tupO, o_isBool, map_some', wp, tgN_, List.length_cons, List.length_nil, Nat.reduceAdd, Nat.reduceLeDiff, true_and, decide_true, decide_false, Bool.not_true, Bool.not_false, o_mul_u, o_div_u, o_mod_u, o_pow_u, o_eqS, o_neS, o_intB, o_lenS, o_lenO, o_lenB, o_iaddI, S_s1, kS1_, kS1b_, S_lm, kLm_bor, kLm_own, kLmb_, S_tab, o_ixT, o_ixS, S_put, kPut_, kPutK_, S_zip2, kZip_, kZipb_tup, o_sum, o_sumB, o_tupB, o_tupL, o_lenT, S_range1, kRng_3, S_tgtL, kTgtL_, List.nil_append, List.cons_append, Nat.reduceLT, SZ, forall_const, true_implies]
        exact ih (plainL_mem h1 x hx) ⟨rfl, rfl⟩
      · simp only [S_var, S_C, S_op1, k1_, S_op2, k2_, k2b_, S_nil, S_cons, kc_, kcb_, S_opN, kN_, S_tup, S_lst, kT_u, kL_u, stoL_nil, stoL_dat, stoL_own, consO_some, SatO_some, S_call, kCall_u, S_if, S_ifS, kI_true, kI_false, S_andV, S_orV, kAndV_true, kAndV_false, kOrV_true, kOrV_false, S_test, kTest_, S_tru, kTru_, S_and, S_or, S_not, kAnd_true, kAnd_false, kOr_true, kOr_false, kNot_, S_seq, kS_nx, kS_rt, kS_bk, kS_ct, S_pass, S_set, kSet_dat, kSet_own, S_par, kP_, kPb_, S_ret', kR_, S_retN, S_break, S_cont, S_for, kF_, S_forNil, kFb_nx, kFb_ct, kFb_bk, kFb_rt, S_items, kItems_tup, kItems_lst, kItems_own, S_lc, kLc_, S_lcNil, S_yes, kD_rt, kD_nx, Rv.ret, gt, st, kVar_dat, kVar_own, o_add, o_sub, o_eq, o_ne, o_lt, o_le, o_gt, o_ge, o_eqB, o_neB, o_is2, o_isnot2, o_abs, o_ix, o_ixO, o_ixB, o_ixL, o_tupO, o_isBool, map_some', wp, tgN_, List.length_cons, List.length_nil, Nat.reduceAdd, Nat.reduceLeDiff, true_and, decide_true, decide_false, Bool.not_true, Bool.not_false, o_mul_u, o_div_u, o_mod_u, o_pow_u, o_eqS, o_neS, o_intB, o_lenS, o_lenO, o_lenB, o_iaddI, S_s1, kS1_, kS1b_, S_lm, kLm_bor, kLm_own, kLmb_, S_tab, o_ixT, o_ixS, S_put, kPut_, kPutK_, S_zip2, kZip_, kZipb_tup, o_sum, o_sumB, o_tupB, o_tupL, o_lenT, S_range1, kRng_3, S_tgtL, kTgtL_, List.nil_append, List.cons_append, Nat.reduceLT, SZ, forall_const, true_implies, o_all_rep]
        exact q
theorem S_sameI {n : Nat} {i j : Int} {s : LS} {Q : Rv → LS → Prop} (e : i = j) (q : Q (.dat (.bl true)) s) : Sat (sameF (n + 1) [.int i, .int j] s) Q := by
  subst e
  exact S_same (by cases n <;> rfl) q
theorem plain_v3 {n : Nat} {x y z : Int} : plainN (n + 1) (v3 x y z) = true := by
  unfold v3
  cases n <;> rfl
theorem S_same3 {n : Nat} {x y z x' y' z' : Int} {s : LS} {Q : Rv → LS → Prop} (e1 : x = x') (e2 : y = y') (e3 : z = z') (q : Q (.dat (.bl true)) s) : Sat (sameF (n + 2) [v3 x y z, v3 x' y' z'] s) Q := by
  subst e1 e2 e3
  exact S_same plain_v3 q
end PB

set_option Elab.async false
set_option linter.all false
set_option maxRecDepth 10000
set_option exponentiation.threshold 2000
namespace PB
/-! ### steps of a script -/
inductive Mv where
  | keep (c : Nat) | oth (c e : Nat) | out (c : Nat) | inn (c : Nat)
abbrev wKeep : List Nat := [107, 101, 101, 112]
abbrev wOther : List Nat := [111, 116, 104, 101, 114]
abbrev wOut : List Nat := [111, 117, 116]
abbrev wIn : List Nat := [105, 110]
def Mv.word : Mv → List Nat
  | .keep _ => wKeep
  | .oth _ _ => wOther
  | .out _ => wOut
  | .inn _ => wIn
def Mv.d : Mv → D
  | .keep c => .tup [.str wKeep, .str [c]]
  | .oth c e => .tup [.str wOther, .str [c], .str [e]]
  | .out c => .tup [.str wOut, .str [c]]
  | .inn c => .tup [.str wIn, .str [c]]
def Mv.taken : Mv → List Nat
  | .keep c => [c]
  | .oth c _ => [c]
  | .out c => [c]
  | .inn _ => []
def Mv.made : Mv → List Nat
  | .keep c => [c]
  | .oth _ e => [e]
  | .out _ => []
  | .inn c => [c]
def Mv.move : Mv → Int
  | .keep _ => 0
  | .oth _ _ => 0
  | .out _ => 1
  | .inn _ => 2
def Mv.isO : Mv → Bool
  | .oth _ _ => true
  | _ => false
def script (ls : List Mv) : D := .tup (ls.map Mv.d)
theorem taken_le (ls : List Mv) : (ls.map fun x => x.taken.length).sum ≤ ls.length := by
  induction ls with
  | nil => simp
  | cons x xs ih =>
    have : x.taken.length ≤ 1 := by cases x <;> simp [Mv.taken]
    simp only [List.map_cons, List.sum_cons, List.length_cons]
    omega
theorem made_le (ls : List Mv) : (ls.map fun x => x.made.length).sum ≤ ls.length := by
  induction ls with
  | nil => simp
  | cons x xs ih =>
    have : x.made.length ≤ 1 := by cases x <;> simp [Mv.made]
    simp only [List.map_cons, List.sum_cons, List.length_cons]
    omega
theorem flat_len {α : Type} (f : α → List Nat) (ls : List α) : (ls.flatMap f).length = (ls.map fun x => (f x).length).sum := by
  induction ls with
  | nil => rfl
  | cons x xs ih => rw [List.flatMap_cons, List.length_append, ih, List.map_cons, List.sum_cons]
/-! stretches: how many of the first n places begin one -/
def begins (ls : List Mv) (n : Nat) : Int := match ls[n]? with
  | some x => if 0 < x.move ∧ (n = 0 ∨ (ls[n - 1]?.map Mv.move) ≠ some x.move) then 1 else 0
  | none => 0
def stretches (ls : List Mv) : Nat → Int
  | 0 => 0
  | n + 1 => stretches ls n + begins ls n
def nO (ls : List Mv) : Int := (ls.countP Mv.isO : Nat)
def nM (ls : List Mv) : Int := (ls.countP (fun x => decide (0 < x.move)) : Nat)
def takenM : MS LS := (mSeq (mIfS (mTest (mOp2 oEq (mOp2 oIx (mVar 0) (mC (.int 0))) (mC (.str [105, 110])))) (mRet (mC (.str []))) mPass)
    (mRet (mOp2 oIx (mVar 0) (mC (.int 1)))))
def takenF : MF LS := mDef 1 1 takenM
def madeM : MS LS := (mSeq (mIfS (mTest (mOp2 oEq (mOp2 oIx (mVar 0) (mC (.int 0))) (mC (.str [111, 117, 116])))) (mRet (mC (.str []))) mPass)
    (mRet (mOp2 oIx (mVar 0) (mOp1 oNeg (mC (.int 1))))))
def madeF : MF LS := mDef 1 1 madeM
theorem S_taken {x : Mv} {s : LS} {Q : Rv → LS → Prop} (q : Q (.dat (.str x.taken)) s) : Sat (takenF [x.d] s) Q := by
  cases x <;> exact q
theorem S_made {x : Mv} {s : LS} {Q : Rv → LS → Prop} (q : Q (.dat (.str x.made)) s) : Sat (madeF [x.d] s) Q := by
  cases x <;> exact q
def endsM : MS LS := (mRet (mTup (mCons (mS1 oJoin (mC (.str [])) (mLc (mItems (mVar 0)) (tgN 1) mYes (mCall takenF (mCons (mVar 1) mNil)) [1])) (mCons (mS1 oJoin (mC (.str [])) (mLc (mItems (mVar 0)) (tgN 1) mYes (mCall madeF (mCons (mVar 1) mNil)) [1])) mNil))))
def endsF : MF LS := mDef 2 1 endsM
theorem S_ends {ls : List Mv} {s : LS} {Q : Rv → LS → Prop} (hl : ls.length ≤ 10000) (q : Q (.dat (.tup [.str (ls.flatMap Mv.taken), .str (ls.flatMap Mv.made)])) s) : Sat (endsF [script ls] s) Q := by
  have hz : ls.length ≤ SZ := Nat.le_trans hl (by decide)
  unfold endsF
  rw [S_def (k := 1) (ds := [script ls]) rfl]
  show Sat (endsM [.dat (.tup (ls.map Mv.d)), .un] s) _
  unfold endsM
  simp only [S_var, S_C, S_op1, k1_, S_op2, k2_, k2b_, S_nil, S_cons, kc_, kcb_, S_opN, kN_, S_tup, S_lst, kT_u, kL_u, stoL_nil, stoL_dat, stoL_own, consO_some, SatO_some, S_call, kCall_u, S_if, S_ifS, kI_true, kI_false, S_andV, S_orV, kAndV_true, kAndV_false, kOrV_true, kOrV_false, S_test, kTest_, S_tru, kTru_, S_and, S_or, S_not, kAnd_true, kAnd_false, kOr_true, kOr_false, kNot_, S_seq, kS_nx, kS_rt, kS_bk, kS_ct, S_pass, S_set, kSet_dat, kSet_own, S_par, kP_, kPb_, S_ret', kR_, S_retN, S_break, S_cont, S_for, kF_, S_forNil, kFb_nx, kFb_ct, kFb_bk, kFb_rt, S_items, kItems_tup, kItems_lst, kItems_own, S_lc, kLc_, S_lcNil, S_yes, kD_rt, kD_nx, Rv.ret, gt, st, kVar_dat, kVar_own, o_add, o_sub, o_eq, o_ne, o_lt, o_le, o_gt, o_ge, o_eqB, o_neB, o_is2, o_isnot2, o_abs, o_ix, o_ixO, o_ixB, o_ixL, o_tupO, o_isBool, map_some', wp, tgN_, List.length_cons, List.length_nil, Nat.reduceAdd, Nat.reduceLeDiff, true_and, decide_true, decide_false, Bool.not_true, Bool.not_false, o_mul_u, o_div_u, o_mod_u, o_pow_u, o_eqS, o_neS, o_intB, o_lenS, o_lenO, o_lenB, o_iaddI, S_s1, kS1_, kS1b_, S_lm, kLm_bor, kLm_own, kLmb_, S_tab, o_ixT, o_ixS, S_put, kPut_, kPutK_, S_zip2, kZip_, kZipb_tup, o_sum, o_sumB, o_tupB, o_tupL, o_lenT, S_range1, kRng_3, S_tgtL, kTgtL_, List.nil_append, List.cons_append, Nat.reduceLT, SZ, forall_const, true_implies]
  refine S_lcA ls Mv.d (fun x => .str x.taken) hz (fun x _ => ⟨_, rfl, ?_⟩) ?_
  · simp only [S_var, S_C, S_op1, k1_, S_op2, k2_, k2b_, S_nil, S_cons, kc_, kcb_, S_opN, kN_, S_tup, S_lst, kT_u, kL_u, stoL_nil, stoL_dat, stoL_own, consO_some, SatO_some, S_call, kCall_u, S_if, S_ifS, kI_true, kI_false, S_andV, S_orV, kAndV_true, kAndV_false, kOrV_true, kOrV_false, S_test, kTest_, S_tru, kTru_, S_and, S_or, S_not, kAnd_true, kAnd_false, kOr_true, kOr_false, kNot_, S_seq, kS_nx, kS_rt, kS_bk, kS_ct, S_pass, S_set, kSet_dat, kSet_own, S_par, kP_, kPb_, S_ret', kR_, S_retN, S_break, S_cont, S_for, kF_, S_forNil, kFb_nx, kFb_ct, kFb_bk, kFb_rt, S_items, kItems_tup, kItems_lst, kItems_own, S_lc, kLc_, S_lcNil, S_yes, kD_rt, kD_nx, Rv.ret, gt, st, kVar_dat, kVar_own, o_add, o_sub, o_eq, o_ne, o_lt, o_le, o_gt, o_ge, o_eqB, o_neB, o_is2, o_isnot2, o_abs, o_ix, o_ixO, o_ixB, o_ixL, o_tupO, o_isBool, map_some', wp, tgN_, List.length_cons, List.length_nil, Nat.reduceAdd, Nat.reduceLeDiff, true_and, decide_true, decide_false, Bool.not_true, Bool.not_false, o_mul_u, o_div_u, o_mod_u, o_pow_u, o_eqS, o_neS, o_intB, o_lenS, o_lenO, o_lenB, o_iaddI, S_s1, kS1_, kS1b_, S_lm, kLm_bor, kLm_own, kLmb_, S_tab, o_ixT, o_ixS, S_put, kPut_, kPutK_, S_zip2, kZip_, kZipb_tup, o_sum, o_sumB, o_tupB, o_tupL, o_lenT, S_range1, kRng_3, S_tgtL, kTgtL_, List.nil_append, List.cons_append, Nat.reduceLT, SZ, forall_const, true_implies]
    exact S_taken ⟨rfl, rfl⟩
  · rw [kS1b_, o_join Mv.taken ls (Nat.le_trans (taken_le ls) hz)]
    simp only [S_var, S_C, S_op1, k1_, S_op2, k2_, k2b_, S_nil, S_cons, kc_, kcb_, S_opN, kN_, S_tup, S_lst, kT_u, kL_u, stoL_nil, stoL_dat, stoL_own, consO_some, SatO_some, S_call, kCall_u, S_if, S_ifS, kI_true, kI_false, S_andV, S_orV, kAndV_true, kAndV_false, kOrV_true, kOrV_false, S_test, kTest_, S_tru, kTru_, S_and, S_or, S_not, kAnd_true, kAnd_false, kOr_true, kOr_false, kNot_, S_seq, kS_nx, kS_rt, kS_bk, kS_ct, S_pass, S_set, kSet_dat, kSet_own, S_par, kP_, kPb_, S_ret', kR_, S_retN, S_break, S_cont, S_for, kF_, S_forNil, kFb_nx, kFb_ct, kFb_bk, kFb_rt, S_items, kItems_tup, kItems_lst, kItems_own, S_lc, kLc_, S_lcNil, S_yes, kD_rt, kD_nx, Rv.ret, gt, st, kVar_dat, kVar_own, o_add, o_sub, o_eq, o_ne, o_lt, o_le, o_gt, o_ge, o_eqB, o_neB, o_is2, o_isnot2, o_abs, o_ix, o_ixO, o_ixB, o_ixL, o_tupO, o_isBool, map_some', wp, tgN_, List.length_cons, List.length_nil, Nat.reduceAdd, Nat.reduceLeDiff, true_and, decide_true, decide_false, Bool.not_true, Bool.not_false, o_mul_u, o_div_u, o_mod_u, o_pow_u, o_eqS, o_neS, o_intB, o_lenS, o_lenO, o_lenB, o_iaddI, S_s1, kS1_, kS1b_, S_lm, kLm_bor, kLm_own, kLmb_, S_tab, o_ixT, o_ixS, S_put, kPut_, kPutK_, S_zip2, kZip_, kZipb_tup, o_sum, o_sumB, o_tupB, o_tupL, o_lenT, S_range1, kRng_3, S_tgtL, kTgtL_, List.nil_append, List.cons_append, Nat.reduceLT, SZ, forall_const, true_implies]
    refine S_lcA ls Mv.d (fun x => .str x.made) hz (fun x _ => ⟨_, rfl, ?_⟩) ?_
    · simp only [S_var, S_C, S_op1, k1_, S_op2, k2_, k2b_, S_nil, S_cons, kc_, kcb_, S_opN, kN_, S_tup, S_lst, kT_u, kL_u, stoL_nil, stoL_dat, stoL_own, consO_some, SatO_some, S_call, kCall_u, S_if, S_ifS, kI_true, kI_false, S_andV, S_orV, kAndV_true, kAndV_false, kOrV_true, kOrV_false, S_test, kTest_, S_tru, kTru_, S_and, S_or, S_not, kAnd_true, kAnd_false, kOr_true, kOr_false, kNot_, S_seq, kS_nx, kS_rt, kS_bk, kS_ct, S_pass, S_set, kSet_dat, kSet_own, S_par, kP_, kPb_, S_ret', kR_, S_retN, S_break, S_cont, S_for, kF_, S_forNil, kFb_nx, kFb_ct, kFb_bk, kFb_rt, S_items, kItems_tup, kItems_lst, kItems_own, S_lc, kLc_, S_lcNil, S_yes, kD_rt, kD_nx, Rv.ret, gt, st, kVar_dat, kVar_own, o_add, o_sub, o_eq, o_ne, o_lt, o_le, o_gt, o_ge, o_eqB, o_neB, o_is2, o_isnot2, o_abs, o_ix, o_ixO, o_ixB, o_ixL, o_tupO, o_isBool, map_some', wp, tgN_, List.length_cons, List.length_nil, Nat.reduceAdd, Nat.reduceLeDiff, true_and, decide_true, decide_false, Bool.not_true, Bool.not_false, o_mul_u, o_div_u, o_mod_u, o_pow_u, o_eqS, o_neS, o_intB, o_lenS, o_lenO, o_lenB, o_iaddI, S_s1, kS1_, kS1b_, S_lm, kLm_bor, kLm_own, kLmb_, S_tab, o_ixT, o_ixS, S_put, kPut_, kPutK_, S_zip2, kZip_, kZipb_tup, o_sum, o_sumB, o_tupB, o_tupL, o_lenT, S_range1, kRng_3, S_tgtL, kTgtL_, List.nil_append, List.cons_append, Nat.reduceLT, SZ, forall_const, true_implies]
      exact S_made ⟨rfl, rfl⟩
    · rw [kS1b_, o_join Mv.made ls (Nat.le_trans (made_le ls) hz)]
      simp only [S_var, S_C, S_op1, k1_, S_op2, k2_, k2b_, S_nil, S_cons, kc_, kcb_, S_opN, kN_, S_tup, S_lst, kT_u, kL_u, stoL_nil, stoL_dat, stoL_own, consO_some, SatO_some, S_call, kCall_u, S_if, S_ifS, kI_true, kI_false, S_andV, S_orV, kAndV_true, kAndV_false, kOrV_true, kOrV_false, S_test, kTest_, S_tru, kTru_, S_and, S_or, S_not, kAnd_true, kAnd_false, kOr_true, kOr_false, kNot_, S_seq, kS_nx, kS_rt, kS_bk, kS_ct, S_pass, S_set, kSet_dat, kSet_own, S_par, kP_, kPb_, S_ret', kR_, S_retN, S_break, S_cont, S_for, kF_, S_forNil, kFb_nx, kFb_ct, kFb_bk, kFb_rt, S_items, kItems_tup, kItems_lst, kItems_own, S_lc, kLc_, S_lcNil, S_yes, kD_rt, kD_nx, Rv.ret, gt, st, kVar_dat, kVar_own, o_add, o_sub, o_eq, o_ne, o_lt, o_le, o_gt, o_ge, o_eqB, o_neB, o_is2, o_isnot2, o_abs, o_ix, o_ixO, o_ixB, o_ixL, o_tupO, o_isBool, map_some', wp, tgN_, List.length_cons, List.length_nil, Nat.reduceAdd, Nat.reduceLeDiff, true_and, decide_true, decide_false, Bool.not_true, Bool.not_false, o_mul_u, o_div_u, o_mod_u, o_pow_u, o_eqS, o_neS, o_intB, o_lenS, o_lenO, o_lenB, o_iaddI, S_s1, kS1_, kS1b_, S_lm, kLm_bor, kLm_own, kLmb_, S_tab, o_ixT, o_ixS, S_put, kPut_, kPutK_, S_zip2, kZip_, kZipb_tup, o_sum, o_sumB, o_tupB, o_tupL, o_lenT, S_range1, kRng_3, S_tgtL, kTgtL_, List.nil_append, List.cons_append, Nat.reduceLT, SZ, forall_const, true_implies]
      exact q
end PB

set_option Elab.async false
set_option linter.all false
set_option maxRecDepth 10000
set_option exponentiation.threshold 2000
namespace PB
theorem a20 (x y : D) : atI [x, y] 0 = some x := rfl
theorem a21 (x y : D) : atI [x, y] 1 = some y := rfl
theorem a30 (x y z : D) : atI [x, y, z] 0 = some x := rfl
theorem a31 (x y z : D) : atI [x, y, z] 1 = some y := rfl
theorem a32 (x y z : D) : atI [x, y, z] 2 = some z := rfl
theorem a2l (x y : D) : atI [x, y] (((2 : Nat) : Int) - 1) = some y := rfl
theorem a3l (x y z : D) : atI [x, y, z] (((3 : Nat) : Int) - 1) = some z := rfl
def ownEndsM : MS LS := (mSeq (mSet 1 (mC (.str [])))
    (mSeq (mSet 2 (mC (.str [])))
    (mSeq (mFor (mItems (mVar 0)) (tgN 3) (mSeq (mIfS (mTest (mOp2 oNe (mOp2 oIx (mVar 3) (mC (.int 0))) (mC (.str [105, 110])))) (mSet 1 (mOp2 oAdd (mVar 1) (mOp2 oIx (mVar 3) (mC (.int 1))))) mPass)
    (mIfS (mTest (mOp2 oNe (mOp2 oIx (mVar 3) (mC (.int 0))) (mC (.str [111, 117, 116])))) (mSet 2 (mOp2 oAdd (mVar 2) (mOp2 oIx (mVar 3) (mOp2 oSub (mOpN oLen (mCons (mVar 3) mNil)) (mC (.int 1)))))) mPass)))
    (mRet (mTup (mCons (mVar 1) (mCons (mVar 2) mNil)))))))
def ownEndsF : MF LS := mDef 4 1 ownEndsM
theorem addLen {ls pre post : List Mv} {x : Mv} (f : Mv → List Nat) (hf : ∀ x, (f x).length ≤ 1) (h : ls = pre ++ x :: post) (hl : ls.length ≤ 10000) : (pre.flatMap f).length + 1 ≤ SZ := by
  have h1 : (pre.flatMap f).length ≤ pre.length := by
    rw [flat_len]
    clear h
    induction pre with
    | nil => simp
    | cons y ys ih =>
      have := hf y
      simp only [List.map_cons, List.sum_cons, List.length_cons]
      omega
  have h2 := congrArg List.length h
  rw [List.length_append, List.length_cons] at h2
  show _ ≤ 16777216
  omega
theorem S_ownEnds {ls : List Mv} {s : LS} {Q : Rv → LS → Prop} (hl : ls.length ≤ 10000) (q : Q (.dat (.tup [.str (ls.flatMap Mv.taken), .str (ls.flatMap Mv.made)])) s) : Sat (ownEndsF [script ls] s) Q := by
  unfold ownEndsF
  rw [S_def (k := 1) (ds := [script ls]) rfl]
  show Sat (ownEndsM [.dat (.tup (ls.map Mv.d)), .un, .un, .un] s) _
  unfold ownEndsM
  simp only [S_var, S_C, S_op1, k1_, S_op2, k2_, k2b_, S_nil, S_cons, kc_, kcb_, S_opN, kN_, S_tup, S_lst, kT_u, kL_u, stoL_nil, stoL_dat, stoL_own, consO_some, SatO_some, S_call, kCall_u, S_if, S_ifS, kI_true, kI_false, S_andV, S_orV, kAndV_true, kAndV_false, kOrV_true, kOrV_false, S_test, kTest_, S_tru, kTru_, S_and, S_or, S_not, kAnd_true, kAnd_false, kOr_true, kOr_false, kNot_, S_seq, kS_nx, kS_rt, kS_bk, kS_ct, S_pass, S_set, kSet_dat, kSet_own, S_par, kP_, kPb_, S_ret', kR_, S_retN, S_break, S_cont, S_for, kF_, S_forNil, kFb_nx, kFb_ct, kFb_bk, kFb_rt, S_items, kItems_tup, kItems_lst, kItems_own, S_lc, kLc_, S_lcNil, S_yes, kD_rt, kD_nx, Rv.ret, gt, st, kVar_dat, kVar_own, o_add, o_sub, o_eq, o_ne, o_lt, o_le, o_gt, o_ge, o_eqB, o_neB, o_is2, o_isnot2, o_abs, o_ix, o_ixO, o_ixB, o_ixL, o_tupO, o_isBool, map_some', wp, tgN_, List.length_cons, List.length_nil, Nat.reduceAdd, Nat.reduceLeDiff, true_and, decide_true, decide_false, Bool.not_true, Bool.not_false, o_mul_u, o_div_u, o_mod_u, o_pow_u, o_eqS, o_neS, o_intB, o_lenS, o_lenO, o_lenB, o_iaddI, S_s1, kS1_, kS1b_, S_lm, kLm_bor, kLm_own, kLmb_, S_tab, o_ixT, o_ixS, S_put, kPut_, kPutK_, S_zip2, kZip_, kZipb_tup, o_sum, o_sumB, o_tupB, o_tupL, o_lenT, S_range1, kRng_3, S_tgtL, kTgtL_, List.nil_append, List.cons_append, Nat.reduceLT, SZ, forall_const, true_implies]
  refine S_forA ls Mv.d (fun pre _ e g => ∃ x3, e = [.dat (.tup (ls.map Mv.d)), .dat (.str (pre.flatMap Mv.taken)), .dat (.str (pre.flatMap Mv.made)), x3] ∧ g = s) ⟨_, rfl, rfl⟩ ?_ ?_
  · rintro pre x post e g hls ⟨x3, rfl, rfl⟩
    refine ⟨_, rfl, ?_⟩
    have t1 := addLen Mv.taken (fun x => by cases x <;> simp [Mv.taken]) hls hl
    have t2 := addLen Mv.made (fun x => by cases x <;> simp [Mv.made]) hls hl
    have m1 : ∀ c, oAdd (.dat (.str (pre.flatMap Mv.taken))) (.dat (.str [c])) = some (.dat (.str (pre.flatMap Mv.taken ++ [c]))) := fun c => o_addS t1
    have m2 : ∀ c, oAdd (.dat (.str (pre.flatMap Mv.made))) (.dat (.str [c])) = some (.dat (.str (pre.flatMap Mv.made ++ [c]))) := fun c => o_addS t2
    have f1 : (pre ++ [x]).flatMap Mv.taken = pre.flatMap Mv.taken ++ x.taken := by simp
    have f2 : (pre ++ [x]).flatMap Mv.made = pre.flatMap Mv.made ++ x.made := by simp
    rw [f1, f2]
    generalize pre.flatMap Mv.taken = A at *
    generalize pre.flatMap Mv.made = B at *
    cases x <;> simp only [S_var, S_C, S_op1, k1_, S_op2, k2_, k2b_, S_nil, S_cons, kc_, kcb_, S_opN, kN_, S_tup, S_lst, kT_u, kL_u, stoL_nil, stoL_dat, stoL_own, consO_some, SatO_some, S_call, kCall_u, S_if, S_ifS, kI_true, kI_false, S_andV, S_orV, kAndV_true, kAndV_false, kOrV_true, kOrV_false, S_test, kTest_, S_tru, kTru_, S_and, S_or, S_not, kAnd_true, kAnd_false, kOr_true, kOr_false, kNot_, S_seq, kS_nx, kS_rt, kS_bk, kS_ct, S_pass, S_set, kSet_dat, kSet_own, S_par, kP_, kPb_, S_ret', kR_, S_retN, S_break, S_cont, S_for, kF_, S_forNil, kFb_nx, kFb_ct, kFb_bk, kFb_rt, S_items, kItems_tup, kItems_lst, kItems_own, S_lc, kLc_, S_lcNil, S_yes, kD_rt, kD_nx, Rv.ret, gt, st, kVar_dat, kVar_own, o_add, o_sub, o_eq, o_ne, o_lt, o_le, o_gt, o_ge, o_eqB, o_neB, o_is2, o_isnot2, o_abs, o_ix, o_ixO, o_ixB, o_ixL, o_tupO, o_isBool, map_some', wp, tgN_, List.length_cons, List.length_nil, Nat.reduceAdd, Nat.reduceLeDiff, true_and, decide_true, decide_false, Bool.not_true, Bool.not_false, o_mul_u, o_div_u, o_mod_u, o_pow_u, o_eqS, o_neS, o_intB, o_lenS, o_lenO, o_lenB, o_iaddI, S_s1, kS1_, kS1b_, S_lm, kLm_bor, kLm_own, kLmb_, S_tab, o_ixT, o_ixS, S_put, kPut_, kPutK_, S_zip2, kZip_, kZipb_tup, o_sum, o_sumB, o_tupB, o_tupL, o_lenT, S_range1, kRng_3, S_tgtL, kTgtL_, List.nil_append, List.cons_append, Nat.reduceLT, SZ, forall_const, true_implies, Mv.d, a20, a21, a30, a31, a32, a2l, a3l, List.cons_beq_cons, Nat.reduceBEq, Bool.false_and, Bool.true_and, Bool.and_false, Bool.and_true, List.nil_beq_eq, List.isEmpty_nil, m1, m2, Mv.taken, Mv.made, List.append_nil] <;> exact ⟨_, rfl, trivial⟩
  · rintro e g ⟨x3, rfl, rfl⟩
    simp only [S_var, S_C, S_op1, k1_, S_op2, k2_, k2b_, S_nil, S_cons, kc_, kcb_, S_opN, kN_, S_tup, S_lst, kT_u, kL_u, stoL_nil, stoL_dat, stoL_own, consO_some, SatO_some, S_call, kCall_u, S_if, S_ifS, kI_true, kI_false, S_andV, S_orV, kAndV_true, kAndV_false, kOrV_true, kOrV_false, S_test, kTest_, S_tru, kTru_, S_and, S_or, S_not, kAnd_true, kAnd_false, kOr_true, kOr_false, kNot_, S_seq, kS_nx, kS_rt, kS_bk, kS_ct, S_pass, S_set, kSet_dat, kSet_own, S_par, kP_, kPb_, S_ret', kR_, S_retN, S_break, S_cont, S_for, kF_, S_forNil, kFb_nx, kFb_ct, kFb_bk, kFb_rt, S_items, kItems_tup, kItems_lst, kItems_own, S_lc, kLc_, S_lcNil, S_yes, kD_rt, kD_nx, Rv.ret, gt, st, kVar_dat, kVar_own, o_add, o_sub, o_eq, o_ne, o_lt, o_le, o_gt, o_ge, o_eqB, o_neB, o_is2, o_isnot2, o_abs, o_ix, o_ixO, o_ixB, o_ixL, o_tupO, o_isBool, map_some', wp, tgN_, List.length_cons, List.length_nil, Nat.reduceAdd, Nat.reduceLeDiff, true_and, decide_true, decide_false, Bool.not_true, Bool.not_false, o_mul_u, o_div_u, o_mod_u, o_pow_u, o_eqS, o_neS, o_intB, o_lenS, o_lenO, o_lenB, o_iaddI, S_s1, kS1_, kS1b_, S_lm, kLm_bor, kLm_own, kLmb_, S_tab, o_ixT, o_ixS, S_put, kPut_, kPutK_, S_zip2, kZip_, kZipb_tup, o_sum, o_sumB, o_tupB, o_tupL, o_lenT, S_range1, kRng_3, S_tgtL, kTgtL_, List.nil_append, List.cons_append, Nat.reduceLT, SZ, forall_const, true_implies]
    exact q
/-! ### counts -/
def cntM : MS LS := (mSeq (mSet 1 (mC (.int 0)))
    (mSeq (mSet 2 (mC (.int 0)))
    (mSeq (mSet 3 (mC (.int 0)))
    (mSeq (mSet 4 (mC (.int 0)))
    (mSeq (mFor (mItems (mVar 0)) (tgN 5) (mSeq (mSet 6 (mTab [([107, 101, 101, 112], (.int 0)), ([111, 116, 104, 101, 114], (.int 0)), ([111, 117, 116], (.int 1)), ([105, 110], (.int 2))] (mOp2 oIx (mVar 5) (mC (.int 0)))))
    (mSeq (mAug 1 oIAdd (mOpN oInt (mCons (mOp2 oEq (mOp2 oIx (mVar 5) (mC (.int 0))) (mC (.str [111, 116, 104, 101, 114]))) mNil)))
    (mSeq (mAug 2 oIAdd (mOpN oInt (mCons (mOp2 oGt (mVar 6) (mC (.int 0))) mNil)))
    (mSeq (mAug 3 oIAdd (mOpN oInt (mCons (mAndV (mOp2 oGt (mVar 6) (mC (.int 0))) (mOp2 oNe (mVar 6) (mVar 4))) mNil)))
    (mSet 4 (mVar 6)))))))
    (mRet (mTup (mCons (mVar 1) (mCons (mVar 2) (mCons (mVar 3) mNil))))))))))
def cntF : MF LS := mDef 7 1 cntM
def counts (ls : List Mv) : D := .tup [.int (nO ls), .int (nM ls), .int (stretches ls ls.length)]
theorem ix0 (x : Mv) : oIx (.dat x.d) (.dat (.int 0)) = some (.dat (.str x.word)) := by cases x <;> rfl
theorem tabM {x : Mv} {Q : Rv → LS → Prop} {g : LS} : kTab [([107, 101, 101, 112], (.int 0)), ([111, 116, 104, 101, 114], (.int 0)), ([111, 117, 116], (.int 1)), ([105, 110], (.int 2))] Q (.dat (.str x.word)) g = Q (.dat (.int x.move)) g := by cases x <;> rfl
theorem isO_w (x : Mv) : (x.word == [111, 116, 104, 101, 114]) = x.isO := by cases x <;> rfl
def lastM (pre : List Mv) : Int := ((pre[pre.length - 1]?).map Mv.move).getD 0
theorem lastM_app (pre : List Mv) (x : Mv) : lastM (pre ++ [x]) = x.move := by
  unfold lastM
  rw [List.length_append]
  simp
theorem nO_app (pre : List Mv) (x : Mv) : nO (pre ++ [x]) = nO pre + (if x.isO then 1 else 0) := by
  unfold nO
  rw [List.countP_append, List.countP_singleton]
  cases x.isO <;> simp
theorem nM_app (pre : List Mv) (x : Mv) : nM (pre ++ [x]) = nM pre + (if decide (0 < x.move) then 1 else 0) := by
  unfold nM
  rw [List.countP_append, List.countP_singleton]
  cases decide (0 < x.move) <;> simp
theorem at_pre {α : Type} {ls pre post : List α} {x : α} (h : ls = pre ++ x :: post) : ls[pre.length]? = some x := by
  subst h
  simp
theorem at_pre1 {α : Type} {ls pre post : List α} {x : α} (h : ls = pre ++ x :: post) (h0 : 0 < pre.length) : ls[pre.length - 1]? = pre[pre.length - 1]? := by
  subst h
  rw [List.getElem?_append_left (by omega)]
theorem begins_eq {ls pre post : List Mv} {x : Mv} (h : ls = pre ++ x :: post) : begins ls pre.length = if (decide (0 < x.move) && !decide (x.move = lastM pre)) = true then 1 else 0 := by
  unfold begins
  rw [at_pre h]
  dsimp only
  by_cases hm : 0 < x.move
  · rw [decide_eq_true hm, Bool.true_and]
    by_cases h0 : pre.length = 0
    · have hp : pre = [] := List.eq_nil_of_length_eq_zero h0
      subst hp
      have hl : lastM [] = 0 := rfl
      rw [if_pos ⟨hm, .inl rfl⟩, hl, if_pos (by rw [decide_eq_false (by omega)]; rfl)]
    · rw [at_pre1 h (by omega)]
      unfold lastM
      have hlt : pre.length - 1 < pre.length := by omega
      rw [List.getElem?_eq_getElem hlt]
      simp only [Option.map_some, Option.getD_some]
      by_cases he : x.move = pre[pre.length - 1].move
      · rw [if_neg (fun z => z.2.elim (fun z => h0 z) (fun z => z (by rw [he]))), if_neg (by rw [decide_eq_true he]; simp)]
      · rw [if_pos ⟨hm, .inr (fun z => he (Option.some.inj z).symm)⟩, if_pos (by rw [decide_eq_false he]; rfl)]
  · rw [decide_eq_false hm, Bool.false_and, if_neg (fun z => hm z.1), if_neg Bool.false_ne_true]
theorem S_counts {ls : List Mv} {s : LS} {Q : Rv → LS → Prop} (q : Q (.dat (counts ls)) s) : Sat (cntF [script ls] s) Q := by
  unfold cntF
  rw [S_def (k := 1) (ds := [script ls]) rfl]
  show Sat (cntM [.dat (.tup (ls.map Mv.d)), .un, .un, .un, .un, .un, .un] s) _
  unfold cntM
  simp only [S_var, S_C, S_op1, k1_, S_op2, k2_, k2b_, S_nil, S_cons, kc_, kcb_, S_opN, kN_, S_tup, S_lst, kT_u, kL_u, stoL_nil, stoL_dat, stoL_own, consO_some, SatO_some, S_call, kCall_u, S_if, S_ifS, kI_true, kI_false, S_andV, S_orV, kAndV_true, kAndV_false, kOrV_true, kOrV_false, S_test, kTest_, S_tru, kTru_, S_and, S_or, S_not, kAnd_true, kAnd_false, kOr_true, kOr_false, kNot_, S_seq, kS_nx, kS_rt, kS_bk, kS_ct, S_pass, S_set, kSet_dat, kSet_own, S_par, kP_, kPb_, S_ret', kR_, S_retN, S_break, S_cont, S_for, kF_, S_forNil, kFb_nx, kFb_ct, kFb_bk, kFb_rt, S_items, kItems_tup, kItems_lst, kItems_own, S_lc, kLc_, S_lcNil, S_yes, kD_rt, kD_nx, Rv.ret, gt, st, kVar_dat, kVar_own, o_add, o_sub, o_eq, o_ne, o_lt, o_le, o_gt, o_ge, o_eqB, o_neB, o_is2, o_isnot2, o_abs, o_ix, o_ixO, o_ixB, o_ixL, o_tupO, o_isBool, map_some', wp, tgN_, List.length_cons, List.length_nil, Nat.reduceAdd, Nat.reduceLeDiff, true_and, decide_true, decide_false, Bool.not_true, Bool.not_false, o_mul_u, o_div_u, o_mod_u, o_pow_u, o_eqS, o_neS, o_intB, o_lenS, o_lenO, o_lenB, o_iaddI, S_s1, kS1_, kS1b_, S_lm, kLm_bor, kLm_own, kLmb_, S_tab, o_ixT, o_ixS, S_put, kPut_, kPutK_, S_zip2, kZip_, kZipb_tup, o_sum, o_sumB, o_tupB, o_tupL, o_lenT, S_range1, kRng_3, S_tgtL, kTgtL_, List.nil_append, List.cons_append, Nat.reduceLT, SZ, forall_const, true_implies]
  refine S_forA ls Mv.d (fun pre _ e g => ∃ x5 x6, e = [.dat (.tup (ls.map Mv.d)), .dat (.int (nO pre)), .dat (.int (nM pre)), .dat (.int (stretches ls pre.length)), .dat (.int (lastM pre)), x5, x6] ∧ g = s) ⟨_, _, rfl, rfl⟩ ?_ ?_
  · rintro pre x post e g hls ⟨x5, x6, rfl, rfl⟩
    refine ⟨_, rfl, ?_⟩
    have hb := begins_eq hls
    have hlen : (pre ++ [x]).length = pre.length + 1 := by simp
    rw [hlen, nO_app, nM_app, lastM_app]
    show Sat _ fun (f : Fl) (g2 : LS) => match f with
      | .nx e2 => ∃ x5 x6, e2 = [.dat (.tup (ls.map Mv.d)), .dat (.int (nO pre + (if x.isO then 1 else 0))), .dat (.int (nM pre + (if decide (0 < x.move) then 1 else 0))), .dat (.int (stretches ls pre.length + begins ls pre.length)), .dat (.int x.move), x5, x6] ∧ g2 = g
      | .ct e2 => ∃ x5 x6, e2 = [.dat (.tup (ls.map Mv.d)), .dat (.int (nO pre + (if x.isO then 1 else 0))), .dat (.int (nM pre + (if decide (0 < x.move) then 1 else 0))), .dat (.int (stretches ls pre.length + begins ls pre.length)), .dat (.int x.move), x5, x6] ∧ g2 = g
      | .bk e2 => _
      | .rt r => _
    rw [hb, S_seq, S_set, S_tab]
    simp only [st, S_op2, S_var, gt, kVar_dat, k2_, S_C, k2b_, ix0, SatO_some, tabM, kSet_dat, kS_nx]
    rw [S_seq, S_aug rfl]
    simp only [S_var, S_C, S_op1, k1_, S_op2, k2_, k2b_, S_nil, S_cons, kc_, kcb_, S_opN, kN_, S_tup, S_lst, kT_u, kL_u, stoL_nil, stoL_dat, stoL_own, consO_some, SatO_some, S_call, kCall_u, S_if, S_ifS, kI_true, kI_false, S_andV, S_orV, kAndV_true, kAndV_false, kOrV_true, kOrV_false, S_test, kTest_, S_tru, kTru_, S_and, S_or, S_not, kAnd_true, kAnd_false, kOr_true, kOr_false, kNot_, S_seq, kS_nx, kS_rt, kS_bk, kS_ct, S_pass, S_set, kSet_dat, kSet_own, S_par, kP_, kPb_, S_ret', kR_, S_retN, S_break, S_cont, S_for, kF_, S_forNil, kFb_nx, kFb_ct, kFb_bk, kFb_rt, S_items, kItems_tup, kItems_lst, kItems_own, S_lc, kLc_, S_lcNil, S_yes, kD_rt, kD_nx, Rv.ret, gt, st, kVar_dat, kVar_own, o_add, o_sub, o_eq, o_ne, o_lt, o_le, o_gt, o_ge, o_eqB, o_neB, o_is2, o_isnot2, o_abs, o_ix, o_ixO, o_ixB, o_ixL, o_tupO, o_isBool, map_some', wp, tgN_, List.length_cons, List.length_nil, Nat.reduceAdd, Nat.reduceLeDiff, true_and, decide_true, decide_false, Bool.not_true, Bool.not_false, o_mul_u, o_div_u, o_mod_u, o_pow_u, o_eqS, o_neS, o_intB, o_lenS, o_lenO, o_lenB, o_iaddI, S_s1, kS1_, kS1b_, S_lm, kLm_bor, kLm_own, kLmb_, S_tab, o_ixT, o_ixS, S_put, kPut_, kPutK_, S_zip2, kZip_, kZipb_tup, o_sum, o_sumB, o_tupB, o_tupL, o_lenT, S_range1, kRng_3, S_tgtL, kTgtL_, List.nil_append, List.cons_append, Nat.reduceLT, SZ, forall_const, true_implies, ix0, isO_w, kAug_]
    rw [S_aug rfl]
    simp only [S_var, S_C, S_op1, k1_, S_op2, k2_, k2b_, S_nil, S_cons, kc_, kcb_, S_opN, kN_, S_tup, S_lst, kT_u, kL_u, stoL_nil, stoL_dat, stoL_own, consO_some, SatO_some, S_call, kCall_u, S_if, S_ifS, kI_true, kI_false, S_andV, S_orV, kAndV_true, kAndV_false, kOrV_true, kOrV_false, S_test, kTest_, S_tru, kTru_, S_and, S_or, S_not, kAnd_true, kAnd_false, kOr_true, kOr_false, kNot_, S_seq, kS_nx, kS_rt, kS_bk, kS_ct, S_pass, S_set, kSet_dat, kSet_own, S_par, kP_, kPb_, S_ret', kR_, S_retN, S_break, S_cont, S_for, kF_, S_forNil, kFb_nx, kFb_ct, kFb_bk, kFb_rt, S_items, kItems_tup, kItems_lst, kItems_own, S_lc, kLc_, S_lcNil, S_yes, kD_rt, kD_nx, Rv.ret, gt, st, kVar_dat, kVar_own, o_add, o_sub, o_eq, o_ne, o_lt, o_le, o_gt, o_ge, o_eqB, o_neB, o_is2, o_isnot2, o_abs, o_ix, o_ixO, o_ixB, o_ixL, o_tupO, o_isBool, map_some', wp, tgN_, List.length_cons, List.length_nil, Nat.reduceAdd, Nat.reduceLeDiff, true_and, decide_true, decide_false, Bool.not_true, Bool.not_false, o_mul_u, o_div_u, o_mod_u, o_pow_u, o_eqS, o_neS, o_intB, o_lenS, o_lenO, o_lenB, o_iaddI, S_s1, kS1_, kS1b_, S_lm, kLm_bor, kLm_own, kLmb_, S_tab, o_ixT, o_ixS, S_put, kPut_, kPutK_, S_zip2, kZip_, kZipb_tup, o_sum, o_sumB, o_tupB, o_tupL, o_lenT, S_range1, kRng_3, S_tgtL, kTgtL_, List.nil_append, List.cons_append, Nat.reduceLT, SZ, forall_const, true_implies, kAug_]
    rw [S_aug rfl]
    by_cases hm : 0 < x.move
    · simp only [S_var, S_C, S_op1, k1_, S_op2, k2_, k2b_, S_nil, S_cons, kc_, kcb_, S_opN, kN_, S_tup, S_lst, kT_u, kL_u, stoL_nil, stoL_dat, stoL_own, consO_some, SatO_some, S_call, kCall_u, S_if, S_ifS, kI_true, kI_false, S_andV, S_orV, kAndV_true, kAndV_false, kOrV_true, kOrV_false, S_test, kTest_, S_tru, kTru_, S_and, S_or, S_not, kAnd_true, kAnd_false, kOr_true, kOr_false, kNot_, S_seq, kS_nx, kS_rt, kS_bk, kS_ct, S_pass, S_set, kSet_dat, kSet_own, S_par, kP_, kPb_, S_ret', kR_, S_retN, S_break, S_cont, S_for, kF_, S_forNil, kFb_nx, kFb_ct, kFb_bk, kFb_rt, S_items, kItems_tup, kItems_lst, kItems_own, S_lc, kLc_, S_lcNil, S_yes, kD_rt, kD_nx, Rv.ret, gt, st, kVar_dat, kVar_own, o_add, o_sub, o_eq, o_ne, o_lt, o_le, o_gt, o_ge, o_eqB, o_neB, o_is2, o_isnot2, o_abs, o_ix, o_ixO, o_ixB, o_ixL, o_tupO, o_isBool, map_some', wp, tgN_, List.length_cons, List.length_nil, Nat.reduceAdd, Nat.reduceLeDiff, true_and, decide_true, decide_false, Bool.not_true, Bool.not_false, o_mul_u, o_div_u, o_mod_u, o_pow_u, o_eqS, o_neS, o_intB, o_lenS, o_lenO, o_lenB, o_iaddI, S_s1, kS1_, kS1b_, S_lm, kLm_bor, kLm_own, kLmb_, S_tab, o_ixT, o_ixS, S_put, kPut_, kPutK_, S_zip2, kZip_, kZipb_tup, o_sum, o_sumB, o_tupB, o_tupL, o_lenT, S_range1, kRng_3, S_tgtL, kTgtL_, List.nil_append, List.cons_append, Nat.reduceLT, SZ, forall_const, true_implies, kAug_, decide_eq_true hm, Bool.true_and]
      exact ⟨_, _, rfl, trivial⟩
    · simp only [S_var, S_C, S_op1, k1_, S_op2, k2_, k2b_, S_nil, S_cons, kc_, kcb_, S_opN, kN_, S_tup, S_lst, kT_u, kL_u, stoL_nil, stoL_dat, stoL_own, consO_some, SatO_some, S_call, kCall_u, S_if, S_ifS, kI_true, kI_false, S_andV, S_orV, kAndV_true, kAndV_false, kOrV_true, kOrV_false, S_test, kTest_, S_tru, kTru_, S_and, S_or, S_not, kAnd_true, kAnd_false, kOr_true, kOr_false, kNot_, S_seq, kS_nx, kS_rt, kS_bk, kS_ct, S_pass, S_set, kSet_dat, kSet_own, S_par, kP_, kPb_, S_ret', kR_, S_retN, S_break, S_cont, S_for, kF_, S_forNil, kFb_nx, kFb_ct, kFb_bk, kFb_rt, S_items, kItems_tup, kItems_lst, kItems_own, S_lc, kLc_, S_lcNil, S_yes, kD_rt, kD_nx, Rv.ret, gt, st, kVar_dat, kVar_own, o_add, o_sub, o_eq, o_ne, o_lt, o_le, o_gt, o_ge, o_eqB, o_neB, o_is2, o_isnot2, o_abs, o_ix, o_ixO, o_ixB, o_ixL, o_tupO, o_isBool, map_some', wp, tgN_, List.length_cons, List.length_nil, Nat.reduceAdd, Nat.reduceLeDiff, true_and, decide_true, decide_false, Bool.not_true, Bool.not_false, o_mul_u, o_div_u, o_mod_u, o_pow_u, o_eqS, o_neS, o_intB, o_lenS, o_lenO, o_lenB, o_iaddI, S_s1, kS1_, kS1b_, S_lm, kLm_bor, kLm_own, kLmb_, S_tab, o_ixT, o_ixS, S_put, kPut_, kPutK_, S_zip2, kZip_, kZipb_tup, o_sum, o_sumB, o_tupB, o_tupL, o_lenT, S_range1, kRng_3, S_tgtL, kTgtL_, List.nil_append, List.cons_append, Nat.reduceLT, SZ, forall_const, true_implies, kAug_, decide_eq_false hm, Bool.false_and]
      exact ⟨_, _, rfl, trivial⟩
  · rintro e g ⟨x5, x6, rfl, rfl⟩
    simp only [S_var, S_C, S_op1, k1_, S_op2, k2_, k2b_, S_nil, S_cons, kc_, kcb_, S_opN, kN_, S_tup, S_lst, kT_u, kL_u, stoL_nil, stoL_dat, stoL_own, consO_some, SatO_some, S_call, kCall_u, S_if, S_ifS, kI_true, kI_false, S_andV, S_orV, kAndV_true, kAndV_false, kOrV_true, kOrV_false, S_test, kTest_, S_tru, kTru_, S_and, S_or, S_not, kAnd_true, kAnd_false, kOr_true, kOr_false, kNot_, S_seq, kS_nx, kS_rt, kS_bk, kS_ct, S_pass, S_set, kSet_dat, kSet_own, S_par, kP_, kPb_, S_ret', kR_, S_retN, S_break, S_cont, S_for, kF_, S_forNil, kFb_nx, kFb_ct, kFb_bk, kFb_rt, S_items, kItems_tup, kItems_lst, kItems_own, S_lc, kLc_, S_lcNil, S_yes, kD_rt, kD_nx, Rv.ret, gt, st, kVar_dat, kVar_own, o_add, o_sub, o_eq, o_ne, o_lt, o_le, o_gt, o_ge, o_eqB, o_neB, o_is2, o_isnot2, o_abs, o_ix, o_ixO, o_ixB, o_ixL, o_tupO, o_isBool, map_some', wp, tgN_, List.length_cons, List.length_nil, Nat.reduceAdd, Nat.reduceLeDiff, true_and, decide_true, decide_false, Bool.not_true, Bool.not_false, o_mul_u, o_div_u, o_mod_u, o_pow_u, o_eqS, o_neS, o_intB, o_lenS, o_lenO, o_lenB, o_iaddI, S_s1, kS1_, kS1b_, S_lm, kLm_bor, kLm_own, kLmb_, S_tab, o_ixT, o_ixS, S_put, kPut_, kPutK_, S_zip2, kZip_, kZipb_tup, o_sum, o_sumB, o_tupB, o_tupL, o_lenT, S_range1, kRng_3, S_tgtL, kTgtL_, List.nil_append, List.cons_append, Nat.reduceLT, SZ, forall_const, true_implies]
    exact q
end PB

set_option Elab.async false
set_option linter.all false
set_option maxRecDepth 10000
set_option exponentiation.threshold 2000
namespace PB
def ownCntM : MS LS := (mSeq (mSet 1 (mLc (mItems (mVar 0)) (tgN 4) mYes (mOp2 oIx (mVar 4) (mC (.int 0))) [4]))
    (mSeq (mSet 2 (mC (.int 0)))
    (mSeq (mFor (mRange1 (mOpN oLen (mCons (mVar 1) mNil))) (tgN 3) (mIfS (mAnd (mTest (mOp2 oIn (mOp2 oIx (mVar 1) (mVar 3)) (mTup (mCons (mC (.str [111, 117, 116])) (mCons (mC (.str [105, 110])) mNil))))) (mOr (mTest (mOp2 oEq (mVar 3) (mC (.int 0)))) (mTest (mOp2 oNe (mOp2 oIx (mVar 1) (mOp2 oSub (mVar 3) (mC (.int 1)))) (mOp2 oIx (mVar 1) (mVar 3)))))) (mAug 2 oIAdd (mC (.int 1))) mPass))
    (mRet (mTup (mCons (mLm oCount (mVar 1) (mC (.str [111, 116, 104, 101, 114]))) (mCons (mOp2 oAdd (mLm oCount (mVar 1) (mC (.str [111, 117, 116]))) (mLm oCount (mVar 1) (mC (.str [105, 110])))) (mCons (mVar 2) mNil))))))))
def ownCntF : MF LS := mDef 5 1 ownCntM
theorem okL_str {α : Type} (f : α → List Nat) (n : Nat) (ls : List α) : okL n (ls.map fun x => .str (f x)) = true := by
  induction ls with
  | nil => cases n <;> rfl
  | cons x xs ih =>
    rw [List.map_cons]
    unfold okL
    rw [ih]
    cases n <;> rfl
theorem o_count {α : Type} (f : α → List Nat) (ls : List α) (w : List Nat) : oCount (ls.map fun x => .str (f x)) (.str w) = some ((ls.countP fun x => f x == w : Nat) : Int) := by
  unfold oCount
  rw [if_pos ⟨rfl, okL_str f 59 ls⟩, List.countP_map]
  rfl
theorem cnt_other (ls : List Mv) : ((ls.countP fun x => x.word == [111, 116, 104, 101, 114] : Nat) : Int) = nO ls := by
  unfold nO
  congr 1
  apply List.countP_congr
  intro x _
  rw [isO_w]
theorem cnt_moves (ls : List Mv) : ((ls.countP fun x => x.word == [111, 117, 116] : Nat) : Int) + ((ls.countP fun x => x.word == [105, 110] : Nat) : Int) = nM ls := by
  unfold nM
  induction ls with
  | nil => rfl
  | cons x xs ih =>
    rw [List.countP_cons, List.countP_cons, List.countP_cons]
    have h1 : (if (x.word == [111, 117, 116]) = true then 1 else 0) + (if (x.word == [105, 110]) = true then 1 else 0) = (if decide (0 < x.move) = true then 1 else 0 : Nat) := by cases x <;> rfl
    generalize (if (x.word == [111, 117, 116]) = true then 1 else 0 : Nat) = p at *
    generalize (if (x.word == [105, 110]) = true then 1 else 0 : Nat) = q at *
    generalize (if decide (0 < x.move) = true then 1 else 0 : Nat) = r at *
    omega
theorem in_w (x : Mv) : oIn (.dat (.str x.word)) (.dat (.tup [.str [111, 117, 116], .str [105, 110]])) = some (.dat (.bl (decide (0 < x.move)))) := by cases x <;> rfl
theorem word_eq {x y : Mv} (h : 0 < x.move) : (y.word == x.word) = decide (x.move = y.move) := by
  cases x <;> cases y <;> first
    | rfl
    | exact absurd (show (0 : Int) < 0 from h) (by decide)
theorem range_pre {n k : Nat} {pre post : List Nat} (h : List.range n = pre ++ k :: post) : k = pre.length ∧ k < n := by
  have h1 := at_pre h
  have hk : k ∈ List.range n := by rw [h]; simp
  have h2 := List.mem_range.mp hk
  have hp : pre.length < n := by
    have := congrArg List.length h
    rw [List.length_range, List.length_append, List.length_cons] at this
    omega
  rw [List.getElem?_range hp] at h1
  exact ⟨(Option.some.inj h1).symm, h2⟩
theorem atI_mapD {α : Type} (f : α → D) {ls : List α} {k : Nat} {x : α} (h : ls[k]? = some x) : atI (ls.map f) (k : Int) = some (f x) := by
  obtain ⟨hk, e⟩ := List.getElem?_eq_some_iff.mp h
  unfold atI ixN
  rw [List.length_map, if_pos (by omega), if_pos (by omega)]
  show (ls.map f)[((k : Int)).toNat]? = _
  rw [Int.toNat_natCast, List.getElem?_map, h]
  rfl
theorem rng_ok {n : Nat} (h : n ≤ 1000) : RngOk (n : Int) := log2_lt (n := 62) (by omega) (by decide)
theorem S_ownCounts {ls : List Mv} {s : LS} {Q : Rv → LS → Prop} (hl : ls.length ≤ 1000) (q : Q (.dat (counts ls)) s) : Sat (ownCntF [script ls] s) Q := by
  have hz : ls.length ≤ SZ := Nat.le_trans hl (by decide)
  unfold ownCntF
  rw [S_def (k := 1) (ds := [script ls]) rfl]
  show Sat (ownCntM [.dat (.tup (ls.map Mv.d)), .un, .un, .un, .un] s) _
  unfold ownCntM
  simp only [S_var, S_C, S_op1, k1_, S_op2, k2_, k2b_, S_nil, S_cons, kc_, kcb_, S_opN, kN_, S_tup, S_lst, kT_u, kL_u, stoL_nil, stoL_dat, stoL_own, consO_some, SatO_some, S_call, kCall_u, S_if, S_ifS, kI_true, kI_false, S_andV, S_orV, kAndV_true, kAndV_false, kOrV_true, kOrV_false, S_test, kTest_, S_tru, kTru_, S_and, S_or, S_not, kAnd_true, kAnd_false, kOr_true, kOr_false, kNot_, S_seq, kS_nx, kS_rt, kS_bk, kS_ct, S_pass, S_set, kSet_dat, kSet_own, S_par, kP_, kPb_, S_ret', kR_, S_retN, S_break, S_cont, S_for, kF_, S_forNil, kFb_nx, kFb_ct, kFb_bk, kFb_rt, S_items, kItems_tup, kItems_lst, kItems_own, S_lc, kLc_, S_lcNil, S_yes, kD_rt, kD_nx, Rv.ret, gt, st, kVar_dat, kVar_own, o_add, o_sub, o_eq, o_ne, o_lt, o_le, o_gt, o_ge, o_eqB, o_neB, o_is2, o_isnot2, o_abs, o_ix, o_ixO, o_ixB, o_ixL, o_tupO, o_isBool, map_some', wp, tgN_, List.length_cons, List.length_nil, Nat.reduceAdd, Nat.reduceLeDiff, true_and, decide_true, decide_false, Bool.not_true, Bool.not_false, o_mul_u, o_div_u, o_mod_u, o_pow_u, o_eqS, o_neS, o_intB, o_lenS, o_lenO, o_lenB, o_iaddI, S_s1, kS1_, kS1b_, S_lm, kLm_bor, kLm_own, kLmb_, S_tab, o_ixT, o_ixS, S_put, kPut_, kPutK_, S_zip2, kZip_, kZipb_tup, o_sum, o_sumB, o_tupB, o_tupL, o_lenT, S_range1, kRng_3, S_tgtL, kTgtL_, List.nil_append, List.cons_append, Nat.reduceLT, SZ, forall_const, true_implies]
  generalize hK : kSet (γ := LS) 1 _ _ = KK
  refine S_lcA ls Mv.d (fun x => .str x.word) hz (fun x _ => ⟨_, rfl, ?_⟩) ?_
  · simp only [S_var, S_C, S_op1, k1_, S_op2, k2_, k2b_, S_nil, S_cons, kc_, kcb_, S_opN, kN_, S_tup, S_lst, kT_u, kL_u, stoL_nil, stoL_dat, stoL_own, consO_some, SatO_some, S_call, kCall_u, S_if, S_ifS, kI_true, kI_false, S_andV, S_orV, kAndV_true, kAndV_false, kOrV_true, kOrV_false, S_test, kTest_, S_tru, kTru_, S_and, S_or, S_not, kAnd_true, kAnd_false, kOr_true, kOr_false, kNot_, S_seq, kS_nx, kS_rt, kS_bk, kS_ct, S_pass, S_set, kSet_dat, kSet_own, S_par, kP_, kPb_, S_ret', kR_, S_retN, S_break, S_cont, S_for, kF_, S_forNil, kFb_nx, kFb_ct, kFb_bk, kFb_rt, S_items, kItems_tup, kItems_lst, kItems_own, S_lc, kLc_, S_lcNil, S_yes, kD_rt, kD_nx, Rv.ret, gt, st, kVar_dat, kVar_own, o_add, o_sub, o_eq, o_ne, o_lt, o_le, o_gt, o_ge, o_eqB, o_neB, o_is2, o_isnot2, o_abs, o_ix, o_ixO, o_ixB, o_ixL, o_tupO, o_isBool, map_some', wp, tgN_, List.length_cons, List.length_nil, Nat.reduceAdd, Nat.reduceLeDiff, true_and, decide_true, decide_false, Bool.not_true, Bool.not_false, o_mul_u, o_div_u, o_mod_u, o_pow_u, o_eqS, o_neS, o_intB, o_lenS, o_lenO, o_lenB, o_iaddI, S_s1, kS1_, kS1b_, S_lm, kLm_bor, kLm_own, kLmb_, S_tab, o_ixT, o_ixS, S_put, kPut_, kPutK_, S_zip2, kZip_, kZipb_tup, o_sum, o_sumB, o_tupB, o_tupL, o_lenT, S_range1, kRng_3, S_tgtL, kTgtL_, List.nil_append, List.cons_append, Nat.reduceLT, SZ, forall_const, true_implies, ix0, Rv.sto]
  rw [← hK]
  simp only [S_var, S_C, S_op1, k1_, S_op2, k2_, k2b_, S_nil, S_cons, kc_, kcb_, S_opN, kN_, S_tup, S_lst, kT_u, kL_u, stoL_nil, stoL_dat, stoL_own, consO_some, SatO_some, S_call, kCall_u, S_if, S_ifS, kI_true, kI_false, S_andV, S_orV, kAndV_true, kAndV_false, kOrV_true, kOrV_false, S_test, kTest_, S_tru, kTru_, S_and, S_or, S_not, kAnd_true, kAnd_false, kOr_true, kOr_false, kNot_, S_seq, kS_nx, kS_rt, kS_bk, kS_ct, S_pass, S_set, kSet_dat, kSet_own, S_par, kP_, kPb_, S_ret', kR_, S_retN, S_break, S_cont, S_for, kF_, S_forNil, kFb_nx, kFb_ct, kFb_bk, kFb_rt, S_items, kItems_tup, kItems_lst, kItems_own, S_lc, kLc_, S_lcNil, S_yes, kD_rt, kD_nx, Rv.ret, gt, st, kVar_dat, kVar_own, o_add, o_sub, o_eq, o_ne, o_lt, o_le, o_gt, o_ge, o_eqB, o_neB, o_is2, o_isnot2, o_abs, o_ix, o_ixO, o_ixB, o_ixL, o_tupO, o_isBool, map_some', wp, tgN_, List.length_cons, List.length_nil, Nat.reduceAdd, Nat.reduceLeDiff, true_and, decide_true, decide_false, Bool.not_true, Bool.not_false, o_mul_u, o_div_u, o_mod_u, o_pow_u, o_eqS, o_neS, o_intB, o_lenS, o_lenO, o_lenB, o_iaddI, S_s1, kS1_, kS1b_, S_lm, kLm_bor, kLm_own, kLmb_, S_tab, o_ixT, o_ixS, S_put, kPut_, kPutK_, S_zip2, kZip_, kZipb_tup, o_sum, o_sumB, o_tupB, o_tupL, o_lenT, S_range1, kRng_3, S_tgtL, kTgtL_, List.nil_append, List.cons_append, Nat.reduceLT, SZ, forall_const, true_implies, kRng_, List.length_map]
  refine ⟨rng_ok hl, ?_⟩
  rw [Int.toNat_natCast, rng_map]
  refine S_forA (List.range ls.length) (fun k => D.int (0 + (k : Nat))) (fun pre _ e g => ∃ x3, e = [.dat (.tup (ls.map Mv.d)), .own (ls.map fun x => .str x.word), .dat (.int (stretches ls pre.length)), x3, .un] ∧ g = s) ⟨_, rfl, rfl⟩ ?_ ?_
  · rintro pre k post e g hr ⟨x3, rfl, rfl⟩
    obtain ⟨rfl, hk⟩ := range_pre hr
    refine ⟨_, rfl, ?_⟩
    have hlen : (pre ++ [pre.length]).length = pre.length + 1 := by simp
    rw [hlen, Int.zero_add]
    obtain ⟨x, hx⟩ : ∃ x, ls[pre.length]? = some x := ⟨_, List.getElem?_eq_getElem hk⟩
    have hb : stretches ls (pre.length + 1) = stretches ls pre.length + (if 0 < x.move ∧ (pre.length = 0 ∨ (ls[pre.length - 1]?.map Mv.move) ≠ some x.move) then 1 else 0) := by
      show stretches ls pre.length + begins ls pre.length = _
      unfold begins
      rw [hx]
    rw [hb]
    have hix : oIx (.bor (ls.map fun x => D.str x.word)) (.dat (.int (pre.length : Nat))) = some (.dat (.str x.word)) := by
      rw [o_ixB, atI_mapD _ hx]
      rfl
    rw [S_ifS, S_and]
    simp only [S_test, S_op2, S_var, gt, st, kVar_dat, kVar_own, k2_, S_C, k2b_, hix, SatO_some, S_tup, S_cons, kc_, S_nil, kcb_, kT_u, stoL_dat, stoL_nil, consO_some, List.length_cons, List.length_nil, Nat.reduceAdd, SZ, Nat.reduceLeDiff, true_and, in_w, kTest_]
    by_cases hm : 0 < x.move
    · simp only [decide_eq_true hm, kAnd_true, S_or, S_test, S_op2, S_var, gt, kVar_dat, k2_, S_C, k2b_, o_eq, SatO_some, kTest_]
      by_cases h0 : pre.length = 0
      · rw [decide_eq_true (by omega), if_pos ⟨hm, .inl h0⟩]
        simp only [kOr_true, kI_true]
        rw [S_aug rfl]
        simp only [S_var, S_C, S_op1, k1_, S_op2, k2_, k2b_, S_nil, S_cons, kc_, kcb_, S_opN, kN_, S_tup, S_lst, kT_u, kL_u, stoL_nil, stoL_dat, stoL_own, consO_some, SatO_some, S_call, kCall_u, S_if, S_ifS, kI_true, kI_false, S_andV, S_orV, kAndV_true, kAndV_false, kOrV_true, kOrV_false, S_test, kTest_, S_tru, kTru_, S_and, S_or, S_not, kAnd_true, kAnd_false, kOr_true, kOr_false, kNot_, S_seq, kS_nx, kS_rt, kS_bk, kS_ct, S_pass, S_set, kSet_dat, kSet_own, S_par, kP_, kPb_, S_ret', kR_, S_retN, S_break, S_cont, S_for, kF_, S_forNil, kFb_nx, kFb_ct, kFb_bk, kFb_rt, S_items, kItems_tup, kItems_lst, kItems_own, S_lc, kLc_, S_lcNil, S_yes, kD_rt, kD_nx, Rv.ret, gt, st, kVar_dat, kVar_own, o_add, o_sub, o_eq, o_ne, o_lt, o_le, o_gt, o_ge, o_eqB, o_neB, o_is2, o_isnot2, o_abs, o_ix, o_ixO, o_ixB, o_ixL, o_tupO, o_isBool, map_some', wp, tgN_, List.length_cons, List.length_nil, Nat.reduceAdd, Nat.reduceLeDiff, true_and, decide_true, decide_false, Bool.not_true, Bool.not_false, o_mul_u, o_div_u, o_mod_u, o_pow_u, o_eqS, o_neS, o_intB, o_lenS, o_lenO, o_lenB, o_iaddI, S_s1, kS1_, kS1b_, S_lm, kLm_bor, kLm_own, kLmb_, S_tab, o_ixT, o_ixS, S_put, kPut_, kPutK_, S_zip2, kZip_, kZipb_tup, o_sum, o_sumB, o_tupB, o_tupL, o_lenT, S_range1, kRng_3, S_tgtL, kTgtL_, List.nil_append, List.cons_append, Nat.reduceLT, SZ, forall_const, true_implies, kAug_]
        exact ⟨_, rfl, trivial⟩
      · rw [decide_eq_false (by omega)]
        have hk1 : pre.length - 1 < ls.length := by omega
        have hy : ls[pre.length - 1]? = some ls[pre.length - 1] := List.getElem?_eq_getElem hk1
        have hiy : oIx (.bor (ls.map fun x => D.str x.word)) (.dat (.int ((pre.length : Nat) - 1))) = some (.dat (.str ls[pre.length - 1].word)) := by
          rw [o_ixB, show ((pre.length : Nat) : Int) - 1 = ((pre.length - 1 : Nat) : Int) by omega, atI_mapD _ hy]
          rfl
        rw [hy]
        generalize ls[pre.length - 1] = y at *
        simp only [kOr_false, S_test, S_op2, S_var, gt, kVar_dat, kVar_own, k2_, S_C, k2b_, o_sub, SatO_some, hiy, hix, o_neS, kTest_, word_eq hm, Option.map_some]
        by_cases he : x.move = y.move
        · rw [decide_eq_true he, if_neg (fun z => z.2.elim h0 fun z => z (by rw [he])), Int.add_zero]
          exact ⟨_, rfl, rfl⟩
        · rw [decide_eq_false he, if_pos ⟨hm, .inr fun z => he (Option.some.inj z).symm⟩]
          simp only [Bool.not_false, kI_true]
          rw [S_aug rfl]
          simp only [S_var, S_C, S_op1, k1_, S_op2, k2_, k2b_, S_nil, S_cons, kc_, kcb_, S_opN, kN_, S_tup, S_lst, kT_u, kL_u, stoL_nil, stoL_dat, stoL_own, consO_some, SatO_some, S_call, kCall_u, S_if, S_ifS, kI_true, kI_false, S_andV, S_orV, kAndV_true, kAndV_false, kOrV_true, kOrV_false, S_test, kTest_, S_tru, kTru_, S_and, S_or, S_not, kAnd_true, kAnd_false, kOr_true, kOr_false, kNot_, S_seq, kS_nx, kS_rt, kS_bk, kS_ct, S_pass, S_set, kSet_dat, kSet_own, S_par, kP_, kPb_, S_ret', kR_, S_retN, S_break, S_cont, S_for, kF_, S_forNil, kFb_nx, kFb_ct, kFb_bk, kFb_rt, S_items, kItems_tup, kItems_lst, kItems_own, S_lc, kLc_, S_lcNil, S_yes, kD_rt, kD_nx, Rv.ret, gt, st, kVar_dat, kVar_own, o_add, o_sub, o_eq, o_ne, o_lt, o_le, o_gt, o_ge, o_eqB, o_neB, o_is2, o_isnot2, o_abs, o_ix, o_ixO, o_ixB, o_ixL, o_tupO, o_isBool, map_some', wp, tgN_, List.length_cons, List.length_nil, Nat.reduceAdd, Nat.reduceLeDiff, true_and, decide_true, decide_false, Bool.not_true, Bool.not_false, o_mul_u, o_div_u, o_mod_u, o_pow_u, o_eqS, o_neS, o_intB, o_lenS, o_lenO, o_lenB, o_iaddI, S_s1, kS1_, kS1b_, S_lm, kLm_bor, kLm_own, kLmb_, S_tab, o_ixT, o_ixS, S_put, kPut_, kPutK_, S_zip2, kZip_, kZipb_tup, o_sum, o_sumB, o_tupB, o_tupL, o_lenT, S_range1, kRng_3, S_tgtL, kTgtL_, List.nil_append, List.cons_append, Nat.reduceLT, SZ, forall_const, true_implies, kAug_]
          exact ⟨_, rfl, trivial⟩
    · rw [decide_eq_false hm, if_neg (fun z => hm z.1), Int.add_zero]
      simp only [kAnd_false, kI_false]
      exact ⟨_, rfl, rfl⟩
  · rintro e g ⟨x3, rfl, rfl⟩
    rw [List.length_range]
    simp only [S_var, S_C, S_op1, k1_, S_op2, k2_, k2b_, S_nil, S_cons, kc_, kcb_, S_opN, kN_, S_tup, S_lst, kT_u, kL_u, stoL_nil, stoL_dat, stoL_own, consO_some, SatO_some, S_call, kCall_u, S_if, S_ifS, kI_true, kI_false, S_andV, S_orV, kAndV_true, kAndV_false, kOrV_true, kOrV_false, S_test, kTest_, S_tru, kTru_, S_and, S_or, S_not, kAnd_true, kAnd_false, kOr_true, kOr_false, kNot_, S_seq, kS_nx, kS_rt, kS_bk, kS_ct, S_pass, S_set, kSet_dat, kSet_own, S_par, kP_, kPb_, S_ret', kR_, S_retN, S_break, S_cont, S_for, kF_, S_forNil, kFb_nx, kFb_ct, kFb_bk, kFb_rt, S_items, kItems_tup, kItems_lst, kItems_own, S_lc, kLc_, S_lcNil, S_yes, kD_rt, kD_nx, Rv.ret, gt, st, kVar_dat, kVar_own, o_add, o_sub, o_eq, o_ne, o_lt, o_le, o_gt, o_ge, o_eqB, o_neB, o_is2, o_isnot2, o_abs, o_ix, o_ixO, o_ixB, o_ixL, o_tupO, o_isBool, map_some', wp, tgN_, List.length_cons, List.length_nil, Nat.reduceAdd, Nat.reduceLeDiff, true_and, decide_true, decide_false, Bool.not_true, Bool.not_false, o_mul_u, o_div_u, o_mod_u, o_pow_u, o_eqS, o_neS, o_intB, o_lenS, o_lenO, o_lenB, o_iaddI, S_s1, kS1_, kS1b_, S_lm, kLm_bor, kLm_own, kLmb_, S_tab, o_ixT, o_ixS, S_put, kPut_, kPutK_, S_zip2, kZip_, kZipb_tup, o_sum, o_sumB, o_tupB, o_tupL, o_lenT, S_range1, kRng_3, S_tgtL, kTgtL_, List.nil_append, List.cons_append, Nat.reduceLT, SZ, forall_const, true_implies, o_count, cnt_other, cnt_moves]
    exact q
end PB

set_option Elab.async false
set_option linter.all false
set_option maxRecDepth 10000
set_option exponentiation.threshold 2000
namespace PB
/-! ### the law's own: alphabets, steps, scripts, what is due -/
def stepM : MS LS := (mSeq (mSet 3 (mCall drawF (mCons (mVar 0) (mCons (mC (.int 2)) mNil))))
    (mSeq (mSet 4 (mCall drawF (mCons (mVar 0) (mCons (mC (.int 4)) mNil))))
    (mSeq (mSet 5 (mOp2 oIx (mVar 1) (mCall drawF (mCons (mVar 0) (mCons (mOpN oLen (mCons (mVar 1) mNil)) mNil)))))
    (mSeq (mSet 6 (mOp2 oIx (mVar 1) (mCall drawF (mCons (mVar 0) (mCons (mOpN oLen (mCons (mVar 1) mNil)) mNil)))))
    (mSeq (mSet 7 (mOp2 oIx (mLst (mCons (mC (.str [107, 101, 101, 112])) (mCons (mC (.str [111, 116, 104, 101, 114])) (mCons (mC (.str [111, 117, 116])) (mCons (mC (.str [105, 110])) mNil))))) (mVar 4)))
    (mSeq (mIfS (mAnd (mTest (mOp2 oEq (mVar 3) (mC (.int 1)))) (mTest (mOp2 oNe (mVar 2) (mC (.str []))))) (mSet 7 (mVar 2)) mPass)
    (mSeq (mIfS (mAnd (mTest (mOp2 oEq (mVar 7) (mC (.str [111, 116, 104, 101, 114])))) (mTest (mOp2 oEq (mVar 5) (mVar 6)))) (mRet (mTup (mCons (mC (.str [107, 101, 101, 112])) (mCons (mVar 5) mNil)))) mPass)
    (mSeq (mIfS (mTest (mOp2 oEq (mVar 7) (mC (.str [111, 116, 104, 101, 114])))) (mRet (mTup (mCons (mC (.str [111, 116, 104, 101, 114])) (mCons (mVar 5) (mCons (mVar 6) mNil))))) mPass)
    (mRet (mTup (mCons (mVar 7) (mCons (mVar 5) mNil))))))))))))
def stepF : MF LS := mDef 8 3 stepM
def scrM : MS LS := (mSeq (mSet 3 (mCall drawF (mCons (mVar 0) (mCons (mOp2 oAdd (mOp2 oMul (mC (.int 2)) (mVar 1)) (mC (.int 1))) mNil))))
    (mSeq (mSet 4 (mLst mNil))
    (mSeq (mSet 5 (mLst (mCons (mVar 1) (mCons (mVar 1) mNil))))
    (mSeq (mSet 6 (mC (.str [])))
    (mSeq (mFor (mRange1 (mVar 3)) (tgN 7) (mSeq (mSet 8 (mCall stepF (mCons (mVar 0) (mCons (mVar 2) (mCons (mVar 6) mNil)))))
    (mSeq (mSet 6 (mOp2 oIx (mVar 8) (mC (.int 0))))
    (mSeq (mSet 9 (mLst (mCons (mOpN oInt (mCons (mOp2 oNe (mVar 6) (mC (.str [105, 110]))) mNil)) (mCons (mOpN oInt (mCons (mOp2 oNe (mVar 6) (mC (.str [111, 117, 116]))) mNil)) mNil))))
    (mIfS (mAnd (mTest (mOp2 oLe (mOp2 oIx (mVar 9) (mC (.int 0))) (mOp2 oIx (mVar 5) (mC (.int 0))))) (mTest (mOp2 oLe (mOp2 oIx (mVar 9) (mC (.int 1))) (mOp2 oIx (mVar 5) (mC (.int 1)))))) (mSeq (mSet 5 (mLst (mCons (mOp2 oSub (mOp2 oIx (mVar 5) (mC (.int 0))) (mOp2 oIx (mVar 9) (mC (.int 0)))) (mCons (mOp2 oSub (mOp2 oIx (mVar 5) (mC (.int 1))) (mOp2 oIx (mVar 9) (mC (.int 1)))) mNil))))
    (mApp 4 (mVar 8))) mPass)))))
    (mRet (mOpN oTuple (mCons (mVar 4) mNil))))))))
def scrF : MF LS := mDef 10 3 scrM
def alphaM : MS LS := (mSeq (mSet 1 (mC (.str [97, 98, 99, 100, 101, 102, 103, 104, 105, 106, 107, 108, 109, 110, 111, 112, 113, 114, 115, 116, 117, 118, 119, 120, 121, 122])))
    (mSeq (mSet 2 (mCall drawF (mCons (mVar 0) (mCons (mC (.int 3)) mNil))))
    (mSeq (mSet 3 (mCall drawF (mCons (mVar 0) (mCons (mC (.int 26)) mNil))))
    (mSeq (mSet 4 (mOp2 oMod (mOp2 oAdd (mOp2 oAdd (mVar 3) (mC (.int 1))) (mCall drawF (mCons (mVar 0) (mCons (mC (.int 25)) mNil)))) (mC (.int 26))))
    (mSeq (mSet 5 (mCall drawF (mCons (mVar 0) (mCons (mC (.int 26)) mNil))))
    (mRet (mOp2 oIx (mLst (mCons (mVar 1) (mCons (mOp2 oAdd (mOp2 oIx (mVar 1) (mVar 3)) (mOp2 oIx (mVar 1) (mVar 4))) (mCons (mOp2 oAdd (mOp2 oAdd (mOp2 oIx (mVar 1) (mVar 3)) (mOp2 oIx (mVar 1) (mVar 4))) (mOp2 oIx (mVar 1) (mVar 5))) mNil)))) (mVar 2))))))))
def alphaF : MF LS := mDef 6 1 alphaM
def dueM (F : MF LS) : MS LS := (mSeq (mIfS (mTest (mOp1 (oIs .tuple) (mVar 1))) (mSeq (mIfS (mOr (mNot (mTest (mOp1 (oIs .tuple) (mVar 0)))) (mTest (mOp2 oNe (mOpN oLen (mCons (mVar 0) mNil)) (mOpN oLen (mCons (mVar 1) mNil))))) (mRet (mC (.bl false))) mPass)
    (mRet (mOpN oAll (mCons (mLc (mZip2 (mVar 0) (mVar 1)) (tgT [2, 3]) mYes (mCall F (mCons (mVar 2) (mCons (mVar 3) mNil))) [2, 3]) mNil)))) mPass)
    (mSeq (mIfS (mTest (mOp1 oIsN (mVar 1))) (mRet (mOp1 oIsN (mVar 0))) mPass)
    (mSeq (mIfS (mTest (mOp1 (oIs .str) (mVar 1))) (mRet (mAndV (mOp1 (oIs .str) (mVar 0)) (mOp2 oEq (mVar 0) (mVar 1)))) mPass)
    (mRet (mAndV (mOp1 (oIs .int) (mVar 0)) (mAndV (mOp2 oEq (mOp1 (oIs .bool) (mVar 0)) (mOp1 (oIs .bool) (mVar 1))) (mOp2 oEq (mVar 0) (mVar 1))))))))
def dueF : Nat → MF LS
  | 0 => fun _ _ => .no
  | n + 1 => mDef 4 2 (dueM (dueF n))
/-- what is due is found -/
theorem S_due {n : Nat} {s : LS} : ∀ {d : D} {Q : Rv → LS → Prop}, plainN n d = true → Q (.dat (.bl true)) s → Sat (dueF (n + 1) [d, d] s) Q := by
  induction n with
  | zero =>
    intro d Q h q
    cases d with
    | tup ds => cases h
    | lst ds => cases h
    | ref a => cases h
    | non => exact q
    | bl b => cases b <;> exact q
    | int i =>
      unfold dueF
      rw [S_def (k := 2) (ds := [.int i, .int i]) rfl]
      show Sat (dueM (dueF 0) [.dat (.int i), .dat (.int i), .un, .un] s) _
      unfold dueM
      simp only [S_var, S_C, S_op1, k1_, S_op2, k2_, k2b_, S_nil, S_cons, kc_, kcb_, S_opN, kN_, S_tup, S_lst, kT_u, kL_u, stoL_nil, stoL_dat, stoL_own, consO_some, SatO_some, S_call, kCall_u, S_if, S_ifS, kI_true, kI_false, S_andV, S_orV, kAndV_true, kAndV_false, kOrV_true, kOrV_false, S_test, kTest_, S_tru, kTru_, S_and, S_or, S_not, kAnd_true, kAnd_false, kOr_true, kOr_false, kNot_, S_seq, kS_nx, kS_rt, kS_bk, kS_ct, S_pass, S_set, kSet_dat, kSet_own, S_par, kP_, kPb_, S_ret', kR_, S_retN, S_break, S_cont, S_for, kF_, S_forNil, kFb_nx, kFb_ct, kFb_bk, kFb_rt, S_items, kItems_tup, kItems_lst, kItems_own, S_lc, kLc_, S_lcNil, S_yes, kD_rt, kD_nx, Rv.ret, gt, st, kVar_dat, kVar_own, o_add, o_sub, o_eq, o_ne, o_lt, o_le, o_gt, o_ge, o_eqB, o_neB, o_is2, o_isnot2, o_abs, o_ix, o_ixO, o_ixB, o_ixL, o_tupO, o_isBool, map_some', wp, tgN_, List.length_cons, List.length_nil, Nat.reduceAdd, Nat.reduceLeDiff, true_and, decide_true, decide_false, Bool.not_true, Bool.not_false, o_mul_u, o_div_u, o_mod_u, o_pow_u, o_eqS, o_neS, o_intB, o_lenS, o_lenO, o_lenB, o_iaddI, S_s1, kS1_, kS1b_, S_lm, kLm_bor, kLm_own, kLmb_, S_tab, o_ixT, o_ixS, S_put, kPut_, kPutK_, S_zip2, kZip_, kZipb_tup, o_sum, o_sumB, o_tupB, o_tupL, o_lenT, S_range1, kRng_3, S_tgtL, kTgtL_, List.nil_append, List.cons_append, Nat.reduceLT, SZ, forall_const, true_implies, oIs, isTy, oIsN, isNon, dB, Rv.val, beq_self_eq_true]
      exact q
    | str i =>
      unfold dueF
      rw [S_def (k := 2) (ds := [.str i, .str i]) rfl]
      show Sat (dueM (dueF 0) [.dat (.str i), .dat (.str i), .un, .un] s) _
      unfold dueM
      simp only [S_var, S_C, S_op1, k1_, S_op2, k2_, k2b_, S_nil, S_cons, kc_, kcb_, S_opN, kN_, S_tup, S_lst, kT_u, kL_u, stoL_nil, stoL_dat, stoL_own, consO_some, SatO_some, S_call, kCall_u, S_if, S_ifS, kI_true, kI_false, S_andV, S_orV, kAndV_true, kAndV_false, kOrV_true, kOrV_false, S_test, kTest_, S_tru, kTru_, S_and, S_or, S_not, kAnd_true, kAnd_false, kOr_true, kOr_false, kNot_, S_seq, kS_nx, kS_rt, kS_bk, kS_ct, S_pass, S_set, kSet_dat, kSet_own, S_par, kP_, kPb_, S_ret', kR_, S_retN, S_break, S_cont, S_for, kF_, S_forNil, kFb_nx, kFb_ct, kFb_bk, kFb_rt, S_items, kItems_tup, kItems_lst, kItems_own, S_lc, kLc_, S_lcNil, S_yes, kD_rt, kD_nx, Rv.ret, gt, st, kVar_dat, kVar_own, o_add, o_sub, o_eq, o_ne, o_lt, o_le, o_gt, o_ge, o_eqB, o_neB, o_is2, o_isnot2, o_abs, o_ix, o_ixO, o_ixB, o_ixL, o_tupO, o_isBool, map_some', wp, tgN_, List.length_cons, List.length_nil, Nat.reduceAdd, Nat.reduceLeDiff, true_and, decide_true, decide_false, Bool.not_true, Bool.not_false, o_mul_u, o_div_u, o_mod_u, o_pow_u, o_eqS, o_neS, o_intB, o_lenS, o_lenO, o_lenB, o_iaddI, S_s1, kS1_, kS1b_, S_lm, kLm_bor, kLm_own, kLmb_, S_tab, o_ixT, o_ixS, S_put, kPut_, kPutK_, S_zip2, kZip_, kZipb_tup, o_sum, o_sumB, o_tupB, o_tupL, o_lenT, S_range1, kRng_3, S_tgtL, kTgtL_, List.nil_append, List.cons_append, Nat.reduceLT, SZ, forall_const, true_implies, oIs, isTy, oIsN, isNon, dB, Rv.val]
      rw [beq_self_eq_true]
      exact q
  | succ n ih =>
    intro d Q h q
    cases d with
    | lst ds => cases h
    | ref a => cases h
    | non => exact q
    | bl b => cases b <;> exact q
    | int i =>
      unfold dueF
      rw [S_def (k := 2) (ds := [.int i, .int i]) rfl]
      show Sat (dueM (dueF (n + 1)) [.dat (.int i), .dat (.int i), .un, .un] s) _
      unfold dueM
      simp only [S_var, S_C, S_op1, k1_, S_op2, k2_, k2b_, S_nil, S_cons, kc_, kcb_, S_opN, kN_, S_tup, S_lst, kT_u, kL_u, stoL_nil, stoL_dat, stoL_own, consO_some, SatO_some, S_call, kCall_u, S_if, S_ifS, kI_true, kI_false, S_andV, S_orV, kAndV_true, kAndV_false, kOrV_true, kOrV_false, S_test, kTest_, S_tru, kTru_, S_and, S_or, S_not, kAnd_true, kAnd_false, kOr_true, kOr_false, kNot_, S_seq, kS_nx, kS_rt, kS_bk, kS_ct, S_pass, S_set, kSet_dat, kSet_own, S_par, kP_, kPb_, S_ret', kR_, S_retN, S_break, S_cont, S_for, kF_, S_forNil, kFb_nx, kFb_ct, kFb_bk, kFb_rt, S_items, kItems_tup, kItems_lst, kItems_own, S_lc, kLc_, S_lcNil, S_yes, kD_rt, kD_nx, Rv.ret, gt, st, kVar_dat, kVar_own, o_add, o_sub, o_eq, o_ne, o_lt, o_le, o_gt, o_ge, o_eqB, o_neB, o_is2, o_isnot2, o_abs, o_ix, o_ixO, o_ixB, o_ixL, o_tupO, o_isBool, map_some', wp, tgN_, List.length_cons, List.length_nil, Nat.reduceAdd, Nat.reduceLeDiff, true_and, decide_true, decide_false, Bool.not_true, Bool.not_false, o_mul_u, o_div_u, o_mod_u, o_pow_u, o_eqS, o_neS, o_intB, o_lenS, o_lenO, o_lenB, o_iaddI, S_s1, kS1_, kS1b_, S_lm, kLm_bor, kLm_own, kLmb_, S_tab, o_ixT, o_ixS, S_put, kPut_, kPutK_, S_zip2, kZip_, kZipb_tup, o_sum, o_sumB, o_tupB, o_tupL, o_lenT, S_range1, kRng_3, S_tgtL, kTgtL_, List.nil_append, List.cons_append, Nat.reduceLT, SZ, forall_const, true_implies, oIs, isTy, oIsN, isNon, dB, Rv.val, beq_self_eq_true]
      exact q
    | str i =>
      unfold dueF
      rw [S_def (k := 2) (ds := [.str i, .str i]) rfl]
      show Sat (dueM (dueF (n + 1)) [.dat (.str i), .dat (.str i), .un, .un] s) _
      unfold dueM
      simp only [S_var, S_C, S_op1, k1_, S_op2, k2_, k2b_, S_nil, S_cons, kc_, kcb_, S_opN, kN_, S_tup, S_lst, kT_u, kL_u, stoL_nil, stoL_dat, stoL_own, consO_some, SatO_some, S_call, kCall_u, S_if, S_ifS, kI_true, kI_false, S_andV, S_orV, kAndV_true, kAndV_false, kOrV_true, kOrV_false, S_test, kTest_, S_tru, kTru_, S_and, S_or, S_not, kAnd_true, kAnd_false, kOr_true, kOr_false, kNot_, S_seq, kS_nx, kS_rt, kS_bk, kS_ct, S_pass, S_set, kSet_dat, kSet_own, S_par, kP_, kPb_, S_ret', kR_, S_retN, S_break, S_cont, S_for, kF_, S_forNil, kFb_nx, kFb_ct, kFb_bk, kFb_rt, S_items, kItems_tup, kItems_lst, kItems_own, S_lc, kLc_, S_lcNil, S_yes, kD_rt, kD_nx, Rv.ret, gt, st, kVar_dat, kVar_own, o_add, o_sub, o_eq, o_ne, o_lt, o_le, o_gt, o_ge, o_eqB, o_neB, o_is2, o_isnot2, o_abs, o_ix, o_ixO, o_ixB, o_ixL, o_tupO, o_isBool, map_some', wp, tgN_, List.length_cons, List.length_nil, Nat.reduceAdd, Nat.reduceLeDiff, true_and, decide_true, decide_false, Bool.not_true, Bool.not_false, o_mul_u, o_div_u, o_mod_u, o_pow_u, o_eqS, o_neS, o_intB, o_lenS, o_lenO, o_lenB, o_iaddI, S_s1, kS1_, kS1b_, S_lm, kLm_bor, kLm_own, kLmb_, S_tab, o_ixT, o_ixS, S_put, kPut_, kPutK_, S_zip2, kZip_, kZipb_tup, o_sum, o_sumB, o_tupB, o_tupL, o_lenT, S_range1, kRng_3, S_tgtL, kTgtL_, List.nil_append, List.cons_append, Nat.reduceLT, SZ, forall_const, true_implies, oIs, isTy, oIsN, isNon, dB, Rv.val]
      rw [beq_self_eq_true]
      exact q
    | tup ds =>
      unfold plainN at h
      rw [Bool.and_eq_true] at h
      obtain ⟨h1, h2⟩ := h
      have h2 := of_decide_eq_true h2
      rw [dueF]
      rw [S_def (k := 2) (ds := [.tup ds, .tup ds]) rfl]
      show Sat (dueM (dueF (n + 1)) [.dat (.tup ds), .dat (.tup ds), .un, .un] s) _
      unfold dueM
      simp only [S_var, S_C, S_op1, k1_, S_op2, k2_, k2b_, S_nil, S_cons, kc_, kcb_, S_opN, kN_, S_tup, S_lst, kT_u, kL_u, stoL_nil, stoL_dat, stoL_own, consO_some, SatO_some, S_call, kCall_u, S_if, S_ifS, kI_true, kI_false, S_andV, S_orV, kAndV_true, kAndV_false, kOrV_true, kOrV_false, S_test, kTest_, S_tru, kTru_, S_and, S_or, S_not, kAnd_true, kAnd_false, kOr_true, kOr_false, kNot_, S_seq, kS_nx, kS_rt, kS_bk, kS_ct, S_pass, S_set, kSet_dat, kSet_own, S_par, kP_, kPb_, S_ret', kR_, S_retN, S_break, S_cont, S_for, kF_, S_forNil, kFb_nx, kFb_ct, kFb_bk, kFb_rt, S_items, kItems_tup, kItems_lst, kItems_own, S_lc, kLc_, S_lcNil, S_yes, kD_rt, kD_nx, Rv.ret, gt, st, kVar_dat, kVar_own, o_add, o_sub, o_eq, o_ne, o_lt, o_le, o_gt, o_ge, o_eqB, o_neB, o_is2, o_isnot2, o_abs, o_ix, o_ixO, o_ixB, o_ixL, o_tupO, o_isBool, map_some', wp, tgN_, List.length_cons, List.length_nil, Nat.reduceAdd, Nat.reduceLeDiff, true_and, decide_true, decide_false, Bool.not_true, Bool.not_false, o_mul_u, o_div_u, o_mod_u, o_pow_u, o_eqS, o_neS, o_intB, o_lenS, o_lenO, o_lenB, o_iaddI, S_s1, kS1_, kS1b_, S_lm, kLm_bor, kLm_own, kLmb_, S_tab, o_ixT, o_ixS, S_put, kPut_, kPutK_, S_zip2, kZip_, kZipb_tup, o_sum, o_sumB, o_tupB, o_tupL, o_lenT, S_range1, kRng_3, S_tgtL, kTgtL_, List.nil_append, List.cons_append, Nat.reduceLT, SZ, forall_const, true_implies, oIs, isTy, oIsN, isNon, dB, Rv.val]
      refine S_lcAll (Nat.le_trans zipD_len h2) (fun d hd => ?_) (fun m => ?_)
      · obtain ⟨x, hx, rfl⟩ := zipD_mem d hd
        refine ⟨_, rfl, ?_⟩
        simp only [S_var, S_C, S_op1, k1_, S_op2, k2_, k2b_, S_nil, S_cons, kc_, kcb_, S_opN, kN_, S_tup, S_lst, kT_u, kL_u, stoL_nil, stoL_dat, stoL_own, consO_some, SatO_some, S_call, kCall_u, S_if, S_ifS, kI_true, kI_false, S_andV, S_orV, kAndV_true, kAndV_false, kOrV_true, kOrV_false, S_test, kTest_, S_tru, kTru_, S_and, S_or, S_not, kAnd_true, kAnd_false, kOr_true, kOr_false, kNot_, S_seq, kS_nx, kS_rt, kS_bk, kS_ct, S_pass, S_set, kSet_dat, kSet_own, S_par, kP_, kPb_, S_ret', kR_, S_retN, S_break, S_cont, S_for, kF_, S_forNil, kFb_nx, kFb_ct, kFb_bk, kFb_rt, S_items, kItems_tup, kItems_lst, kItems_own, S_lc, kLc_, S_lcNil, S_yes, kD_rt, kD_nx, Rv.ret, gt, st, kVar_dat, kVar_own, o_add, o_sub, o_eq, o_ne, o_lt, o_le, o_gt, o_ge, o_eqB, o_neB, o_is2, o_isnot2, o_abs, o_ix, o_ixO, o_ixB, o_ixL, o_tupO, o_isBool, map_some', wp, tgN_, List.length_cons, List.length_nil, Nat.reduceAdd, Nat.reduceLeDiff, true_and, decide_true, decide_false, Bool.not_true, Bool.not_false, o_mul_u, o_div_u, o_mod_u, o_pow_u, o_eqS, o_neS, o_intB, o_lenS, o_lenO, o_lenB, o_iaddI, S_s1, kS1_, kS1b_, S_lm, kLm_bor, kLm_own, kLmb_, S_tab, o_ixT, o_ixS, S_put, kPut_, kPutK_, S_zip2, kZip_, kZipb_tup, o_sum, o_sumB, o_tupB, o_tupL, o_lenT, S_range1, kRng_3, S_tgtL, kTgtL_, List.nil_append, List.cons_append, Nat.reduceLT, SZ, forall_const, true_implies]
        exact ih (plainL_mem h1 x hx) ⟨rfl, rfl⟩
      · simp only [S_var, S_C, S_op1, k1_, S_op2, k2_, k2b_, S_nil, S_cons, kc_, kcb_, S_opN, kN_, S_tup, S_lst, kT_u, kL_u, stoL_nil, stoL_dat, stoL_own, consO_some, SatO_some, S_call, kCall_u, S_if, S_ifS, kI_true, kI_false, S_andV, S_orV, kAndV_true, kAndV_false, kOrV_true, kOrV_false, S_test, kTest_, S_tru, kTru_, S_and, S_or, S_not, kAnd_true, kAnd_false, kOr_true, kOr_false, kNot_, S_seq, kS_nx, kS_rt, kS_bk, kS_ct, S_pass, S_set, kSet_dat, kSet_own, S_par, kP_, kPb_, S_ret', kR_, S_retN, S_break, S_cont, S_for, kF_, S_forNil, kFb_nx, kFb_ct, kFb_bk, kFb_rt, S_items, kItems_tup, kItems_lst, kItems_own, S_lc, kLc_, S_lcNil, S_yes, kD_rt, kD_nx, Rv.ret, gt, st, kVar_dat, kVar_own, o_add, o_sub, o_eq, o_ne, o_lt, o_le, o_gt, o_ge, o_eqB, o_neB, o_is2, o_isnot2, o_abs, o_ix, o_ixO, o_ixB, o_ixL, o_tupO, o_isBool, map_some', wp, tgN_, List.length_cons, List.length_nil, Nat.reduceAdd, Nat.reduceLeDiff, true_and, decide_true, decide_false, Bool.not_true, Bool.not_false, o_mul_u, o_div_u, o_mod_u, o_pow_u, o_eqS, o_neS, o_intB, o_lenS, o_lenO, o_lenB, o_iaddI, S_s1, kS1_, kS1b_, S_lm, kLm_bor, kLm_own, kLmb_, S_tab, o_ixT, o_ixS, S_put, kPut_, kPutK_, S_zip2, kZip_, kZipb_tup, o_sum, o_sumB, o_tupB, o_tupL, o_lenT, S_range1, kRng_3, S_tgtL, kTgtL_, List.nil_append, List.cons_append, Nat.reduceLT, SZ, forall_const, true_implies, o_all_rep]
        exact q
/-- a sign of a text -/
theorem sign_at {L : List Nat} {k : Int} (h0 : 0 ≤ k) (h1 : k < L.length) : ∃ c, oIx (.dat (.str L)) (.dat (.int k)) = some (.dat (.str [c])) := by
  obtain ⟨c, _, e⟩ := atI_nat h0 h1
  exact ⟨c, by rw [o_ixS, e]; rfl⟩
theorem S_alphabet {a b : Nat} {s : LS} {Q : Rv → LS → Prop} (h : Bud a (b + 4) s) (q : ∀ (L : List Nat) (s' : LS), 0 < L.length → L.length ≤ 26 → Bud a b s' → Q (.dat (.str L)) s') : Sat (alphaF [.ref a] s) Q := by
  unfold alphaF
  rw [S_def (k := 1) (ds := [.ref a]) rfl]
  show Sat (alphaM [.dat (.ref a), .un, .un, .un, .un, .un] s) _
  unfold alphaM
  simp only [S_var, S_C, S_op1, k1_, S_op2, k2_, k2b_, S_nil, S_cons, kc_, kcb_, S_opN, kN_, S_tup, S_lst, kT_u, kL_u, stoL_nil, stoL_dat, stoL_own, consO_some, SatO_some, S_call, kCall_u, S_if, S_ifS, kI_true, kI_false, S_andV, S_orV, kAndV_true, kAndV_false, kOrV_true, kOrV_false, S_test, kTest_, S_tru, kTru_, S_and, S_or, S_not, kAnd_true, kAnd_false, kOr_true, kOr_false, kNot_, S_seq, kS_nx, kS_rt, kS_bk, kS_ct, S_pass, S_set, kSet_dat, kSet_own, S_par, kP_, kPb_, S_ret', kR_, S_retN, S_break, S_cont, S_for, kF_, S_forNil, kFb_nx, kFb_ct, kFb_bk, kFb_rt, S_items, kItems_tup, kItems_lst, kItems_own, S_lc, kLc_, S_lcNil, S_yes, kD_rt, kD_nx, Rv.ret, gt, st, kVar_dat, kVar_own, o_add, o_sub, o_eq, o_ne, o_lt, o_le, o_gt, o_ge, o_eqB, o_neB, o_is2, o_isnot2, o_abs, o_ix, o_ixO, o_ixB, o_ixL, o_tupO, o_isBool, map_some', wp, tgN_, List.length_cons, List.length_nil, Nat.reduceAdd, Nat.reduceLeDiff, true_and, decide_true, decide_false, Bool.not_true, Bool.not_false, o_mul_u, o_div_u, o_mod_u, o_pow_u, o_eqS, o_neS, o_intB, o_lenS, o_lenO, o_lenB, o_iaddI, S_s1, kS1_, kS1b_, S_lm, kLm_bor, kLm_own, kLmb_, S_tab, o_ixT, o_ixS, S_put, kPut_, kPutK_, S_zip2, kZip_, kZipb_tup, o_sum, o_sumB, o_tupB, o_tupL, o_lenT, S_range1, kRng_3, S_tgtL, kTgtL_, List.nil_append, List.cons_append, Nat.reduceLT, SZ, forall_const, true_implies]
  refine S_draw h (by decide) (by decide) fun wy s1 wy0 wy1 h1 => ?_
  simp only [S_var, S_C, S_op1, k1_, S_op2, k2_, k2b_, S_nil, S_cons, kc_, kcb_, S_opN, kN_, S_tup, S_lst, kT_u, kL_u, stoL_nil, stoL_dat, stoL_own, consO_some, SatO_some, S_call, kCall_u, S_if, S_ifS, kI_true, kI_false, S_andV, S_orV, kAndV_true, kAndV_false, kOrV_true, kOrV_false, S_test, kTest_, S_tru, kTru_, S_and, S_or, S_not, kAnd_true, kAnd_false, kOr_true, kOr_false, kNot_, S_seq, kS_nx, kS_rt, kS_bk, kS_ct, S_pass, S_set, kSet_dat, kSet_own, S_par, kP_, kPb_, S_ret', kR_, S_retN, S_break, S_cont, S_for, kF_, S_forNil, kFb_nx, kFb_ct, kFb_bk, kFb_rt, S_items, kItems_tup, kItems_lst, kItems_own, S_lc, kLc_, S_lcNil, S_yes, kD_rt, kD_nx, Rv.ret, gt, st, kVar_dat, kVar_own, o_add, o_sub, o_eq, o_ne, o_lt, o_le, o_gt, o_ge, o_eqB, o_neB, o_is2, o_isnot2, o_abs, o_ix, o_ixO, o_ixB, o_ixL, o_tupO, o_isBool, map_some', wp, tgN_, List.length_cons, List.length_nil, Nat.reduceAdd, Nat.reduceLeDiff, true_and, decide_true, decide_false, Bool.not_true, Bool.not_false, o_mul_u, o_div_u, o_mod_u, o_pow_u, o_eqS, o_neS, o_intB, o_lenS, o_lenO, o_lenB, o_iaddI, S_s1, kS1_, kS1b_, S_lm, kLm_bor, kLm_own, kLmb_, S_tab, o_ixT, o_ixS, S_put, kPut_, kPutK_, S_zip2, kZip_, kZipb_tup, o_sum, o_sumB, o_tupB, o_tupL, o_lenT, S_range1, kRng_3, S_tgtL, kTgtL_, List.nil_append, List.cons_append, Nat.reduceLT, SZ, forall_const, true_implies]
  refine S_draw h1 (by decide) (by decide) fun f s2 f0 f1 h2 => ?_
  simp only [S_var, S_C, S_op1, k1_, S_op2, k2_, k2b_, S_nil, S_cons, kc_, kcb_, S_opN, kN_, S_tup, S_lst, kT_u, kL_u, stoL_nil, stoL_dat, stoL_own, consO_some, SatO_some, S_call, kCall_u, S_if, S_ifS, kI_true, kI_false, S_andV, S_orV, kAndV_true, kAndV_false, kOrV_true, kOrV_false, S_test, kTest_, S_tru, kTru_, S_and, S_or, S_not, kAnd_true, kAnd_false, kOr_true, kOr_false, kNot_, S_seq, kS_nx, kS_rt, kS_bk, kS_ct, S_pass, S_set, kSet_dat, kSet_own, S_par, kP_, kPb_, S_ret', kR_, S_retN, S_break, S_cont, S_for, kF_, S_forNil, kFb_nx, kFb_ct, kFb_bk, kFb_rt, S_items, kItems_tup, kItems_lst, kItems_own, S_lc, kLc_, S_lcNil, S_yes, kD_rt, kD_nx, Rv.ret, gt, st, kVar_dat, kVar_own, o_add, o_sub, o_eq, o_ne, o_lt, o_le, o_gt, o_ge, o_eqB, o_neB, o_is2, o_isnot2, o_abs, o_ix, o_ixO, o_ixB, o_ixL, o_tupO, o_isBool, map_some', wp, tgN_, List.length_cons, List.length_nil, Nat.reduceAdd, Nat.reduceLeDiff, true_and, decide_true, decide_false, Bool.not_true, Bool.not_false, o_mul_u, o_div_u, o_mod_u, o_pow_u, o_eqS, o_neS, o_intB, o_lenS, o_lenO, o_lenB, o_iaddI, S_s1, kS1_, kS1b_, S_lm, kLm_bor, kLm_own, kLmb_, S_tab, o_ixT, o_ixS, S_put, kPut_, kPutK_, S_zip2, kZip_, kZipb_tup, o_sum, o_sumB, o_tupB, o_tupL, o_lenT, S_range1, kRng_3, S_tgtL, kTgtL_, List.nil_append, List.cons_append, Nat.reduceLT, SZ, forall_const, true_implies]
  refine S_draw h2 (by decide) (by decide) fun g s3 g0 g1 h3 => ?_
  simp only [S_var, S_C, S_op1, k1_, S_op2, k2_, k2b_, S_nil, S_cons, kc_, kcb_, S_opN, kN_, S_tup, S_lst, kT_u, kL_u, stoL_nil, stoL_dat, stoL_own, consO_some, SatO_some, S_call, kCall_u, S_if, S_ifS, kI_true, kI_false, S_andV, S_orV, kAndV_true, kAndV_false, kOrV_true, kOrV_false, S_test, kTest_, S_tru, kTru_, S_and, S_or, S_not, kAnd_true, kAnd_false, kOr_true, kOr_false, kNot_, S_seq, kS_nx, kS_rt, kS_bk, kS_ct, S_pass, S_set, kSet_dat, kSet_own, S_par, kP_, kPb_, S_ret', kR_, S_retN, S_break, S_cont, S_for, kF_, S_forNil, kFb_nx, kFb_ct, kFb_bk, kFb_rt, S_items, kItems_tup, kItems_lst, kItems_own, S_lc, kLc_, S_lcNil, S_yes, kD_rt, kD_nx, Rv.ret, gt, st, kVar_dat, kVar_own, o_add, o_sub, o_eq, o_ne, o_lt, o_le, o_gt, o_ge, o_eqB, o_neB, o_is2, o_isnot2, o_abs, o_ix, o_ixO, o_ixB, o_ixL, o_tupO, o_isBool, map_some', wp, tgN_, List.length_cons, List.length_nil, Nat.reduceAdd, Nat.reduceLeDiff, true_and, decide_true, decide_false, Bool.not_true, Bool.not_false, o_mul_u, o_div_u, o_mod_u, o_pow_u, o_eqS, o_neS, o_intB, o_lenS, o_lenO, o_lenB, o_iaddI, S_s1, kS1_, kS1b_, S_lm, kLm_bor, kLm_own, kLmb_, S_tab, o_ixT, o_ixS, S_put, kPut_, kPutK_, S_zip2, kZip_, kZipb_tup, o_sum, o_sumB, o_tupB, o_tupL, o_lenT, S_range1, kRng_3, S_tgtL, kTgtL_, List.nil_append, List.cons_append, Nat.reduceLT, SZ, forall_const, true_implies]
  refine ⟨by decide, ?_⟩
  refine S_draw h3 (by decide) (by decide) fun t s4 t0 t1 h4 => ?_
  have m0 := Int.emod_nonneg (f + 1 + g) (show (26 : Int) ≠ 0 by decide)
  have m1 := Int.emod_lt_of_pos (f + 1 + g) (show (0 : Int) < 26 by decide)
  generalize (f + 1 + g) % 26 = m at *
  obtain ⟨c1, e1⟩ := sign_at (L := [97, 98, 99, 100, 101, 102, 103, 104, 105, 106, 107, 108, 109, 110, 111, 112, 113, 114, 115, 116, 117, 118, 119, 120, 121, 122]) f0 f1
  obtain ⟨c2, e2⟩ := sign_at (L := [97, 98, 99, 100, 101, 102, 103, 104, 105, 106, 107, 108, 109, 110, 111, 112, 113, 114, 115, 116, 117, 118, 119, 120, 121, 122]) m0 m1
  obtain ⟨c3, e3⟩ := sign_at (L := [97, 98, 99, 100, 101, 102, 103, 104, 105, 106, 107, 108, 109, 110, 111, 112, 113, 114, 115, 116, 117, 118, 119, 120, 121, 122]) t0 t1
  have a1 : oAdd (.dat (.str [c1])) (.dat (.str [c2])) = some (.dat (.str [c1, c2])) := rfl
  have a2 : oAdd (.dat (.str [c1, c2])) (.dat (.str [c3])) = some (.dat (.str [c1, c2, c3])) := rfl
  rw [kSet_dat, kS_nx, S_ret', S_op2, S_lst, S_cons]
  simp only [st, S_op2, S_cons, S_nil, S_var, gt, kVar_dat, kc_, kcb_, k2_, k2b_, e1, e2, e3, a1, a2, SatO_some, kL_u, stoL_dat, stoL_nil, consO_some, List.length_cons, List.length_nil, Nat.reduceAdd, SZ, Nat.reduceLeDiff, true_and, o_ixO]
  rcases (by omega : wy = 0 ∨ wy = 1 ∨ wy = 2) with rfl | rfl | rfl
  · exact q _ s4 (by decide) (by decide) h4
  · exact q _ s4 (by show 0 < 2; decide) (by show 2 ≤ 26; decide) h4
  · exact q _ s4 (by show 0 < 3; decide) (by show 3 ≤ 26; decide) h4
def W4 (w : List Nat) : Prop := w = [107, 101, 101, 112] ∨ w = [111, 116, 104, 101, 114] ∨ w = [111, 117, 116] ∨ w = [105, 110]
theorem word_W4 (x : Mv) : W4 x.word := by
  cases x
  · exact .inl rfl
  · exact .inr (.inl rfl)
  · exact .inr (.inr (.inl rfl))
  · exact .inr (.inr (.inr rfl))
theorem S_stepTail {a : Nat} {L last w : List Nat} {ag wy : Int} {c e : Nat} {s : LS} {Q : Rv → LS → Prop} (hw : W4 w) (q : ∀ x : Mv, Q (.dat x.d) s) :
    Sat ((mSeq (mIfS (mAnd (mTest (mOp2 oEq (mVar 7) (mC (.str [111, 116, 104, 101, 114])))) (mTest (mOp2 oEq (mVar 5) (mVar 6)))) (mRet (mTup (mCons (mC (.str [107, 101, 101, 112])) (mCons (mVar 5) mNil)))) mPass)
    (mSeq (mIfS (mTest (mOp2 oEq (mVar 7) (mC (.str [111, 116, 104, 101, 114])))) (mRet (mTup (mCons (mC (.str [111, 116, 104, 101, 114])) (mCons (mVar 5) (mCons (mVar 6) mNil))))) mPass)
    (mRet (mTup (mCons (mVar 7) (mCons (mVar 5) mNil)))))) [.dat (.ref a), .dat (.str L), .dat (.str last), .dat (.int ag), .dat (.int wy), .dat (.str [c]), .dat (.str [e]), .dat (.str w)] s) (kD Q) := by
  rcases hw with rfl | rfl | rfl | rfl
  · exact q (.keep c)
  · rw [S_seq, S_ifS, S_and]
    simp only [S_test, S_op2, S_var, gt, kVar_dat, k2_, S_C, k2b_, o_eqS, SatO_some, kTest_, beq_self_eq_true, kAnd_true]
    refine kI_c (fun _ => ?_) (fun _ => ?_)
    · exact q (.keep c)
    · exact q (.oth c e)
  · exact q (.out c)
  · exact q (.inn c)
theorem S_step {a b : Nat} {L last : List Nat} {s : LS} {Q : Rv → LS → Prop} (h : Bud a (b + 4) s) (L0 : 0 < L.length) (L1 : L.length ≤ 26) (hl : last = [] ∨ W4 last) (q : ∀ (x : Mv) (s' : LS), Bud a b s' → Q (.dat x.d) s') : Sat (stepF [.ref a, .str L, .str last] s) Q := by
  have p90 : (26 : Int) ≤ 10 ^ 90 := by decide
  unfold stepF
  rw [S_def (k := 3) (ds := [.ref a, .str L, .str last]) rfl]
  show Sat (stepM [.dat (.ref a), .dat (.str L), .dat (.str last), .un, .un, .un, .un, .un] s) _
  unfold stepM
  simp only [S_var, S_C, S_op1, k1_, S_op2, k2_, k2b_, S_nil, S_cons, kc_, kcb_, S_opN, kN_, S_tup, S_lst, kT_u, kL_u, stoL_nil, stoL_dat, stoL_own, consO_some, SatO_some, S_call, kCall_u, S_if, S_ifS, kI_true, kI_false, S_andV, S_orV, kAndV_true, kAndV_false, kOrV_true, kOrV_false, S_test, kTest_, S_tru, kTru_, S_and, S_or, S_not, kAnd_true, kAnd_false, kOr_true, kOr_false, kNot_, S_seq, kS_nx, kS_rt, kS_bk, kS_ct, S_pass, S_set, kSet_dat, kSet_own, S_par, kP_, kPb_, S_ret', kR_, S_retN, S_break, S_cont, S_for, kF_, S_forNil, kFb_nx, kFb_ct, kFb_bk, kFb_rt, S_items, kItems_tup, kItems_lst, kItems_own, S_lc, kLc_, S_lcNil, S_yes, kD_rt, kD_nx, Rv.ret, gt, st, kVar_dat, kVar_own, o_add, o_sub, o_eq, o_ne, o_lt, o_le, o_gt, o_ge, o_eqB, o_neB, o_is2, o_isnot2, o_abs, o_ix, o_ixO, o_ixB, o_ixL, o_tupO, o_isBool, map_some', wp, tgN_, List.length_cons, List.length_nil, Nat.reduceAdd, Nat.reduceLeDiff, true_and, decide_true, decide_false, Bool.not_true, Bool.not_false, o_mul_u, o_div_u, o_mod_u, o_pow_u, o_eqS, o_neS, o_intB, o_lenS, o_lenO, o_lenB, o_iaddI, S_s1, kS1_, kS1b_, S_lm, kLm_bor, kLm_own, kLmb_, S_tab, o_ixT, o_ixS, S_put, kPut_, kPutK_, S_zip2, kZip_, kZipb_tup, o_sum, o_sumB, o_tupB, o_tupL, o_lenT, S_range1, kRng_3, S_tgtL, kTgtL_, List.nil_append, List.cons_append, Nat.reduceLT, SZ, forall_const, true_implies]
  refine S_draw h (by decide) (by decide) fun ag s1 ag0 ag1 h1 => ?_
  simp only [S_var, S_C, S_op1, k1_, S_op2, k2_, k2b_, S_nil, S_cons, kc_, kcb_, S_opN, kN_, S_tup, S_lst, kT_u, kL_u, stoL_nil, stoL_dat, stoL_own, consO_some, SatO_some, S_call, kCall_u, S_if, S_ifS, kI_true, kI_false, S_andV, S_orV, kAndV_true, kAndV_false, kOrV_true, kOrV_false, S_test, kTest_, S_tru, kTru_, S_and, S_or, S_not, kAnd_true, kAnd_false, kOr_true, kOr_false, kNot_, S_seq, kS_nx, kS_rt, kS_bk, kS_ct, S_pass, S_set, kSet_dat, kSet_own, S_par, kP_, kPb_, S_ret', kR_, S_retN, S_break, S_cont, S_for, kF_, S_forNil, kFb_nx, kFb_ct, kFb_bk, kFb_rt, S_items, kItems_tup, kItems_lst, kItems_own, S_lc, kLc_, S_lcNil, S_yes, kD_rt, kD_nx, Rv.ret, gt, st, kVar_dat, kVar_own, o_add, o_sub, o_eq, o_ne, o_lt, o_le, o_gt, o_ge, o_eqB, o_neB, o_is2, o_isnot2, o_abs, o_ix, o_ixO, o_ixB, o_ixL, o_tupO, o_isBool, map_some', wp, tgN_, List.length_cons, List.length_nil, Nat.reduceAdd, Nat.reduceLeDiff, true_and, decide_true, decide_false, Bool.not_true, Bool.not_false, o_mul_u, o_div_u, o_mod_u, o_pow_u, o_eqS, o_neS, o_intB, o_lenS, o_lenO, o_lenB, o_iaddI, S_s1, kS1_, kS1b_, S_lm, kLm_bor, kLm_own, kLmb_, S_tab, o_ixT, o_ixS, S_put, kPut_, kPutK_, S_zip2, kZip_, kZipb_tup, o_sum, o_sumB, o_tupB, o_tupL, o_lenT, S_range1, kRng_3, S_tgtL, kTgtL_, List.nil_append, List.cons_append, Nat.reduceLT, SZ, forall_const, true_implies]
  refine S_draw h1 (by decide) (by decide) fun wy s2 wy0 wy1 h2 => ?_
  simp only [S_var, S_C, S_op1, k1_, S_op2, k2_, k2b_, S_nil, S_cons, kc_, kcb_, S_opN, kN_, S_tup, S_lst, kT_u, kL_u, stoL_nil, stoL_dat, stoL_own, consO_some, SatO_some, S_call, kCall_u, S_if, S_ifS, kI_true, kI_false, S_andV, S_orV, kAndV_true, kAndV_false, kOrV_true, kOrV_false, S_test, kTest_, S_tru, kTru_, S_and, S_or, S_not, kAnd_true, kAnd_false, kOr_true, kOr_false, kNot_, S_seq, kS_nx, kS_rt, kS_bk, kS_ct, S_pass, S_set, kSet_dat, kSet_own, S_par, kP_, kPb_, S_ret', kR_, S_retN, S_break, S_cont, S_for, kF_, S_forNil, kFb_nx, kFb_ct, kFb_bk, kFb_rt, S_items, kItems_tup, kItems_lst, kItems_own, S_lc, kLc_, S_lcNil, S_yes, kD_rt, kD_nx, Rv.ret, gt, st, kVar_dat, kVar_own, o_add, o_sub, o_eq, o_ne, o_lt, o_le, o_gt, o_ge, o_eqB, o_neB, o_is2, o_isnot2, o_abs, o_ix, o_ixO, o_ixB, o_ixL, o_tupO, o_isBool, map_some', wp, tgN_, List.length_cons, List.length_nil, Nat.reduceAdd, Nat.reduceLeDiff, true_and, decide_true, decide_false, Bool.not_true, Bool.not_false, o_mul_u, o_div_u, o_mod_u, o_pow_u, o_eqS, o_neS, o_intB, o_lenS, o_lenO, o_lenB, o_iaddI, S_s1, kS1_, kS1b_, S_lm, kLm_bor, kLm_own, kLmb_, S_tab, o_ixT, o_ixS, S_put, kPut_, kPutK_, S_zip2, kZip_, kZipb_tup, o_sum, o_sumB, o_tupB, o_tupL, o_lenT, S_range1, kRng_3, S_tgtL, kTgtL_, List.nil_append, List.cons_append, Nat.reduceLT, SZ, forall_const, true_implies]
  refine S_draw h2 (by omega) (by omega) fun i s3 i0 i1 h3 => ?_
  obtain ⟨c, ec⟩ := sign_at i0 i1
  rw [k2b_, ec]
  simp only [S_var, S_C, S_op1, k1_, S_op2, k2_, k2b_, S_nil, S_cons, kc_, kcb_, S_opN, kN_, S_tup, S_lst, kT_u, kL_u, stoL_nil, stoL_dat, stoL_own, consO_some, SatO_some, S_call, kCall_u, S_if, S_ifS, kI_true, kI_false, S_andV, S_orV, kAndV_true, kAndV_false, kOrV_true, kOrV_false, S_test, kTest_, S_tru, kTru_, S_and, S_or, S_not, kAnd_true, kAnd_false, kOr_true, kOr_false, kNot_, S_seq, kS_nx, kS_rt, kS_bk, kS_ct, S_pass, S_set, kSet_dat, kSet_own, S_par, kP_, kPb_, S_ret', kR_, S_retN, S_break, S_cont, S_for, kF_, S_forNil, kFb_nx, kFb_ct, kFb_bk, kFb_rt, S_items, kItems_tup, kItems_lst, kItems_own, S_lc, kLc_, S_lcNil, S_yes, kD_rt, kD_nx, Rv.ret, gt, st, kVar_dat, kVar_own, o_add, o_sub, o_eq, o_ne, o_lt, o_le, o_gt, o_ge, o_eqB, o_neB, o_is2, o_isnot2, o_abs, o_ix, o_ixO, o_ixB, o_ixL, o_tupO, o_isBool, map_some', wp, tgN_, List.length_cons, List.length_nil, Nat.reduceAdd, Nat.reduceLeDiff, true_and, decide_true, decide_false, Bool.not_true, Bool.not_false, o_mul_u, o_div_u, o_mod_u, o_pow_u, o_eqS, o_neS, o_intB, o_lenS, o_lenO, o_lenB, o_iaddI, S_s1, kS1_, kS1b_, S_lm, kLm_bor, kLm_own, kLmb_, S_tab, o_ixT, o_ixS, S_put, kPut_, kPutK_, S_zip2, kZip_, kZipb_tup, o_sum, o_sumB, o_tupB, o_tupL, o_lenT, S_range1, kRng_3, S_tgtL, kTgtL_, List.nil_append, List.cons_append, Nat.reduceLT, SZ, forall_const, true_implies]
  refine S_draw h3 (by omega) (by omega) fun j s4 j0 j1 h4 => ?_
  obtain ⟨e, ee⟩ := sign_at j0 j1
  rw [k2b_, ee, SatO_some, kSet_dat, kS_nx]
  have hw : ∃ w, W4 w ∧ atI [D.str [107, 101, 101, 112], .str [111, 116, 104, 101, 114], .str [111, 117, 116], .str [105, 110]] wy = some (.str w) := by
    rcases (by omega : wy = 0 ∨ wy = 1 ∨ wy = 2 ∨ wy = 3) with rfl | rfl | rfl | rfl
    · exact ⟨_, .inl rfl, rfl⟩
    · exact ⟨_, .inr (.inl rfl), rfl⟩
    · exact ⟨_, .inr (.inr (.inl rfl)), rfl⟩
    · exact ⟨_, .inr (.inr (.inr rfl)), rfl⟩
  obtain ⟨w, hw, ew⟩ := hw
  rw [S_seq, S_set]
  simp only [st, S_op2, S_lst, S_cons, S_nil, S_C, S_var, gt, kVar_dat, kc_, kcb_, k2_, k2b_, SatO_some, kL_u, stoL_dat, stoL_nil, consO_some, List.length_cons, List.length_nil, Nat.reduceAdd, SZ, Nat.reduceLeDiff, true_and, o_ixO, ew, map_some', kSet_dat, kS_nx]
  rw [S_seq, S_ifS, S_and]
  simp only [S_test, S_op2, S_var, gt, kVar_dat, k2_, S_C, k2b_, o_eq, SatO_some, kTest_]
  by_cases hag : ag = 1
  · rw [decide_eq_true hag, kAnd_true]
    simp only [S_test, S_op2, S_var, gt, kVar_dat, k2_, S_C, k2b_, o_neS, SatO_some, kTest_]
    rcases hl with rfl | hl
    · exact S_stepTail hw fun x => q x s4 h4
    · have hne : (!(last == ([] : List Nat))) = true := by rcases hl with rfl | rfl | rfl | rfl <;> rfl
      rw [hne, kI_true, S_set, S_var]
      exact S_stepTail hl fun x => q x s4 h4
  · rw [decide_eq_false hag, kAnd_false, kI_false]
    exact S_stepTail hw fun x => q x s4 h4
theorem ix_pair {x y : Int} : oIx (.bor [D.int x, .int y]) (.dat (.int 0)) = some (.dat (.int x)) ∧ oIx (.bor [D.int x, .int y]) (.dat (.int 1)) = some (.dat (.int y)) := ⟨rfl, rfl⟩
theorem S_script {a b : Nat} {L : List Nat} {s : LS} {Q : Rv → LS → Prop} (h : Bud a (b + 101) s) (L0 : 0 < L.length) (L1 : L.length ≤ 26) (q : ∀ (ls : List Mv) (s' : LS), ls.length ≤ 24 → Bud a b s' → Q (.dat (script ls)) s') : Sat (scrF [.ref a, .int 12, .str L] s) Q := by
  unfold scrF
  rw [S_def (k := 3) (ds := [.ref a, .int 12, .str L]) rfl]
  show Sat (scrM [.dat (.ref a), .dat (.int 12), .dat (.str L), .un, .un, .un, .un, .un, .un, .un] s) _
  unfold scrM
  rw [S_seq, S_set]
  simp only [S_var, S_C, S_op1, k1_, S_op2, k2_, k2b_, S_nil, S_cons, kc_, kcb_, S_opN, kN_, S_tup, S_lst, kT_u, kL_u, stoL_nil, stoL_dat, stoL_own, consO_some, SatO_some, S_call, kCall_u, S_if, S_ifS, kI_true, kI_false, S_andV, S_orV, kAndV_true, kAndV_false, kOrV_true, kOrV_false, S_test, kTest_, S_tru, kTru_, S_and, S_or, S_not, kAnd_true, kAnd_false, kOr_true, kOr_false, kNot_, S_seq, kS_nx, kS_rt, kS_bk, kS_ct, S_pass, S_set, kSet_dat, kSet_own, S_par, kP_, kPb_, S_ret', kR_, S_retN, S_break, S_cont, S_for, kF_, S_forNil, kFb_nx, kFb_ct, kFb_bk, kFb_rt, S_items, kItems_tup, kItems_lst, kItems_own, S_lc, kLc_, S_lcNil, S_yes, kD_rt, kD_nx, Rv.ret, gt, st, kVar_dat, kVar_own, o_add, o_sub, o_eq, o_ne, o_lt, o_le, o_gt, o_ge, o_eqB, o_neB, o_is2, o_isnot2, o_abs, o_ix, o_ixO, o_ixB, o_ixL, o_tupO, o_isBool, map_some', wp, tgN_, List.length_cons, List.length_nil, Nat.reduceAdd, Nat.reduceLeDiff, true_and, decide_true, decide_false, Bool.not_true, Bool.not_false, o_mul_u, o_div_u, o_mod_u, o_pow_u, o_eqS, o_neS, o_intB, o_lenS, o_lenO, o_lenB, o_iaddI, S_s1, kS1_, kS1b_, S_lm, kLm_bor, kLm_own, kLmb_, S_tab, o_ixT, o_ixS, S_put, kPut_, kPutK_, S_zip2, kZip_, kZipb_tup, o_sum, o_sumB, o_tupB, o_tupL, o_lenT, S_range1, kRng_3, S_tgtL, kTgtL_, List.nil_append, List.cons_append, Nat.reduceLT, SZ, forall_const, true_implies]
  refine ⟨by decide, ?_⟩
  refine S_draw h (by decide) (by decide) fun n s1 n0 n1 h1 => ?_
  simp only [S_var, S_C, S_op1, k1_, S_op2, k2_, k2b_, S_nil, S_cons, kc_, kcb_, S_opN, kN_, S_tup, S_lst, kT_u, kL_u, stoL_nil, stoL_dat, stoL_own, consO_some, SatO_some, S_call, kCall_u, S_if, S_ifS, kI_true, kI_false, S_andV, S_orV, kAndV_true, kAndV_false, kOrV_true, kOrV_false, S_test, kTest_, S_tru, kTru_, S_and, S_or, S_not, kAnd_true, kAnd_false, kOr_true, kOr_false, kNot_, S_seq, kS_nx, kS_rt, kS_bk, kS_ct, S_pass, S_set, kSet_dat, kSet_own, S_par, kP_, kPb_, S_ret', kR_, S_retN, S_break, S_cont, S_for, kF_, S_forNil, kFb_nx, kFb_ct, kFb_bk, kFb_rt, S_items, kItems_tup, kItems_lst, kItems_own, S_lc, kLc_, S_lcNil, S_yes, kD_rt, kD_nx, Rv.ret, gt, st, kVar_dat, kVar_own, o_add, o_sub, o_eq, o_ne, o_lt, o_le, o_gt, o_ge, o_eqB, o_neB, o_is2, o_isnot2, o_abs, o_ix, o_ixO, o_ixB, o_ixL, o_tupO, o_isBool, map_some', wp, tgN_, List.length_cons, List.length_nil, Nat.reduceAdd, Nat.reduceLeDiff, true_and, decide_true, decide_false, Bool.not_true, Bool.not_false, o_mul_u, o_div_u, o_mod_u, o_pow_u, o_eqS, o_neS, o_intB, o_lenS, o_lenO, o_lenB, o_iaddI, S_s1, kS1_, kS1b_, S_lm, kLm_bor, kLm_own, kLmb_, S_tab, o_ixT, o_ixS, S_put, kPut_, kPutK_, S_zip2, kZip_, kZipb_tup, o_sum, o_sumB, o_tupB, o_tupL, o_lenT, S_range1, kRng_3, S_tgtL, kTgtL_, List.nil_append, List.cons_append, Nat.reduceLT, SZ, forall_const, true_implies, kRng_]
  have hn : n ≤ 24 := by
    have : n < 2 * 12 + 1 := n1
    omega
  obtain ⟨m, rfl⟩ : ∃ m : Nat, n = (m : Nat) := ⟨n.toNat, by omega⟩
  refine ⟨rng_ok (by omega), ?_⟩
  rw [Int.toNat_natCast, rng_map]
  refine S_forA (List.range m) (fun k => D.int (0 + (k : Nat))) (fun pre post e g => ∃ (ls : List Mv) (l0 l1 : Int) (last : List Nat) (x7 x8 x9 : Sl), ls.length ≤ pre.length ∧ (last = [] ∨ W4 last) ∧ e = [.dat (.ref a), .dat (.int 12), .dat (.str L), .dat (.int (m : Nat)), .own (ls.map Mv.d), .own [.int l0, .int l1], .dat (.str last), x7, x8, x9] ∧ Bud a (b + post.length * 4) g) ⟨[], 12, 12, [], _, _, _, Nat.le_refl 0, .inl rfl, rfl, h1.le (by rw [List.length_range]; omega)⟩ ?_ ?_
  · rintro pre k post e g hr ⟨ls, l0, l1, last, x7, x8, x9, hls, hlast, rfl, hB⟩
    refine ⟨_, rfl, ?_⟩
    rw [S_seq, S_set]
    simp only [st, S_call, S_cons, S_nil, S_var, gt, kVar_dat, kc_, kcb_, kCall_u, stoL_dat, stoL_nil, consO_some, SatO_some]
    refine S_step (b := b + post.length * 4) (hB.le (by rw [List.length_cons]; omega)) L0 L1 hlast fun x s' hB' => ?_
    have hlen : (pre ++ [k]).length = pre.length + 1 := by simp
    have hlm : (ls.map Mv.d).length < 16777216 := by
      have := (range_pre hr).2
      have h5 := (range_pre hr).1
      rw [List.length_map]
      omega
    have hap : ls.map Mv.d ++ [x.d] = (ls ++ [x]).map Mv.d := by simp
    rw [hlen]
    simp only [S_var, S_C, S_op1, k1_, S_op2, k2_, k2b_, S_nil, S_cons, kc_, kcb_, S_opN, kN_, S_tup, S_lst, kT_u, kL_u, stoL_nil, stoL_dat, stoL_own, consO_some, SatO_some, S_call, kCall_u, S_if, S_ifS, kI_true, kI_false, S_andV, S_orV, kAndV_true, kAndV_false, kOrV_true, kOrV_false, S_test, kTest_, S_tru, kTru_, S_and, S_or, S_not, kAnd_true, kAnd_false, kOr_true, kOr_false, kNot_, S_seq, kS_nx, kS_rt, kS_bk, kS_ct, S_pass, S_set, kSet_dat, kSet_own, S_par, kP_, kPb_, S_ret', kR_, S_retN, S_break, S_cont, S_for, kF_, S_forNil, kFb_nx, kFb_ct, kFb_bk, kFb_rt, S_items, kItems_tup, kItems_lst, kItems_own, S_lc, kLc_, S_lcNil, S_yes, kD_rt, kD_nx, Rv.ret, gt, st, kVar_dat, kVar_own, o_add, o_sub, o_eq, o_ne, o_lt, o_le, o_gt, o_ge, o_eqB, o_neB, o_is2, o_isnot2, o_abs, o_ix, o_ixO, o_ixB, o_ixL, o_tupO, o_isBool, map_some', wp, tgN_, List.length_cons, List.length_nil, Nat.reduceAdd, Nat.reduceLeDiff, true_and, decide_true, decide_false, Bool.not_true, Bool.not_false, o_mul_u, o_div_u, o_mod_u, o_pow_u, o_eqS, o_neS, o_intB, o_lenS, o_lenO, o_lenB, o_iaddI, S_s1, kS1_, kS1b_, S_lm, kLm_bor, kLm_own, kLmb_, S_tab, o_ixT, o_ixS, S_put, kPut_, kPutK_, S_zip2, kZip_, kZipb_tup, o_sum, o_sumB, o_tupB, o_tupL, o_lenT, S_range1, kRng_3, S_tgtL, kTgtL_, List.nil_append, List.cons_append, Nat.reduceLT, SZ, forall_const, true_implies, ix0]
    have hx := word_W4 x
    generalize (!(x.word == [105, 110])) = b1
    generalize (!(x.word == [111, 117, 116])) = b2
    generalize (if b1 = true then (1 : Int) else 0) = p0
    generalize (if b2 = true then (1 : Int) else 0) = p1
    simp only [S_var, S_C, S_op1, k1_, S_op2, k2_, k2b_, S_nil, S_cons, kc_, kcb_, S_opN, kN_, S_tup, S_lst, kT_u, kL_u, stoL_nil, stoL_dat, stoL_own, consO_some, SatO_some, S_call, kCall_u, S_if, S_ifS, kI_true, kI_false, S_andV, S_orV, kAndV_true, kAndV_false, kOrV_true, kOrV_false, S_test, kTest_, S_tru, kTru_, S_and, S_or, S_not, kAnd_true, kAnd_false, kOr_true, kOr_false, kNot_, S_seq, kS_nx, kS_rt, kS_bk, kS_ct, S_pass, S_set, kSet_dat, kSet_own, S_par, kP_, kPb_, S_ret', kR_, S_retN, S_break, S_cont, S_for, kF_, S_forNil, kFb_nx, kFb_ct, kFb_bk, kFb_rt, S_items, kItems_tup, kItems_lst, kItems_own, S_lc, kLc_, S_lcNil, S_yes, kD_rt, kD_nx, Rv.ret, gt, st, kVar_dat, kVar_own, o_add, o_sub, o_eq, o_ne, o_lt, o_le, o_gt, o_ge, o_eqB, o_neB, o_is2, o_isnot2, o_abs, o_ix, o_ixO, o_ixB, o_ixL, o_tupO, o_isBool, map_some', wp, tgN_, List.length_cons, List.length_nil, Nat.reduceAdd, Nat.reduceLeDiff, true_and, decide_true, decide_false, Bool.not_true, Bool.not_false, o_mul_u, o_div_u, o_mod_u, o_pow_u, o_eqS, o_neS, o_intB, o_lenS, o_lenO, o_lenB, o_iaddI, S_s1, kS1_, kS1b_, S_lm, kLm_bor, kLm_own, kLmb_, S_tab, o_ixT, o_ixS, S_put, kPut_, kPutK_, S_zip2, kZip_, kZipb_tup, o_sum, o_sumB, o_tupB, o_tupL, o_lenT, S_range1, kRng_3, S_tgtL, kTgtL_, List.nil_append, List.cons_append, Nat.reduceLT, SZ, forall_const, true_implies, a20, a21]
    have skip : ∀ x9 : Sl, ∃ (ls' : List Mv) (l0' l1' : Int) (last' : List Nat) (x7 x8 x9' : Sl), ls'.length ≤ pre.length + 1 ∧ (last' = [] ∨ W4 last') ∧ [Sl.dat (.ref a), .dat (.int 12), .dat (.str L), .dat (.int (m : Nat)), .own (ls.map Mv.d), .own [.int l0, .int l1], .dat (.str x.word), .dat (.int (0 + (k : Nat))), .dat x.d, x9] = [.dat (.ref a), .dat (.int 12), .dat (.str L), .dat (.int (m : Nat)), .own (ls'.map Mv.d), .own [.int l0', .int l1'], .dat (.str last'), x7, x8, x9'] ∧ Bud a (b + post.length * 4) s' :=
      fun x9 => ⟨ls, l0, l1, x.word, _, _, _, by omega, .inr hx, rfl, hB'⟩
    by_cases c1 : p0 ≤ l0
    · rw [decide_eq_true c1, kAnd_true]
      simp only [S_var, S_C, S_op1, k1_, S_op2, k2_, k2b_, S_nil, S_cons, kc_, kcb_, S_opN, kN_, S_tup, S_lst, kT_u, kL_u, stoL_nil, stoL_dat, stoL_own, consO_some, SatO_some, S_call, kCall_u, S_if, S_ifS, kI_true, kI_false, S_andV, S_orV, kAndV_true, kAndV_false, kOrV_true, kOrV_false, S_test, kTest_, S_tru, kTru_, S_and, S_or, S_not, kAnd_true, kAnd_false, kOr_true, kOr_false, kNot_, S_seq, kS_nx, kS_rt, kS_bk, kS_ct, S_pass, S_set, kSet_dat, kSet_own, S_par, kP_, kPb_, S_ret', kR_, S_retN, S_break, S_cont, S_for, kF_, S_forNil, kFb_nx, kFb_ct, kFb_bk, kFb_rt, S_items, kItems_tup, kItems_lst, kItems_own, S_lc, kLc_, S_lcNil, S_yes, kD_rt, kD_nx, Rv.ret, gt, st, kVar_dat, kVar_own, o_add, o_sub, o_eq, o_ne, o_lt, o_le, o_gt, o_ge, o_eqB, o_neB, o_is2, o_isnot2, o_abs, o_ix, o_ixO, o_ixB, o_ixL, o_tupO, o_isBool, map_some', wp, tgN_, List.length_cons, List.length_nil, Nat.reduceAdd, Nat.reduceLeDiff, true_and, decide_true, decide_false, Bool.not_true, Bool.not_false, o_mul_u, o_div_u, o_mod_u, o_pow_u, o_eqS, o_neS, o_intB, o_lenS, o_lenO, o_lenB, o_iaddI, S_s1, kS1_, kS1b_, S_lm, kLm_bor, kLm_own, kLmb_, S_tab, o_ixT, o_ixS, S_put, kPut_, kPutK_, S_zip2, kZip_, kZipb_tup, o_sum, o_sumB, o_tupB, o_tupL, o_lenT, S_range1, kRng_3, S_tgtL, kTgtL_, List.nil_append, List.cons_append, Nat.reduceLT, SZ, forall_const, true_implies, a20, a21]
      refine kI_d (fun _ => ?_) (fun _ => ?_)
      · simp only [S_var, S_C, S_op1, k1_, S_op2, k2_, k2b_, S_nil, S_cons, kc_, kcb_, S_opN, kN_, S_tup, S_lst, kT_u, kL_u, stoL_nil, stoL_dat, stoL_own, consO_some, SatO_some, S_call, kCall_u, S_if, S_ifS, kI_true, kI_false, S_andV, S_orV, kAndV_true, kAndV_false, kOrV_true, kOrV_false, S_test, kTest_, S_tru, kTru_, S_and, S_or, S_not, kAnd_true, kAnd_false, kOr_true, kOr_false, kNot_, S_seq, kS_nx, kS_rt, kS_bk, kS_ct, S_pass, S_set, kSet_dat, kSet_own, S_par, kP_, kPb_, S_ret', kR_, S_retN, S_break, S_cont, S_for, kF_, S_forNil, kFb_nx, kFb_ct, kFb_bk, kFb_rt, S_items, kItems_tup, kItems_lst, kItems_own, S_lc, kLc_, S_lcNil, S_yes, kD_rt, kD_nx, Rv.ret, gt, st, kVar_dat, kVar_own, o_add, o_sub, o_eq, o_ne, o_lt, o_le, o_gt, o_ge, o_eqB, o_neB, o_is2, o_isnot2, o_abs, o_ix, o_ixO, o_ixB, o_ixL, o_tupO, o_isBool, map_some', wp, tgN_, List.length_cons, List.length_nil, Nat.reduceAdd, Nat.reduceLeDiff, true_and, decide_true, decide_false, Bool.not_true, Bool.not_false, o_mul_u, o_div_u, o_mod_u, o_pow_u, o_eqS, o_neS, o_intB, o_lenS, o_lenO, o_lenB, o_iaddI, S_s1, kS1_, kS1b_, S_lm, kLm_bor, kLm_own, kLmb_, S_tab, o_ixT, o_ixS, S_put, kPut_, kPutK_, S_zip2, kZip_, kZipb_tup, o_sum, o_sumB, o_tupB, o_tupL, o_lenT, S_range1, kRng_3, S_tgtL, kTgtL_, List.nil_append, List.cons_append, Nat.reduceLT, SZ, forall_const, true_implies, a20, a21]
        rw [S_app rfl]
        simp only [S_var, S_C, S_op1, k1_, S_op2, k2_, k2b_, S_nil, S_cons, kc_, kcb_, S_opN, kN_, S_tup, S_lst, kT_u, kL_u, stoL_nil, stoL_dat, stoL_own, consO_some, SatO_some, S_call, kCall_u, S_if, S_ifS, kI_true, kI_false, S_andV, S_orV, kAndV_true, kAndV_false, kOrV_true, kOrV_false, S_test, kTest_, S_tru, kTru_, S_and, S_or, S_not, kAnd_true, kAnd_false, kOr_true, kOr_false, kNot_, S_seq, kS_nx, kS_rt, kS_bk, kS_ct, S_pass, S_set, kSet_dat, kSet_own, S_par, kP_, kPb_, S_ret', kR_, S_retN, S_break, S_cont, S_for, kF_, S_forNil, kFb_nx, kFb_ct, kFb_bk, kFb_rt, S_items, kItems_tup, kItems_lst, kItems_own, S_lc, kLc_, S_lcNil, S_yes, kD_rt, kD_nx, Rv.ret, gt, st, kVar_dat, kVar_own, o_add, o_sub, o_eq, o_ne, o_lt, o_le, o_gt, o_ge, o_eqB, o_neB, o_is2, o_isnot2, o_abs, o_ix, o_ixO, o_ixB, o_ixL, o_tupO, o_isBool, map_some', wp, tgN_, List.length_cons, List.length_nil, Nat.reduceAdd, Nat.reduceLeDiff, true_and, decide_true, decide_false, Bool.not_true, Bool.not_false, o_mul_u, o_div_u, o_mod_u, o_pow_u, o_eqS, o_neS, o_intB, o_lenS, o_lenO, o_lenB, o_iaddI, S_s1, kS1_, kS1b_, S_lm, kLm_bor, kLm_own, kLmb_, S_tab, o_ixT, o_ixS, S_put, kPut_, kPutK_, S_zip2, kZip_, kZipb_tup, o_sum, o_sumB, o_tupB, o_tupL, o_lenT, S_range1, kRng_3, S_tgtL, kTgtL_, List.nil_append, List.cons_append, Nat.reduceLT, SZ, forall_const, true_implies, kA_dat]
        refine ⟨hlm, ls ++ [x], l0 - p0, l1 - p1, x.word, _, _, _, by rw [List.length_append]; simp; omega, .inr hx, by rw [hap], hB'⟩
      · exact skip _
    · rw [decide_eq_false c1, kAnd_false, kI_false]
      exact skip _
  · rintro e g ⟨ls, l0, l1, last, x7, x8, x9, hls, hlast, rfl, hB⟩
    rw [List.length_range] at hls
    simp only [S_var, S_C, S_op1, k1_, S_op2, k2_, k2b_, S_nil, S_cons, kc_, kcb_, S_opN, kN_, S_tup, S_lst, kT_u, kL_u, stoL_nil, stoL_dat, stoL_own, consO_some, SatO_some, S_call, kCall_u, S_if, S_ifS, kI_true, kI_false, S_andV, S_orV, kAndV_true, kAndV_false, kOrV_true, kOrV_false, S_test, kTest_, S_tru, kTru_, S_and, S_or, S_not, kAnd_true, kAnd_false, kOr_true, kOr_false, kNot_, S_seq, kS_nx, kS_rt, kS_bk, kS_ct, S_pass, S_set, kSet_dat, kSet_own, S_par, kP_, kPb_, S_ret', kR_, S_retN, S_break, S_cont, S_for, kF_, S_forNil, kFb_nx, kFb_ct, kFb_bk, kFb_rt, S_items, kItems_tup, kItems_lst, kItems_own, S_lc, kLc_, S_lcNil, S_yes, kD_rt, kD_nx, Rv.ret, gt, st, kVar_dat, kVar_own, o_add, o_sub, o_eq, o_ne, o_lt, o_le, o_gt, o_ge, o_eqB, o_neB, o_is2, o_isnot2, o_abs, o_ix, o_ixO, o_ixB, o_ixL, o_tupO, o_isBool, map_some', wp, tgN_, List.length_cons, List.length_nil, Nat.reduceAdd, Nat.reduceLeDiff, true_and, decide_true, decide_false, Bool.not_true, Bool.not_false, o_mul_u, o_div_u, o_mod_u, o_pow_u, o_eqS, o_neS, o_intB, o_lenS, o_lenO, o_lenB, o_iaddI, S_s1, kS1_, kS1b_, S_lm, kLm_bor, kLm_own, kLmb_, S_tab, o_ixT, o_ixS, S_put, kPut_, kPutK_, S_zip2, kZip_, kZipb_tup, o_sum, o_sumB, o_tupB, o_tupL, o_lenT, S_range1, kRng_3, S_tgtL, kTgtL_, List.nil_append, List.cons_append, Nat.reduceLT, SZ, forall_const, true_implies]
    exact q ls g (by omega) (hB.le (by omega))
/-! ### a script read backwards -/
theorem mv_rev1 (f : Mv → List Nat) (hf : ∀ x, (f x).reverse = f x) (ls : List Mv) : ls.reverse.flatMap f = (ls.flatMap f).reverse := by
  induction ls with
  | nil => rfl
  | cons x xs ih =>
    rw [List.reverse_cons, List.flatMap_append, List.flatMap_cons, List.flatMap_nil, List.append_nil, List.flatMap_cons, List.reverse_append, ih, hf]
/-- runs of moves, told by their ends -/
def runs : List Int → Int
  | [] => 0
  | x :: r => (if 0 < x ∧ r.head? ≠ some x then 1 else 0) + runs r
theorem runs_snoc (x : Int) : ∀ l : List Int, runs (l ++ [x]) = runs l + (if 0 < x ∧ l.getLast? ≠ some x then 1 else 0)
  | [] => by simp [runs]
  | [y] => by
    simp only [List.cons_append, List.nil_append, runs, List.head?_cons, List.head?_nil, List.getLast?_singleton]
    by_cases e : x = y
    · subst e
      simp
    · have e' : ¬ y = x := fun z => e z.symm
      simp [e, e']
  | y :: z :: r => by
    have ih := runs_snoc x (z :: r)
    show (if 0 < y ∧ ((z :: r) ++ [x]).head? ≠ some y then 1 else 0) + runs ((z :: r) ++ [x]) = _
    rw [ih]
    have h1 : ((z :: r) ++ [x]).head? = (z :: r).head? := rfl
    have h2 : (y :: z :: r).getLast? = (z :: r).getLast? := by simp
    rw [h1, h2]
    show _ = (if 0 < y ∧ (z :: r).head? ≠ some y then 1 else 0) + runs (z :: r) + _
    omega
theorem runs_rev : ∀ l : List Int, runs l.reverse = runs l
  | [] => rfl
  | x :: r => by
    rw [List.reverse_cons, runs_snoc, runs_rev r, List.getLast?_reverse]
    show _ = (if 0 < x ∧ r.head? ≠ some x then 1 else 0) + runs r
    omega
theorem stretches_runs (ls : List Mv) : ∀ n, n ≤ ls.length → stretches ls n = runs ((ls.take n).map Mv.move)
  | 0, _ => rfl
  | n + 1, h => by
    have ih := stretches_runs ls n (by omega)
    have hn : ls[n]? = some ls[n] := List.getElem?_eq_getElem (by omega)
    show stretches ls n + begins ls n = _
    rw [ih, List.take_add_one, hn]
    show _ = runs ((ls.take n ++ [ls[n]]).map Mv.move)
    rw [List.map_append]
    show _ = runs ((ls.take n).map Mv.move ++ [ls[n].move])
    rw [runs_snoc]
    congr 1
    unfold begins
    rw [hn]
    dsimp only
    have hl : ((ls.take n).map Mv.move).getLast? = if n = 0 then none else (ls[n - 1]?).map Mv.move := by
      rw [List.getLast?_map, List.getLast?_eq_getElem?, List.length_take, Nat.min_eq_left (by omega)]
      by_cases h0 : n = 0
      · subst h0
        rfl
      · rw [if_neg h0, List.getElem?_take, if_pos (by omega)]
    rw [hl]
    by_cases h0 : n = 0
    · subst h0
      simp
    · rw [if_neg h0]
      congr 1
      simp [h0]
theorem stretches_rev (ls : List Mv) : stretches ls.reverse ls.reverse.length = stretches ls ls.length := by
  rw [stretches_runs _ _ (Nat.le_refl _), stretches_runs _ _ (Nat.le_refl _), List.take_length, List.take_length, List.map_reverse, runs_rev]
theorem counts_rev (ls : List Mv) : counts ls.reverse = counts ls := by
  unfold counts
  rw [stretches_rev]
  unfold nO nM
  rw [List.countP_reverse, List.countP_reverse]
end PB

set_option Elab.async false
set_option linter.all false
set_option maxRecDepth 10000
set_option exponentiation.threshold 2000
namespace PB
/-! ### equations from conditions; exceptions -/
theorem Sat.eq {γ α : Type} {r : Rs γ α} {a : α} {g : γ} (h : ∀ Q : α → γ → Prop, Q a g → Sat r Q) : r = .ok a g := by
  have k := h (fun b k => b = a ∧ k = g) ⟨rfl, rfl⟩
  cases r with
  | ok b k' =>
    obtain ⟨rfl, rfl⟩ := k
    rfl
  | ex x g => exact k.elim
  | no => exact k.elim
section
variable {γ : Type} {g : γ} {F : MF γ} {Q : Rv → γ → Prop} {xs : List Rv} {e : Env} {as : MA γ} {es : List D}
def kCallD (F : MF γ) (es : List D) (Q : Rv → γ → Prop) (xs : List Rv) (g : γ) : Prop := SatO (stoL xs) (fun ds g => Sat (F (ds ++ es) g) Q) g
theorem S_callD : Sat (mCallD F as es e g) Q = Sat (as e g) (kCallD F es Q) := by
  unfold mCallD
  rw [Sat_bind]
  congr 1
  funext xs g
  unfold kCallD
  cases stoL xs with
  | some ds => exact Sat_okO _ _
  | none => rfl
theorem kCallD_ : kCallD F es Q xs g = SatO (stoL xs) (fun ds g => Sat (F (ds ++ es) g) Q) g := rfl
theorem is_tt {ds : List D} : oIs .tuple (.dat (.tup ds)) = some (.dat (.bl true)) := rfl
theorem is_ti {i : Int} : oIs .tuple (.dat (.int i)) = some (.dat (.bl false)) := rfl
theorem is_ts {i : List Nat} : oIs .tuple (.dat (.str i)) = some (.dat (.bl false)) := rfl
theorem is_ii {i : Int} : oIs .int (.dat (.int i)) = some (.dat (.bl true)) := rfl
theorem is_ss {i : List Nat} : oIs .str (.dat (.str i)) = some (.dat (.bl true)) := rfl
theorem is_bi {i : Int} : oIs .bool (.dat (.int i)) = some (.dat (.bl false)) := rfl
/-- what is known of a call -/
theorem Sat_is {r : Rs γ Rv} {v : Rv} {g : γ} (h : r = .ok v g) (q : Q v g) : Sat r Q := by
  rw [h]
  exact q
end
/-! ### the greatest number that divides all of some -/
def gcdL : List Int → Nat → Nat
  | [], g => g
  | n :: r, g => gcdL r (Nat.gcd g n.natAbs)
theorem gcdL_app (l m : List Int) : ∀ g, gcdL (l ++ m) g = gcdL m (gcdL l g) := by
  induction l with
  | nil => intro g; rfl
  | cons n r ih => intro g; exact ih _
theorem gcdL_lt {b : Nat} {l : List Int} : ∀ {g}, g < b → (∀ n ∈ l, n.natAbs < b) → gcdL l g < b := by
  induction l with
  | nil => intro g h _; exact h
  | cons n r ih =>
    intro g h hl
    refine ih ?_ fun m hm => hl m (by simp [hm])
    have hn := hl n (by simp)
    by_cases h0 : n.natAbs = 0
    · rw [h0, Nat.gcd_zero_right]
      exact h
    · exact Nat.lt_of_le_of_lt (Nat.gcd_le_right _ (by omega)) hn
theorem gcdL_dvd {l : List Int} : ∀ {g}, gcdL l g ∣ g ∧ ∀ n ∈ l, ((gcdL l g : Nat) : Int) ∣ n := by
  induction l with
  | nil => intro g; exact ⟨Nat.dvd_refl _, fun n hn => by cases hn⟩
  | cons m r ih =>
    intro g
    obtain ⟨h1, h2⟩ := ih (g := Nat.gcd g m.natAbs)
    refine ⟨Nat.dvd_trans h1 (Nat.gcd_dvd_left _ _), fun n hn => ?_⟩
    rcases List.mem_cons.mp hn with rfl | hn
    · exact Int.ofNat_dvd_left.mpr (Nat.dvd_trans h1 (Nat.gcd_dvd_right _ _))
    · exact h2 n hn
theorem gcdL_pos {l : List Int} : ∀ {g}, (0 < g ∨ ∃ n ∈ l, n ≠ 0) → 0 < gcdL l g := by
  induction l with
  | nil => intro g h; exact h.elim id fun ⟨n, hn, _⟩ => by cases hn
  | cons m r ih =>
    intro g h
    refine ih ?_
    by_cases h0 : 0 < Nat.gcd g m.natAbs
    · exact .inl h0
    · refine .inr ?_
      have hz : Nat.gcd g m.natAbs = 0 := by omega
      obtain ⟨g0, m0⟩ := Nat.gcd_eq_zero_iff.mp hz
      rcases h with h | ⟨n, hn, hne⟩
      · omega
      · rcases List.mem_cons.mp hn with rfl | hn
        · omega
        · exact ⟨n, hn, hne⟩
def intDs (ns : List Int) : List D := ns.map D.int
theorem S_lowestN {ns : List Int} {d : D} {s : LS} {Q : Rv → LS → Prop} (hd : d = .tup (intDs ns) ∨ d = .lst (intDs ns)) (hb : ∀ n ∈ ns, n.natAbs < 2 ^ 1000) (h0 : 0 < gcdL ns 0) (hl : ns.length ≤ 1000) (q : Q (.dat (.tup (intDs (ns.map fun n => n / (gcdL ns 0 : Nat))))) s) : Sat (lowestF [d] s) Q := by
  unfold lowestF
  rw [S_def (k := 1) (ds := [d]) rfl]
  show Sat (lowestM [.dat d, .un, .un] s) _
  unfold lowestM
  simp only [S_var, S_C, S_op1, k1_, S_op2, k2_, k2b_, S_nil, S_cons, kc_, kcb_, S_opN, kN_, S_tup, S_lst, kT_u, kL_u, stoL_nil, stoL_dat, stoL_own, consO_some, SatO_some, S_call, kCall_u, S_if, S_ifS, kI_true, kI_false, S_andV, S_orV, kAndV_true, kAndV_false, kOrV_true, kOrV_false, S_test, kTest_, S_tru, kTru_, S_and, S_or, S_not, kAnd_true, kAnd_false, kOr_true, kOr_false, kNot_, S_seq, kS_nx, kS_rt, kS_bk, kS_ct, S_pass, S_set, kSet_dat, kSet_own, S_par, kP_, kPb_, S_ret', kR_, S_retN, S_break, S_cont, S_for, kF_, S_forNil, kFb_nx, kFb_ct, kFb_bk, kFb_rt, S_items, kItems_tup, kItems_lst, kItems_own, S_lc, kLc_, S_lcNil, S_yes, kD_rt, kD_nx, Rv.ret, gt, st, kVar_dat, kVar_own, o_add, o_sub, o_eq, o_ne, o_lt, o_le, o_gt, o_ge, o_eqB, o_neB, o_is2, o_isnot2, o_abs, o_ix, o_ixO, o_ixB, o_ixL, o_tupO, o_isBool, map_some', wp, tgN_, List.length_cons, List.length_nil, Nat.reduceAdd, Nat.reduceLeDiff, true_and, decide_true, decide_false, Bool.not_true, Bool.not_false, o_mul_u, o_div_u, o_mod_u, o_pow_u, o_eqS, o_neS, o_intB, o_lenS, o_lenO, o_lenB, o_iaddI, S_s1, kS1_, kS1b_, S_lm, kLm_bor, kLm_own, kLmb_, S_tab, o_ixT, o_ixS, S_put, kPut_, kPutK_, S_zip2, kZip_, kZipb_tup, o_sum, o_sumB, o_tupB, o_tupL, o_lenT, S_range1, kRng_3, S_tgtL, kTgtL_, List.nil_append, List.cons_append, Nat.reduceLT, SZ, forall_const, true_implies]
  have it : ∀ {QI : List D → LS → Prop} {g : LS}, kItems QI (.dat d) g = QI (intDs ns) g := by
    rcases hd with rfl | rfl
    · intros; rfl
    · intros; rfl
  rw [it]
  unfold intDs
  refine S_forA ns D.int (fun pre _ e g => ∃ x, e = [.dat d, .dat (.int ((gcdL pre 0 : Nat) : Int)), x] ∧ g = s) ⟨_, rfl, rfl⟩ ?_ ?_
  · rintro pre x post e g hns ⟨y, rfl, rfl⟩
    refine ⟨_, rfl, ?_⟩
    have hpre : gcdL pre 0 < 2 ^ 1000 := gcdL_lt (by decide) fun n hn => hb n (by rw [hns]; simp [hn])
    simp only [S_var, S_C, S_op1, k1_, S_op2, k2_, k2b_, S_nil, S_cons, kc_, kcb_, S_opN, kN_, S_tup, S_lst, kT_u, kL_u, stoL_nil, stoL_dat, stoL_own, consO_some, SatO_some, S_call, kCall_u, S_if, S_ifS, kI_true, kI_false, S_andV, S_orV, kAndV_true, kAndV_false, kOrV_true, kOrV_false, S_test, kTest_, S_tru, kTru_, S_and, S_or, S_not, kAnd_true, kAnd_false, kOr_true, kOr_false, kNot_, S_seq, kS_nx, kS_rt, kS_bk, kS_ct, S_pass, S_set, kSet_dat, kSet_own, S_par, kP_, kPb_, S_ret', kR_, S_retN, S_break, S_cont, S_for, kF_, S_forNil, kFb_nx, kFb_ct, kFb_bk, kFb_rt, S_items, kItems_tup, kItems_lst, kItems_own, S_lc, kLc_, S_lcNil, S_yes, kD_rt, kD_nx, Rv.ret, gt, st, kVar_dat, kVar_own, o_add, o_sub, o_eq, o_ne, o_lt, o_le, o_gt, o_ge, o_eqB, o_neB, o_is2, o_isnot2, o_abs, o_ix, o_ixO, o_ixB, o_ixL, o_tupO, o_isBool, map_some', wp, tgN_, List.length_cons, List.length_nil, Nat.reduceAdd, Nat.reduceLeDiff, true_and, decide_true, decide_false, Bool.not_true, Bool.not_false, o_mul_u, o_div_u, o_mod_u, o_pow_u, o_eqS, o_neS, o_intB, o_lenS, o_lenO, o_lenB, o_iaddI, S_s1, kS1_, kS1b_, S_lm, kLm_bor, kLm_own, kLmb_, S_tab, o_ixT, o_ixS, S_put, kPut_, kPutK_, S_zip2, kZip_, kZipb_tup, o_sum, o_sumB, o_tupB, o_tupL, o_lenT, S_range1, kRng_3, S_tgtL, kTgtL_, List.nil_append, List.cons_append, Nat.reduceLT, SZ, forall_const, true_implies]
    refine S_shared (by rw [Int.natAbs_natCast]; exact hpre) (hb x (by rw [hns]; simp)) ?_
    rw [Int.natAbs_natCast]
    simp only [S_var, S_C, S_op1, k1_, S_op2, k2_, k2b_, S_nil, S_cons, kc_, kcb_, S_opN, kN_, S_tup, S_lst, kT_u, kL_u, stoL_nil, stoL_dat, stoL_own, consO_some, SatO_some, S_call, kCall_u, S_if, S_ifS, kI_true, kI_false, S_andV, S_orV, kAndV_true, kAndV_false, kOrV_true, kOrV_false, S_test, kTest_, S_tru, kTru_, S_and, S_or, S_not, kAnd_true, kAnd_false, kOr_true, kOr_false, kNot_, S_seq, kS_nx, kS_rt, kS_bk, kS_ct, S_pass, S_set, kSet_dat, kSet_own, S_par, kP_, kPb_, S_ret', kR_, S_retN, S_break, S_cont, S_for, kF_, S_forNil, kFb_nx, kFb_ct, kFb_bk, kFb_rt, S_items, kItems_tup, kItems_lst, kItems_own, S_lc, kLc_, S_lcNil, S_yes, kD_rt, kD_nx, Rv.ret, gt, st, kVar_dat, kVar_own, o_add, o_sub, o_eq, o_ne, o_lt, o_le, o_gt, o_ge, o_eqB, o_neB, o_is2, o_isnot2, o_abs, o_ix, o_ixO, o_ixB, o_ixL, o_tupO, o_isBool, map_some', wp, tgN_, List.length_cons, List.length_nil, Nat.reduceAdd, Nat.reduceLeDiff, true_and, decide_true, decide_false, Bool.not_true, Bool.not_false, o_mul_u, o_div_u, o_mod_u, o_pow_u, o_eqS, o_neS, o_intB, o_lenS, o_lenO, o_lenB, o_iaddI, S_s1, kS1_, kS1b_, S_lm, kLm_bor, kLm_own, kLmb_, S_tab, o_ixT, o_ixS, S_put, kPut_, kPutK_, S_zip2, kZip_, kZipb_tup, o_sum, o_sumB, o_tupB, o_tupL, o_lenT, S_range1, kRng_3, S_tgtL, kTgtL_, List.nil_append, List.cons_append, Nat.reduceLT, SZ, forall_const, true_implies]
    rw [gcdL_app]
    exact ⟨_, rfl, trivial⟩
  · rintro e g ⟨y, rfl, rfl⟩
    have hg : gcdL ns 0 < 2 ^ 1000 := gcdL_lt (by decide) hb
    have dv : DivOk ((gcdL ns 0 : Nat) : Int) := divOk (b := 1000) (by omega) (by rw [Int.natAbs_natCast]; exact hg) (by decide) (by decide)
    simp only [S_var, S_C, S_op1, k1_, S_op2, k2_, k2b_, S_nil, S_cons, kc_, kcb_, S_opN, kN_, S_tup, S_lst, kT_u, kL_u, stoL_nil, stoL_dat, stoL_own, consO_some, SatO_some, S_call, kCall_u, S_if, S_ifS, kI_true, kI_false, S_andV, S_orV, kAndV_true, kAndV_false, kOrV_true, kOrV_false, S_test, kTest_, S_tru, kTru_, S_and, S_or, S_not, kAnd_true, kAnd_false, kOr_true, kOr_false, kNot_, S_seq, kS_nx, kS_rt, kS_bk, kS_ct, S_pass, S_set, kSet_dat, kSet_own, S_par, kP_, kPb_, S_ret', kR_, S_retN, S_break, S_cont, S_for, kF_, S_forNil, kFb_nx, kFb_ct, kFb_bk, kFb_rt, S_items, kItems_tup, kItems_lst, kItems_own, S_lc, kLc_, S_lcNil, S_yes, kD_rt, kD_nx, Rv.ret, gt, st, kVar_dat, kVar_own, o_add, o_sub, o_eq, o_ne, o_lt, o_le, o_gt, o_ge, o_eqB, o_neB, o_is2, o_isnot2, o_abs, o_ix, o_ixO, o_ixB, o_ixL, o_tupO, o_isBool, map_some', wp, tgN_, List.length_cons, List.length_nil, Nat.reduceAdd, Nat.reduceLeDiff, true_and, decide_true, decide_false, Bool.not_true, Bool.not_false, o_mul_u, o_div_u, o_mod_u, o_pow_u, o_eqS, o_neS, o_intB, o_lenS, o_lenO, o_lenB, o_iaddI, S_s1, kS1_, kS1b_, S_lm, kLm_bor, kLm_own, kLmb_, S_tab, o_ixT, o_ixS, S_put, kPut_, kPutK_, S_zip2, kZip_, kZipb_tup, o_sum, o_sumB, o_tupB, o_tupL, o_lenT, S_range1, kRng_3, S_tgtL, kTgtL_, List.nil_append, List.cons_append, Nat.reduceLT, SZ, forall_const, true_implies, it]
    refine S_lcA ns D.int (fun n => D.int (n / (gcdL ns 0 : Nat))) (by show _ ≤ 16777216; omega) (fun x _ => ⟨_, rfl, ?_⟩) ?_
    · simp only [S_var, S_C, S_op1, k1_, S_op2, k2_, k2b_, S_nil, S_cons, kc_, kcb_, S_opN, kN_, S_tup, S_lst, kT_u, kL_u, stoL_nil, stoL_dat, stoL_own, consO_some, SatO_some, S_call, kCall_u, S_if, S_ifS, kI_true, kI_false, S_andV, S_orV, kAndV_true, kAndV_false, kOrV_true, kOrV_false, S_test, kTest_, S_tru, kTru_, S_and, S_or, S_not, kAnd_true, kAnd_false, kOr_true, kOr_false, kNot_, S_seq, kS_nx, kS_rt, kS_bk, kS_ct, S_pass, S_set, kSet_dat, kSet_own, S_par, kP_, kPb_, S_ret', kR_, S_retN, S_break, S_cont, S_for, kF_, S_forNil, kFb_nx, kFb_ct, kFb_bk, kFb_rt, S_items, kItems_tup, kItems_lst, kItems_own, S_lc, kLc_, S_lcNil, S_yes, kD_rt, kD_nx, Rv.ret, gt, st, kVar_dat, kVar_own, o_add, o_sub, o_eq, o_ne, o_lt, o_le, o_gt, o_ge, o_eqB, o_neB, o_is2, o_isnot2, o_abs, o_ix, o_ixO, o_ixB, o_ixL, o_tupO, o_isBool, map_some', wp, tgN_, List.length_cons, List.length_nil, Nat.reduceAdd, Nat.reduceLeDiff, true_and, decide_true, decide_false, Bool.not_true, Bool.not_false, o_mul_u, o_div_u, o_mod_u, o_pow_u, o_eqS, o_neS, o_intB, o_lenS, o_lenO, o_lenB, o_iaddI, S_s1, kS1_, kS1b_, S_lm, kLm_bor, kLm_own, kLmb_, S_tab, o_ixT, o_ixS, S_put, kPut_, kPutK_, S_zip2, kZip_, kZipb_tup, o_sum, o_sumB, o_tupB, o_tupL, o_lenT, S_range1, kRng_3, S_tgtL, kTgtL_, List.nil_append, List.cons_append, Nat.reduceLT, SZ, forall_const, true_implies]
      exact ⟨dv, rfl, trivial⟩
    · simp only [S_var, S_C, S_op1, k1_, S_op2, k2_, k2b_, S_nil, S_cons, kc_, kcb_, S_opN, kN_, S_tup, S_lst, kT_u, kL_u, stoL_nil, stoL_dat, stoL_own, consO_some, SatO_some, S_call, kCall_u, S_if, S_ifS, kI_true, kI_false, S_andV, S_orV, kAndV_true, kAndV_false, kOrV_true, kOrV_false, S_test, kTest_, S_tru, kTru_, S_and, S_or, S_not, kAnd_true, kAnd_false, kOr_true, kOr_false, kNot_, S_seq, kS_nx, kS_rt, kS_bk, kS_ct, S_pass, S_set, kSet_dat, kSet_own, S_par, kP_, kPb_, S_ret', kR_, S_retN, S_break, S_cont, S_for, kF_, S_forNil, kFb_nx, kFb_ct, kFb_bk, kFb_rt, S_items, kItems_tup, kItems_lst, kItems_own, S_lc, kLc_, S_lcNil, S_yes, kD_rt, kD_nx, Rv.ret, gt, st, kVar_dat, kVar_own, o_add, o_sub, o_eq, o_ne, o_lt, o_le, o_gt, o_ge, o_eqB, o_neB, o_is2, o_isnot2, o_abs, o_ix, o_ixO, o_ixB, o_ixL, o_tupO, o_isBool, map_some', wp, tgN_, List.length_cons, List.length_nil, Nat.reduceAdd, Nat.reduceLeDiff, true_and, decide_true, decide_false, Bool.not_true, Bool.not_false, o_mul_u, o_div_u, o_mod_u, o_pow_u, o_eqS, o_neS, o_intB, o_lenS, o_lenO, o_lenB, o_iaddI, S_s1, kS1_, kS1b_, S_lm, kLm_bor, kLm_own, kLmb_, S_tab, o_ixT, o_ixS, S_put, kPut_, kPutK_, S_zip2, kZip_, kZipb_tup, o_sum, o_sumB, o_tupB, o_tupL, o_lenT, S_range1, kRng_3, S_tgtL, kTgtL_, List.nil_append, List.cons_append, Nat.reduceLT, SZ, forall_const, true_implies]
      unfold intDs at q
      rw [List.map_map] at q
      exact q
/-! ### fractions -/
def frac (t b : Int) : Int × Int := if b < 0 then ((-t) / (Nat.gcd t.natAbs b.natAbs : Nat), (-b) / (Nat.gcd t.natAbs b.natAbs : Nat)) else (t / (Nat.gcd t.natAbs b.natAbs : Nat), b / (Nat.gcd t.natAbs b.natAbs : Nat))
theorem frac_low {t b : Int} (hb : b ≠ 0) {n : Nat} (h1 : t.natAbs < 2 ^ n) (h2 : b.natAbs < 2 ^ n) : Low n (frac t b).1 (frac t b).2 := by
  unfold frac
  by_cases h : b < 0
  · rw [if_pos h]
    have := low_div (n := n) (p := -t) (q := -b) (by omega) (by rw [Int.natAbs_neg]; exact h1) (by rw [Int.natAbs_neg]; exact h2)
    rw [Int.natAbs_neg, Int.natAbs_neg] at this
    exact this
  · rw [if_neg h]
    exact low_div (by omega) h1 h2
theorem mul_div_swap {p q : Int} {g : Nat} (h1 : (g : Int) ∣ p) (h2 : (g : Int) ∣ q) : p / (g : Int) * q = p * (q / (g : Int)) := by
  obtain ⟨u, rfl⟩ := h1
  obtain ⟨v, rfl⟩ := h2
  by_cases hg : (g : Int) = 0
  · simp [hg]
  · rw [Int.mul_ediv_cancel_left _ hg, Int.mul_ediv_cancel_left _ hg]
    simp only [Int.mul_comm, Int.mul_left_comm]
theorem frac_eq {t b : Int} : (frac t b).1 * b = t * (frac t b).2 := by
  have d1 : ((Nat.gcd t.natAbs b.natAbs : Nat) : Int) ∣ t := Int.ofNat_dvd_left.mpr (Nat.gcd_dvd_left _ _)
  have d2 : ((Nat.gcd t.natAbs b.natAbs : Nat) : Int) ∣ b := Int.ofNat_dvd_left.mpr (Nat.gcd_dvd_right _ _)
  unfold frac
  by_cases h : b < 0
  · rw [if_pos h]
    have := mul_div_swap (Int.dvd_neg.mpr d1) (Int.dvd_neg.mpr d2)
    simp only [Int.mul_neg, Int.neg_mul] at this
    show (-t) / _ * b = t * ((-b) / _)
    omega
  · rw [if_neg h]
    exact mul_div_swap d1 d2
def fracXM : MS LS := (mSeq (mIfS (mTest (mOp2 oEq (mVar 1) (mC (.int 0)))) (mRaise 3) mPass)
    (mSeq (mIfS (mTest (mOp2 oLt (mVar 1) (mC (.int 0)))) (mRet (mCall lowestF (mCons (mTup (mCons (mOp1 oNeg (mVar 0)) (mCons (mOp1 oNeg (mVar 1)) mNil))) mNil))) mPass)
    (mRet (mCall lowestF (mCons (mTup (mCons (mVar 0) (mCons (mVar 1) mNil))) mNil)))))
def fracX : MF LS := mDef 2 2 fracXM
def fracNM : MS LS := (mSeq (mIfS (mTest (mOp2 oEq (mVar 1) (mC (.int 0)))) mNev mPass)
    (mSeq (mIfS (mTest (mOp2 oLt (mVar 1) (mC (.int 0)))) (mRet (mCall lowestF (mCons (mTup (mCons (mOp1 oNeg (mVar 0)) (mCons (mOp1 oNeg (mVar 1)) mNil))) mNil))) mPass)
    (mRet (mCall lowestF (mCons (mTup (mCons (mVar 0) (mCons (mVar 1) mNil))) mNil)))))
def fracN : MF LS := mDef 2 2 fracNM
theorem S_fracTail {t b : Int} {s : LS} {Q : Rv → LS → Prop} (hb : b ≠ 0) (h1 : t.natAbs < 2 ^ 1000) (h2 : b.natAbs < 2 ^ 1000) (q : Q (.dat (fr (frac t b).1 (frac t b).2)) s) :
    Sat ((mSeq (mIfS (mTest (mOp2 oLt (mVar 1) (mC (.int 0)))) (mRet (mCall lowestF (mCons (mTup (mCons (mOp1 oNeg (mVar 0)) (mCons (mOp1 oNeg (mVar 1)) mNil))) mNil))) mPass)
    (mRet (mCall lowestF (mCons (mTup (mCons (mVar 0) (mCons (mVar 1) mNil))) mNil)))) [.dat (.int t), .dat (.int b)] s) (kD Q) := by
  have g2 : gcdL [t, b] 0 = Nat.gcd t.natAbs b.natAbs := by
    show Nat.gcd (Nat.gcd 0 t.natAbs) b.natAbs = _
    rw [Nat.gcd_zero_left]
  have gn : gcdL [-t, -b] 0 = Nat.gcd t.natAbs b.natAbs := by
    show Nat.gcd (Nat.gcd 0 (-t).natAbs) (-b).natAbs = _
    rw [Nat.gcd_zero_left, Int.natAbs_neg, Int.natAbs_neg]
  have gp : 0 < Nat.gcd t.natAbs b.natAbs := Nat.gcd_pos_of_pos_right _ (by omega)
  have on : ∀ i : Int, oNeg (.dat (.int i)) = some (.dat (.int (-i))) := fun i => rfl
  rw [S_seq, S_ifS, S_test]
  simp only [S_op2, S_var, gt, kVar_dat, k2_, S_C, k2b_, o_lt, SatO_some, kTest_]
  unfold frac at q
  by_cases h : b < 0
  · rw [if_pos h] at q
    rw [decide_eq_true h]
    simp only [S_var, S_C, S_op1, k1_, S_op2, k2_, k2b_, S_nil, S_cons, kc_, kcb_, S_opN, kN_, S_tup, S_lst, kT_u, kL_u, stoL_nil, stoL_dat, stoL_own, consO_some, SatO_some, S_call, kCall_u, S_if, S_ifS, kI_true, kI_false, S_andV, S_orV, kAndV_true, kAndV_false, kOrV_true, kOrV_false, S_test, kTest_, S_tru, kTru_, S_and, S_or, S_not, kAnd_true, kAnd_false, kOr_true, kOr_false, kNot_, S_seq, kS_nx, kS_rt, kS_bk, kS_ct, S_pass, S_set, kSet_dat, kSet_own, S_par, kP_, kPb_, S_ret', kR_, S_retN, S_break, S_cont, S_for, kF_, S_forNil, kFb_nx, kFb_ct, kFb_bk, kFb_rt, S_items, kItems_tup, kItems_lst, kItems_own, S_lc, kLc_, S_lcNil, S_yes, kD_rt, kD_nx, Rv.ret, gt, st, kVar_dat, kVar_own, o_add, o_sub, o_eq, o_ne, o_lt, o_le, o_gt, o_ge, o_eqB, o_neB, o_is2, o_isnot2, o_abs, o_ix, o_ixO, o_ixB, o_ixL, o_tupO, o_isBool, map_some', wp, tgN_, List.length_cons, List.length_nil, Nat.reduceAdd, Nat.reduceLeDiff, true_and, decide_true, decide_false, Bool.not_true, Bool.not_false, o_mul_u, o_div_u, o_mod_u, o_pow_u, o_eqS, o_neS, o_intB, o_lenS, o_lenO, o_lenB, o_iaddI, S_s1, kS1_, kS1b_, S_lm, kLm_bor, kLm_own, kLmb_, S_tab, o_ixT, o_ixS, S_put, kPut_, kPutK_, S_zip2, kZip_, kZipb_tup, o_sum, o_sumB, o_tupB, o_tupL, o_lenT, S_range1, kRng_3, S_tgtL, kTgtL_, List.nil_append, List.cons_append, Nat.reduceLT, SZ, forall_const, true_implies, on]
    refine S_lowestN (ns := [-t, -b]) (.inl rfl) (fun n hn => ?_) (by rw [gn]; exact gp) (by show 2 ≤ 1000; decide) ?_
    · rcases List.mem_cons.mp hn with rfl | hn
      · rw [Int.natAbs_neg]; exact h1
      · rcases List.mem_cons.mp hn with rfl | hn
        · rw [Int.natAbs_neg]; exact h2
        · cases hn
    · rw [gn]
      exact q
  · rw [if_neg h] at q
    rw [decide_eq_false h]
    simp only [S_var, S_C, S_op1, k1_, S_op2, k2_, k2b_, S_nil, S_cons, kc_, kcb_, S_opN, kN_, S_tup, S_lst, kT_u, kL_u, stoL_nil, stoL_dat, stoL_own, consO_some, SatO_some, S_call, kCall_u, S_if, S_ifS, kI_true, kI_false, S_andV, S_orV, kAndV_true, kAndV_false, kOrV_true, kOrV_false, S_test, kTest_, S_tru, kTru_, S_and, S_or, S_not, kAnd_true, kAnd_false, kOr_true, kOr_false, kNot_, S_seq, kS_nx, kS_rt, kS_bk, kS_ct, S_pass, S_set, kSet_dat, kSet_own, S_par, kP_, kPb_, S_ret', kR_, S_retN, S_break, S_cont, S_for, kF_, S_forNil, kFb_nx, kFb_ct, kFb_bk, kFb_rt, S_items, kItems_tup, kItems_lst, kItems_own, S_lc, kLc_, S_lcNil, S_yes, kD_rt, kD_nx, Rv.ret, gt, st, kVar_dat, kVar_own, o_add, o_sub, o_eq, o_ne, o_lt, o_le, o_gt, o_ge, o_eqB, o_neB, o_is2, o_isnot2, o_abs, o_ix, o_ixO, o_ixB, o_ixL, o_tupO, o_isBool, map_some', wp, tgN_, List.length_cons, List.length_nil, Nat.reduceAdd, Nat.reduceLeDiff, true_and, decide_true, decide_false, Bool.not_true, Bool.not_false, o_mul_u, o_div_u, o_mod_u, o_pow_u, o_eqS, o_neS, o_intB, o_lenS, o_lenO, o_lenB, o_iaddI, S_s1, kS1_, kS1b_, S_lm, kLm_bor, kLm_own, kLmb_, S_tab, o_ixT, o_ixS, S_put, kPut_, kPutK_, S_zip2, kZip_, kZipb_tup, o_sum, o_sumB, o_tupB, o_tupL, o_lenT, S_range1, kRng_3, S_tgtL, kTgtL_, List.nil_append, List.cons_append, Nat.reduceLT, SZ, forall_const, true_implies, on]
    refine S_lowestN (ns := [t, b]) (.inl rfl) (fun n hn => ?_) (by rw [g2]; exact gp) (by show 2 ≤ 1000; decide) ?_
    · rcases List.mem_cons.mp hn with rfl | hn
      · exact h1
      · rcases List.mem_cons.mp hn with rfl | hn
        · exact h2
        · cases hn
    · rw [g2]
      exact q
theorem S_fracN {t b : Int} {s : LS} {Q : Rv → LS → Prop} (hb : b ≠ 0) (h1 : t.natAbs < 2 ^ 1000) (h2 : b.natAbs < 2 ^ 1000) (q : Q (.dat (fr (frac t b).1 (frac t b).2)) s) : Sat (fracN [.int t, .int b] s) Q := by
  unfold fracN
  rw [S_def (k := 2) (ds := [.int t, .int b]) rfl]
  show Sat (fracNM [.dat (.int t), .dat (.int b)] s) _
  unfold fracNM
  rw [S_seq, S_ifS, S_test]
  simp only [S_op2, S_var, gt, kVar_dat, k2_, S_C, k2b_, o_eq, SatO_some, kTest_]
  rw [decide_eq_false hb, kI_false, S_pass, kS_nx]
  exact S_fracTail hb h1 h2 q
theorem S_fracX {t b : Int} {s : LS} {Q : Rv → LS → Prop} (hb : b ≠ 0) (h1 : t.natAbs < 2 ^ 1000) (h2 : b.natAbs < 2 ^ 1000) (q : Q (.dat (fr (frac t b).1 (frac t b).2)) s) : Sat (fracX [.int t, .int b] s) Q := by
  unfold fracX
  rw [S_def (k := 2) (ds := [.int t, .int b]) rfl]
  show Sat (fracXM [.dat (.int t), .dat (.int b)] s) _
  unfold fracXM
  rw [S_seq, S_ifS, S_test]
  simp only [S_op2, S_var, gt, kVar_dat, k2_, S_C, k2b_, o_eq, SatO_some, kTest_]
  rw [decide_eq_false hb, kI_false, S_pass, kS_nx]
  exact S_fracTail hb h1 h2 q
theorem fracX_ok {t b : Int} {s : LS} (hb : b ≠ 0) (h1 : t.natAbs < 2 ^ 1000) (h2 : b.natAbs < 2 ^ 1000) : fracX [.int t, .int b] s = .ok (.dat (fr (frac t b).1 (frac t b).2)) s := Sat.eq fun _ q => S_fracX hb h1 h2 q
theorem fracX_no {t : Int} {s : LS} : fracX [.int t, .int 0] s = .ex ⟨3, none⟩ s := rfl
theorem fracN_ok {t b : Int} {s : LS} (hb : b ≠ 0) (h1 : t.natAbs < 2 ^ 1000) (h2 : b.natAbs < 2 ^ 1000) : fracN [.int t, .int b] s = .ok (.dat (fr (frac t b).1 (frac t b).2)) s := Sat.eq fun _ q => S_fracN hb h1 h2 q
theorem mulLt {a b : Nat} {x y : Int} (hx : x.natAbs < 2 ^ a) (hy : y.natAbs < 2 ^ b) : (x * y).natAbs < 2 ^ (a + b) := by
  rw [Int.natAbs_mul, Nat.pow_add]
  exact Nat.mul_lt_mul'' hx hy
theorem addLt {a : Nat} {x y : Int} (hx : x.natAbs < 2 ^ a) (hy : y.natAbs < 2 ^ a) : (x + y).natAbs < 2 ^ (a + 1) := by
  rw [Nat.pow_succ]
  omega
theorem subLt {a : Nat} {x y : Int} (hx : x.natAbs < 2 ^ a) (hy : y.natAbs < 2 ^ a) : (x - y).natAbs < 2 ^ (a + 1) := by
  rw [Nat.pow_succ]
  omega
theorem ltUp {a b : Nat} {x : Int} (hx : x.natAbs < 2 ^ a) (h : a ≤ b) : x.natAbs < 2 ^ b := Nat.lt_of_lt_of_le hx (Nat.pow_le_pow_right (by decide) h)
/-- the classes that a refusal is of -/
def kindsD (k : Nat) : D := .tup (((List.range 13).map fun i => .bl (decide (i + 1 = k))) ++ [.bl true])
abbrev wTold : List Nat := [116, 111, 108, 100]
abbrev wRef : List Nat := [114, 101, 102, 117, 115, 101, 100]
end PB

set_option Elab.async false
set_option linter.all false
set_option maxRecDepth 10000
set_option exponentiation.threshold 2000
namespace PB
/-! ### what is drawn by several laws: prices, fractions; sums of three products -/
/-- a fraction -/
def frD (f : Int × Int) : D := fr f.1 f.2
theorem fracN_D {t b : Int} {s : LS} (hb : b ≠ 0) (h1 : t.natAbs < 2 ^ 1000) (h2 : b.natAbs < 2 ^ 1000) : fracN [.int t, .int b] s = .ok (.dat (frD (frac t b))) s := fracN_ok hb h1 h2
theorem frac_is {N M p q : Int} {n : Nat} (hM : M ≠ 0) (h : N * q = p * M) (l : Low n p q) (h1 : N.natAbs < 2 ^ n) (h2 : M.natAbs < 2 ^ n) : frac N M = (p, q) := by
  have k := frac_low hM h1 h2
  have e := frac_eq (t := N) (b := M)
  have key : (frac N M).1 * q = p * (frac N M).2 := by
    apply Int.eq_of_mul_eq_mul_left hM
    calc M * ((frac N M).1 * q) = (frac N M).1 * M * q := by rw [Int.mul_comm ((frac N M).1) M, Int.mul_assoc]
      _ = N * (frac N M).2 * q := by rw [e]
      _ = N * q * (frac N M).2 := by rw [Int.mul_assoc, Int.mul_comm (frac N M).2, ← Int.mul_assoc]
      _ = p * M * (frac N M).2 := by rw [h]
      _ = M * (p * (frac N M).2) := by rw [Int.mul_comm p M, Int.mul_assoc]
  obtain ⟨a, b⟩ := low_eq k l key
  exact Prod.ext a b
theorem lowest2 {x y : Int} {s : LS} (hy : y ≠ 0) (h1 : x.natAbs < 2 ^ 1000) (h2 : y.natAbs < 2 ^ 1000) : lowestF [.lst [.int x, .int y]] s = .ok (.dat (.tup [.int (x / (Nat.gcd x.natAbs y.natAbs : Nat)), .int (y / (Nat.gcd x.natAbs y.natAbs : Nat))])) s := by
  have g2 : gcdL [x, y] 0 = Nat.gcd x.natAbs y.natAbs := by
    show Nat.gcd (Nat.gcd 0 x.natAbs) y.natAbs = _
    rw [Nat.gcd_zero_left]
  refine Sat.eq fun Q q => S_lowestN (ns := [x, y]) (.inr rfl) (fun n hn => ?_) (by rw [g2]; exact Nat.gcd_pos_of_pos_right _ (by omega)) (by show 2 ≤ 1000; decide) ?_
  · rcases List.mem_cons.mp hn with rfl | hn
    · exact h1
    · rcases List.mem_cons.mp hn with rfl | hn
      · exact h2
      · cases hn
  · rw [g2]
    exact q
theorem due_ok {d : D} {s : LS} (h : plainN 9 d = true) : dueF 10 [d, d] s = .ok (.dat (.bl true)) s := Sat.eq fun Q q => S_due (n := 9) h q
def priceM : MS LS := (mSeq (mSet 1 (mOp2 oIx (mLst (mCons (mC (.int 4)) (mCons (mC (.int 13)) (mCons (mC (.int 100)) (mCons (mOp2 oPow (mC (.int 10)) (mC (.int 39))) mNil))))) (mCall drawF (mCons (mVar 0) (mCons (mC (.int 4)) mNil)))))
    (mSeq (mSet 2 (mLc (mRange1 (mC (.int 3))) (tgN 3) mYes (mCall drawF (mCons (mVar 0) (mCons (mVar 1) mNil))) [3]))
    (mSeq (mIfS (mTest (mOp2 oEq (mCall drawF (mCons (mVar 0) (mCons (mC (.int 4)) mNil))) (mC (.int 0)))) (mPut 2 (mCall drawF (mCons (mVar 0) (mCons (mC (.int 3)) mNil))) (mC (.int 0))) mPass)
    (mSeq (mIfS (mTest (mOp2 oEq (mOpN oSum (mCons (mVar 2) mNil)) (mC (.int 0)))) (mPut 2 (mCall drawF (mCons (mVar 0) (mCons (mC (.int 3)) mNil))) (mOp2 oAdd (mC (.int 1)) (mCall drawF (mCons (mVar 0) (mCons (mC (.int 9)) mNil))))) mPass)
    (mRet (mOpN oTuple (mCons (mVar 2) mNil)))))))
def priceF : MF LS := mDef 4 1 (priceM)
def draftM : MS LS := (mSeq (mSet 2 (mCall drawF (mCons (mVar 0) (mCons (mC (.int 2)) mNil))))
    (mSeq (mSet 3 (mCall drawF (mCons (mVar 0) (mCons (mC (.int 5)) mNil))))
    (mSeq (mSet 4 (mCall drawF (mCons (mVar 0) (mCons (mVar 1) mNil))))
    (mSeq (mSet 5 (mOp2 oAdd (mC (.int 1)) (mCall drawF (mCons (mVar 0) (mCons (mVar 1) mNil)))))
    (mSeq (mIfS (mTest (mOp2 oEq (mVar 3) (mC (.int 0)))) (mSet 4 (mC (.int 0))) mPass)
    (mSeq (mIfS (mTest (mOp2 oEq (mVar 3) (mC (.int 1)))) (mSet 5 (mC (.int 1))) mPass)
    (mSeq (mIfS (mTest (mOp2 oEq (mVar 3) (mC (.int 2)))) (mSeq (mSet 4 (mOp2 oMod (mVar 4) (mC (.int 12))))
    (mSet 5 (mOp2 oAdd (mC (.int 1)) (mOp2 oMod (mVar 5) (mC (.int 12)))))) mPass)
    (mRet (mCall lowestF (mCons (mLst (mCons (mOp2 oMul (mVar 4) (mOp2 oSub (mC (.int 1)) (mOp2 oMul (mC (.int 2)) (mVar 2)))) (mCons (mVar 5) mNil))) mNil))))))))))
def draftF : MF LS := mDef 6 2 (draftM)
theorem S_draft {a b : Nat} {n : Int} {s : LS} {Q : Rv → LS → Prop} (h : Bud a (b + 4) s) (n0 : 0 < n) (n1 : n ≤ 10 ^ 39) (k : ∀ (p q : Int) (s' : LS), Low 133 p q → Bud a b s' → Q (.dat (.tup [.int p, .int q])) s') : Sat (draftF [.ref a, .int n] s) Q := by
  unfold draftF
  rw [S_def (k := 2) (ds := [.ref a, .int n]) rfl]
  show Sat (draftM [.dat (.ref a), .dat (.int n), .un, .un, .un, .un] s) _
  unfold draftM
  have nb : (10 : Int) ^ 39 ≤ 10 ^ 90 := by decide
  have nc : (10 : Int) ^ 39 < 2 ^ 130 := by decide
  simp only [S_var, S_C, S_op1, k1_, S_op2, k2_, k2b_, S_nil, S_cons, kc_, kcb_, S_opN, kN_, S_tup, S_lst, kT_u, kL_u, stoL_nil, stoL_dat, stoL_own, consO_some, SatO_some, S_call, kCall_u, S_if, S_ifS, kI_true, kI_false, S_andV, S_orV, kAndV_true, kAndV_false, kOrV_true, kOrV_false, S_test, kTest_, S_tru, kTru_, S_and, S_or, S_not, kAnd_true, kAnd_false, kOr_true, kOr_false, kNot_, S_seq, kS_nx, kS_rt, kS_bk, kS_ct, S_pass, S_set, kSet_dat, kSet_own, S_par, kP_, kPb_, S_ret', kR_, S_retN, S_break, S_cont, S_for, kF_, S_forNil, kFb_nx, kFb_ct, kFb_bk, kFb_rt, S_items, kItems_tup, kItems_lst, kItems_own, S_lc, kLc_, S_lcNil, S_yes, kD_rt, kD_nx, Rv.ret, gt, st, kVar_dat, kVar_own, o_add, o_sub, o_eq, o_ne, o_lt, o_le, o_gt, o_ge, o_eqB, o_neB, o_is2, o_isnot2, o_abs, o_ix, o_ixO, o_ixB, o_ixL, o_tupO, o_isBool, map_some', wp, tgN_, List.length_cons, List.length_nil, Nat.reduceAdd, Nat.reduceLeDiff, true_and, decide_true, decide_false, Bool.not_true, Bool.not_false, o_mul_u, o_div_u, o_mod_u, o_pow_u, o_eqS, o_neS, o_intB, o_lenS, o_lenO, o_lenB, o_iaddI, S_s1, kS1_, kS1b_, S_lm, kLm_bor, kLm_own, kLmb_, S_tab, o_ixT, o_ixS, S_put, kPut_, kPutK_, S_zip2, kZip_, kZipb_tup, o_sum, o_sumB, o_tupB, o_tupL, o_lenT, S_range1, kRng_3, S_tgtL, kTgtL_, List.nil_append, List.cons_append, Nat.reduceLT, SZ, forall_const, true_implies, S_callD, kCallD_, is_tt, is_ti, is_ts, is_ii, is_ss, is_bi]
  refine S_draw h (by decide) (by decide) fun sg s1 w0 w1 h1 => ?_
  simp only [S_var, S_C, S_op1, k1_, S_op2, k2_, k2b_, S_nil, S_cons, kc_, kcb_, S_opN, kN_, S_tup, S_lst, kT_u, kL_u, stoL_nil, stoL_dat, stoL_own, consO_some, SatO_some, S_call, kCall_u, S_if, S_ifS, kI_true, kI_false, S_andV, S_orV, kAndV_true, kAndV_false, kOrV_true, kOrV_false, S_test, kTest_, S_tru, kTru_, S_and, S_or, S_not, kAnd_true, kAnd_false, kOr_true, kOr_false, kNot_, S_seq, kS_nx, kS_rt, kS_bk, kS_ct, S_pass, S_set, kSet_dat, kSet_own, S_par, kP_, kPb_, S_ret', kR_, S_retN, S_break, S_cont, S_for, kF_, S_forNil, kFb_nx, kFb_ct, kFb_bk, kFb_rt, S_items, kItems_tup, kItems_lst, kItems_own, S_lc, kLc_, S_lcNil, S_yes, kD_rt, kD_nx, Rv.ret, gt, st, kVar_dat, kVar_own, o_add, o_sub, o_eq, o_ne, o_lt, o_le, o_gt, o_ge, o_eqB, o_neB, o_is2, o_isnot2, o_abs, o_ix, o_ixO, o_ixB, o_ixL, o_tupO, o_isBool, map_some', wp, tgN_, List.length_cons, List.length_nil, Nat.reduceAdd, Nat.reduceLeDiff, true_and, decide_true, decide_false, Bool.not_true, Bool.not_false, o_mul_u, o_div_u, o_mod_u, o_pow_u, o_eqS, o_neS, o_intB, o_lenS, o_lenO, o_lenB, o_iaddI, S_s1, kS1_, kS1b_, S_lm, kLm_bor, kLm_own, kLmb_, S_tab, o_ixT, o_ixS, S_put, kPut_, kPutK_, S_zip2, kZip_, kZipb_tup, o_sum, o_sumB, o_tupB, o_tupL, o_lenT, S_range1, kRng_3, S_tgtL, kTgtL_, List.nil_append, List.cons_append, Nat.reduceLT, SZ, forall_const, true_implies, S_callD, kCallD_, is_tt, is_ti, is_ts, is_ii, is_ss, is_bi]
  refine S_draw h1 (by decide) (by decide) fun kd s2 k0 k1 h2 => ?_
  simp only [S_var, S_C, S_op1, k1_, S_op2, k2_, k2b_, S_nil, S_cons, kc_, kcb_, S_opN, kN_, S_tup, S_lst, kT_u, kL_u, stoL_nil, stoL_dat, stoL_own, consO_some, SatO_some, S_call, kCall_u, S_if, S_ifS, kI_true, kI_false, S_andV, S_orV, kAndV_true, kAndV_false, kOrV_true, kOrV_false, S_test, kTest_, S_tru, kTru_, S_and, S_or, S_not, kAnd_true, kAnd_false, kOr_true, kOr_false, kNot_, S_seq, kS_nx, kS_rt, kS_bk, kS_ct, S_pass, S_set, kSet_dat, kSet_own, S_par, kP_, kPb_, S_ret', kR_, S_retN, S_break, S_cont, S_for, kF_, S_forNil, kFb_nx, kFb_ct, kFb_bk, kFb_rt, S_items, kItems_tup, kItems_lst, kItems_own, S_lc, kLc_, S_lcNil, S_yes, kD_rt, kD_nx, Rv.ret, gt, st, kVar_dat, kVar_own, o_add, o_sub, o_eq, o_ne, o_lt, o_le, o_gt, o_ge, o_eqB, o_neB, o_is2, o_isnot2, o_abs, o_ix, o_ixO, o_ixB, o_ixL, o_tupO, o_isBool, map_some', wp, tgN_, List.length_cons, List.length_nil, Nat.reduceAdd, Nat.reduceLeDiff, true_and, decide_true, decide_false, Bool.not_true, Bool.not_false, o_mul_u, o_div_u, o_mod_u, o_pow_u, o_eqS, o_neS, o_intB, o_lenS, o_lenO, o_lenB, o_iaddI, S_s1, kS1_, kS1b_, S_lm, kLm_bor, kLm_own, kLmb_, S_tab, o_ixT, o_ixS, S_put, kPut_, kPutK_, S_zip2, kZip_, kZipb_tup, o_sum, o_sumB, o_tupB, o_tupL, o_lenT, S_range1, kRng_3, S_tgtL, kTgtL_, List.nil_append, List.cons_append, Nat.reduceLT, SZ, forall_const, true_implies, S_callD, kCallD_, is_tt, is_ti, is_ts, is_ii, is_ss, is_bi]
  refine S_draw h2 n0 (by omega) fun tp s3 t0 t1 h3 => ?_
  simp only [S_var, S_C, S_op1, k1_, S_op2, k2_, k2b_, S_nil, S_cons, kc_, kcb_, S_opN, kN_, S_tup, S_lst, kT_u, kL_u, stoL_nil, stoL_dat, stoL_own, consO_some, SatO_some, S_call, kCall_u, S_if, S_ifS, kI_true, kI_false, S_andV, S_orV, kAndV_true, kAndV_false, kOrV_true, kOrV_false, S_test, kTest_, S_tru, kTru_, S_and, S_or, S_not, kAnd_true, kAnd_false, kOr_true, kOr_false, kNot_, S_seq, kS_nx, kS_rt, kS_bk, kS_ct, S_pass, S_set, kSet_dat, kSet_own, S_par, kP_, kPb_, S_ret', kR_, S_retN, S_break, S_cont, S_for, kF_, S_forNil, kFb_nx, kFb_ct, kFb_bk, kFb_rt, S_items, kItems_tup, kItems_lst, kItems_own, S_lc, kLc_, S_lcNil, S_yes, kD_rt, kD_nx, Rv.ret, gt, st, kVar_dat, kVar_own, o_add, o_sub, o_eq, o_ne, o_lt, o_le, o_gt, o_ge, o_eqB, o_neB, o_is2, o_isnot2, o_abs, o_ix, o_ixO, o_ixB, o_ixL, o_tupO, o_isBool, map_some', wp, tgN_, List.length_cons, List.length_nil, Nat.reduceAdd, Nat.reduceLeDiff, true_and, decide_true, decide_false, Bool.not_true, Bool.not_false, o_mul_u, o_div_u, o_mod_u, o_pow_u, o_eqS, o_neS, o_intB, o_lenS, o_lenO, o_lenB, o_iaddI, S_s1, kS1_, kS1b_, S_lm, kLm_bor, kLm_own, kLmb_, S_tab, o_ixT, o_ixS, S_put, kPut_, kPutK_, S_zip2, kZip_, kZipb_tup, o_sum, o_sumB, o_tupB, o_tupL, o_lenT, S_range1, kRng_3, S_tgtL, kTgtL_, List.nil_append, List.cons_append, Nat.reduceLT, SZ, forall_const, true_implies, S_callD, kCallD_, is_tt, is_ti, is_ts, is_ii, is_ss, is_bi]
  refine S_draw h3 n0 (by omega) fun bt s4 b0 b1 h4 => ?_
  simp only [S_var, S_C, S_op1, k1_, S_op2, k2_, k2b_, S_nil, S_cons, kc_, kcb_, S_opN, kN_, S_tup, S_lst, kT_u, kL_u, stoL_nil, stoL_dat, stoL_own, consO_some, SatO_some, S_call, kCall_u, S_if, S_ifS, kI_true, kI_false, S_andV, S_orV, kAndV_true, kAndV_false, kOrV_true, kOrV_false, S_test, kTest_, S_tru, kTru_, S_and, S_or, S_not, kAnd_true, kAnd_false, kOr_true, kOr_false, kNot_, S_seq, kS_nx, kS_rt, kS_bk, kS_ct, S_pass, S_set, kSet_dat, kSet_own, S_par, kP_, kPb_, S_ret', kR_, S_retN, S_break, S_cont, S_for, kF_, S_forNil, kFb_nx, kFb_ct, kFb_bk, kFb_rt, S_items, kItems_tup, kItems_lst, kItems_own, S_lc, kLc_, S_lcNil, S_yes, kD_rt, kD_nx, Rv.ret, gt, st, kVar_dat, kVar_own, o_add, o_sub, o_eq, o_ne, o_lt, o_le, o_gt, o_ge, o_eqB, o_neB, o_is2, o_isnot2, o_abs, o_ix, o_ixO, o_ixB, o_ixL, o_tupO, o_isBool, map_some', wp, tgN_, List.length_cons, List.length_nil, Nat.reduceAdd, Nat.reduceLeDiff, true_and, decide_true, decide_false, Bool.not_true, Bool.not_false, o_mul_u, o_div_u, o_mod_u, o_pow_u, o_eqS, o_neS, o_intB, o_lenS, o_lenO, o_lenB, o_iaddI, S_s1, kS1_, kS1b_, S_lm, kLm_bor, kLm_own, kLmb_, S_tab, o_ixT, o_ixS, S_put, kPut_, kPutK_, S_zip2, kZip_, kZipb_tup, o_sum, o_sumB, o_tupB, o_tupL, o_lenT, S_range1, kRng_3, S_tgtL, kTgtL_, List.nil_append, List.cons_append, Nat.reduceLT, SZ, forall_const, true_implies, S_callD, kCallD_, is_tt, is_ti, is_ts, is_ii, is_ss, is_bi]
  have fin : ∀ t u : Int, 0 ≤ t → t < 2 ^ 130 → 0 < u → u ≤ 2 ^ 130 → Sat (mRet (mCall lowestF (mCons (mLst (mCons (mOp2 oMul (mVar 4) (mOp2 oSub (mC (.int 1)) (mOp2 oMul (mC (.int 2)) (mVar 2)))) (mCons (mVar 5) mNil))) mNil))
      [.dat (.ref a), .dat (.int n), .dat (.int sg), .dat (.int kd), .dat (.int t), .dat (.int u)] s4) (kD Q) := by
    intro t u ht ht1 hu hu1
    have hm : (t * (1 - 2 * sg)).natAbs < 2 ^ 133 := by
      rcases (by omega : sg = 0 ∨ sg = 1) with rfl | rfl <;> omega
    have hu2 : u.natAbs < 2 ^ 133 := by omega
    simp only [S_var, S_C, S_op1, k1_, S_op2, k2_, k2b_, S_nil, S_cons, kc_, kcb_, S_opN, kN_, S_tup, S_lst, kT_u, kL_u, stoL_nil, stoL_dat, stoL_own, consO_some, SatO_some, S_call, kCall_u, S_if, S_ifS, kI_true, kI_false, S_andV, S_orV, kAndV_true, kAndV_false, kOrV_true, kOrV_false, S_test, kTest_, S_tru, kTru_, S_and, S_or, S_not, kAnd_true, kAnd_false, kOr_true, kOr_false, kNot_, S_seq, kS_nx, kS_rt, kS_bk, kS_ct, S_pass, S_set, kSet_dat, kSet_own, S_par, kP_, kPb_, S_ret', kR_, S_retN, S_break, S_cont, S_for, kF_, S_forNil, kFb_nx, kFb_ct, kFb_bk, kFb_rt, S_items, kItems_tup, kItems_lst, kItems_own, S_lc, kLc_, S_lcNil, S_yes, kD_rt, kD_nx, Rv.ret, gt, st, kVar_dat, kVar_own, o_add, o_sub, o_eq, o_ne, o_lt, o_le, o_gt, o_ge, o_eqB, o_neB, o_is2, o_isnot2, o_abs, o_ix, o_ixO, o_ixB, o_ixL, o_tupO, o_isBool, map_some', wp, tgN_, List.length_cons, List.length_nil, Nat.reduceAdd, Nat.reduceLeDiff, true_and, decide_true, decide_false, Bool.not_true, Bool.not_false, o_mul_u, o_div_u, o_mod_u, o_pow_u, o_eqS, o_neS, o_intB, o_lenS, o_lenO, o_lenB, o_iaddI, S_s1, kS1_, kS1b_, S_lm, kLm_bor, kLm_own, kLmb_, S_tab, o_ixT, o_ixS, S_put, kPut_, kPutK_, S_zip2, kZip_, kZipb_tup, o_sum, o_sumB, o_tupB, o_tupL, o_lenT, S_range1, kRng_3, S_tgtL, kTgtL_, List.nil_append, List.cons_append, Nat.reduceLT, SZ, forall_const, true_implies, S_callD, kCallD_, is_tt, is_ti, is_ts, is_ii, is_ss, is_bi]
    refine ⟨mulOk (a := 3) (b := 3) (by decide) (by omega) (by decide) (by decide) (by decide), mulOk (a := 131) (b := 3) (by omega) (by omega) (by decide) (by decide) (by decide), ?_⟩
    refine Sat_is (lowest2 (by omega) (Nat.lt_trans hm (by decide)) (Nat.lt_trans hu2 (by decide))) ?_
    simp only [S_var, S_C, S_op1, k1_, S_op2, k2_, k2b_, S_nil, S_cons, kc_, kcb_, S_opN, kN_, S_tup, S_lst, kT_u, kL_u, stoL_nil, stoL_dat, stoL_own, consO_some, SatO_some, S_call, kCall_u, S_if, S_ifS, kI_true, kI_false, S_andV, S_orV, kAndV_true, kAndV_false, kOrV_true, kOrV_false, S_test, kTest_, S_tru, kTru_, S_and, S_or, S_not, kAnd_true, kAnd_false, kOr_true, kOr_false, kNot_, S_seq, kS_nx, kS_rt, kS_bk, kS_ct, S_pass, S_set, kSet_dat, kSet_own, S_par, kP_, kPb_, S_ret', kR_, S_retN, S_break, S_cont, S_for, kF_, S_forNil, kFb_nx, kFb_ct, kFb_bk, kFb_rt, S_items, kItems_tup, kItems_lst, kItems_own, S_lc, kLc_, S_lcNil, S_yes, kD_rt, kD_nx, Rv.ret, gt, st, kVar_dat, kVar_own, o_add, o_sub, o_eq, o_ne, o_lt, o_le, o_gt, o_ge, o_eqB, o_neB, o_is2, o_isnot2, o_abs, o_ix, o_ixO, o_ixB, o_ixL, o_tupO, o_isBool, map_some', wp, tgN_, List.length_cons, List.length_nil, Nat.reduceAdd, Nat.reduceLeDiff, true_and, decide_true, decide_false, Bool.not_true, Bool.not_false, o_mul_u, o_div_u, o_mod_u, o_pow_u, o_eqS, o_neS, o_intB, o_lenS, o_lenO, o_lenB, o_iaddI, S_s1, kS1_, kS1b_, S_lm, kLm_bor, kLm_own, kLmb_, S_tab, o_ixT, o_ixS, S_put, kPut_, kPutK_, S_zip2, kZip_, kZipb_tup, o_sum, o_sumB, o_tupB, o_tupL, o_lenT, S_range1, kRng_3, S_tgtL, kTgtL_, List.nil_append, List.cons_append, Nat.reduceLT, SZ, forall_const, true_implies, S_callD, kCallD_, is_tt, is_ti, is_ts, is_ii, is_ss, is_bi]
    exact k _ _ _ (low_div hu hm hu2) h4
  have r0 := Int.emod_nonneg tp (show (12 : Int) ≠ 0 by decide)
  have r1 := Int.emod_lt_of_pos tp (show (0 : Int) < 12 by decide)
  have r2 := Int.emod_nonneg (1 + bt) (show (12 : Int) ≠ 0 by decide)
  have r3 := Int.emod_lt_of_pos (1 + bt) (show (0 : Int) < 12 by decide)
  by_cases c0 : kd = 0
  · have c1 : ¬ kd = 1 := by omega
    have c2 : ¬ kd = 2 := by omega
    simp only [decide_eq_true c0, decide_eq_false c1, decide_eq_false c2, S_var, S_C, S_op1, k1_, S_op2, k2_, k2b_, S_nil, S_cons, kc_, kcb_, S_opN, kN_, S_tup, S_lst, kT_u, kL_u, stoL_nil, stoL_dat, stoL_own, consO_some, SatO_some, S_call, kCall_u, S_if, S_ifS, kI_true, kI_false, S_andV, S_orV, kAndV_true, kAndV_false, kOrV_true, kOrV_false, S_test, kTest_, S_tru, kTru_, S_and, S_or, S_not, kAnd_true, kAnd_false, kOr_true, kOr_false, kNot_, S_seq, kS_nx, kS_rt, kS_bk, kS_ct, S_pass, S_set, kSet_dat, kSet_own, S_par, kP_, kPb_, S_ret', kR_, S_retN, S_break, S_cont, S_for, kF_, S_forNil, kFb_nx, kFb_ct, kFb_bk, kFb_rt, S_items, kItems_tup, kItems_lst, kItems_own, S_lc, kLc_, S_lcNil, S_yes, kD_rt, kD_nx, Rv.ret, gt, st, kVar_dat, kVar_own, o_add, o_sub, o_eq, o_ne, o_lt, o_le, o_gt, o_ge, o_eqB, o_neB, o_is2, o_isnot2, o_abs, o_ix, o_ixO, o_ixB, o_ixL, o_tupO, o_isBool, map_some', wp, tgN_, List.length_cons, List.length_nil, Nat.reduceAdd, Nat.reduceLeDiff, true_and, decide_true, decide_false, Bool.not_true, Bool.not_false, o_mul_u, o_div_u, o_mod_u, o_pow_u, o_eqS, o_neS, o_intB, o_lenS, o_lenO, o_lenB, o_iaddI, S_s1, kS1_, kS1b_, S_lm, kLm_bor, kLm_own, kLmb_, S_tab, o_ixT, o_ixS, S_put, kPut_, kPutK_, S_zip2, kZip_, kZipb_tup, o_sum, o_sumB, o_tupB, o_tupL, o_lenT, S_range1, kRng_3, S_tgtL, kTgtL_, List.nil_append, List.cons_append, Nat.reduceLT, SZ, forall_const, true_implies, S_callD, kCallD_, is_tt, is_ti, is_ts, is_ii, is_ss, is_bi] at fin ⊢
    exact fin 0 _ (by decide) (by decide) (by omega) (by omega)
  · by_cases c1 : kd = 1
    · have c2 : ¬ kd = 2 := by omega
      simp only [decide_eq_false c0, decide_eq_true c1, decide_eq_false c2, S_var, S_C, S_op1, k1_, S_op2, k2_, k2b_, S_nil, S_cons, kc_, kcb_, S_opN, kN_, S_tup, S_lst, kT_u, kL_u, stoL_nil, stoL_dat, stoL_own, consO_some, SatO_some, S_call, kCall_u, S_if, S_ifS, kI_true, kI_false, S_andV, S_orV, kAndV_true, kAndV_false, kOrV_true, kOrV_false, S_test, kTest_, S_tru, kTru_, S_and, S_or, S_not, kAnd_true, kAnd_false, kOr_true, kOr_false, kNot_, S_seq, kS_nx, kS_rt, kS_bk, kS_ct, S_pass, S_set, kSet_dat, kSet_own, S_par, kP_, kPb_, S_ret', kR_, S_retN, S_break, S_cont, S_for, kF_, S_forNil, kFb_nx, kFb_ct, kFb_bk, kFb_rt, S_items, kItems_tup, kItems_lst, kItems_own, S_lc, kLc_, S_lcNil, S_yes, kD_rt, kD_nx, Rv.ret, gt, st, kVar_dat, kVar_own, o_add, o_sub, o_eq, o_ne, o_lt, o_le, o_gt, o_ge, o_eqB, o_neB, o_is2, o_isnot2, o_abs, o_ix, o_ixO, o_ixB, o_ixL, o_tupO, o_isBool, map_some', wp, tgN_, List.length_cons, List.length_nil, Nat.reduceAdd, Nat.reduceLeDiff, true_and, decide_true, decide_false, Bool.not_true, Bool.not_false, o_mul_u, o_div_u, o_mod_u, o_pow_u, o_eqS, o_neS, o_intB, o_lenS, o_lenO, o_lenB, o_iaddI, S_s1, kS1_, kS1b_, S_lm, kLm_bor, kLm_own, kLmb_, S_tab, o_ixT, o_ixS, S_put, kPut_, kPutK_, S_zip2, kZip_, kZipb_tup, o_sum, o_sumB, o_tupB, o_tupL, o_lenT, S_range1, kRng_3, S_tgtL, kTgtL_, List.nil_append, List.cons_append, Nat.reduceLT, SZ, forall_const, true_implies, S_callD, kCallD_, is_tt, is_ti, is_ts, is_ii, is_ss, is_bi] at fin ⊢
      exact fin _ 1 t0 (by omega) (by decide) (by decide)
    · by_cases c2 : kd = 2
      · simp only [decide_eq_false c0, decide_eq_false c1, decide_eq_true c2, S_var, S_C, S_op1, k1_, S_op2, k2_, k2b_, S_nil, S_cons, kc_, kcb_, S_opN, kN_, S_tup, S_lst, kT_u, kL_u, stoL_nil, stoL_dat, stoL_own, consO_some, SatO_some, S_call, kCall_u, S_if, S_ifS, kI_true, kI_false, S_andV, S_orV, kAndV_true, kAndV_false, kOrV_true, kOrV_false, S_test, kTest_, S_tru, kTru_, S_and, S_or, S_not, kAnd_true, kAnd_false, kOr_true, kOr_false, kNot_, S_seq, kS_nx, kS_rt, kS_bk, kS_ct, S_pass, S_set, kSet_dat, kSet_own, S_par, kP_, kPb_, S_ret', kR_, S_retN, S_break, S_cont, S_for, kF_, S_forNil, kFb_nx, kFb_ct, kFb_bk, kFb_rt, S_items, kItems_tup, kItems_lst, kItems_own, S_lc, kLc_, S_lcNil, S_yes, kD_rt, kD_nx, Rv.ret, gt, st, kVar_dat, kVar_own, o_add, o_sub, o_eq, o_ne, o_lt, o_le, o_gt, o_ge, o_eqB, o_neB, o_is2, o_isnot2, o_abs, o_ix, o_ixO, o_ixB, o_ixL, o_tupO, o_isBool, map_some', wp, tgN_, List.length_cons, List.length_nil, Nat.reduceAdd, Nat.reduceLeDiff, true_and, decide_true, decide_false, Bool.not_true, Bool.not_false, o_mul_u, o_div_u, o_mod_u, o_pow_u, o_eqS, o_neS, o_intB, o_lenS, o_lenO, o_lenB, o_iaddI, S_s1, kS1_, kS1b_, S_lm, kLm_bor, kLm_own, kLmb_, S_tab, o_ixT, o_ixS, S_put, kPut_, kPutK_, S_zip2, kZip_, kZipb_tup, o_sum, o_sumB, o_tupB, o_tupL, o_lenT, S_range1, kRng_3, S_tgtL, kTgtL_, List.nil_append, List.cons_append, Nat.reduceLT, SZ, forall_const, true_implies, S_callD, kCallD_, is_tt, is_ti, is_ts, is_ii, is_ss, is_bi] at fin ⊢
        exact ⟨by decide, by decide, fin _ _ r0 (by omega) (by omega) (by omega)⟩
      · simp only [decide_eq_false c0, decide_eq_false c1, decide_eq_false c2, S_var, S_C, S_op1, k1_, S_op2, k2_, k2b_, S_nil, S_cons, kc_, kcb_, S_opN, kN_, S_tup, S_lst, kT_u, kL_u, stoL_nil, stoL_dat, stoL_own, consO_some, SatO_some, S_call, kCall_u, S_if, S_ifS, kI_true, kI_false, S_andV, S_orV, kAndV_true, kAndV_false, kOrV_true, kOrV_false, S_test, kTest_, S_tru, kTru_, S_and, S_or, S_not, kAnd_true, kAnd_false, kOr_true, kOr_false, kNot_, S_seq, kS_nx, kS_rt, kS_bk, kS_ct, S_pass, S_set, kSet_dat, kSet_own, S_par, kP_, kPb_, S_ret', kR_, S_retN, S_break, S_cont, S_for, kF_, S_forNil, kFb_nx, kFb_ct, kFb_bk, kFb_rt, S_items, kItems_tup, kItems_lst, kItems_own, S_lc, kLc_, S_lcNil, S_yes, kD_rt, kD_nx, Rv.ret, gt, st, kVar_dat, kVar_own, o_add, o_sub, o_eq, o_ne, o_lt, o_le, o_gt, o_ge, o_eqB, o_neB, o_is2, o_isnot2, o_abs, o_ix, o_ixO, o_ixB, o_ixL, o_tupO, o_isBool, map_some', wp, tgN_, List.length_cons, List.length_nil, Nat.reduceAdd, Nat.reduceLeDiff, true_and, decide_true, decide_false, Bool.not_true, Bool.not_false, o_mul_u, o_div_u, o_mod_u, o_pow_u, o_eqS, o_neS, o_intB, o_lenS, o_lenO, o_lenB, o_iaddI, S_s1, kS1_, kS1b_, S_lm, kLm_bor, kLm_own, kLmb_, S_tab, o_ixT, o_ixS, S_put, kPut_, kPutK_, S_zip2, kZip_, kZipb_tup, o_sum, o_sumB, o_tupB, o_tupL, o_lenT, S_range1, kRng_3, S_tgtL, kTgtL_, List.nil_append, List.cons_append, Nat.reduceLT, SZ, forall_const, true_implies, S_callD, kCallD_, is_tt, is_ti, is_ts, is_ii, is_ss, is_bi] at fin ⊢
        exact fin _ _ t0 (by omega) (by omega) (by omega)
/-- three numbers, none below nought, below a bound -/
def Pb (x y z : Int) : Prop := (0 ≤ x ∧ x < 2 ^ 130) ∧ (0 ≤ y ∧ y < 2 ^ 130) ∧ (0 ≤ z ∧ z < 2 ^ 130)
theorem setP {x y z v k : Int} (h : Pb x y z) (hv : 0 ≤ v ∧ v < 2 ^ 130) (k0 : 0 ≤ k) (k1 : k < 3) : ∃ x' y' z' j, Pb x' y' z' ∧ (0 < v → 0 < x' + y' + z') ∧ ixN 3 k = some j ∧ [D.int x, .int y, .int z].set j (.int v) = [.int x', .int y', .int z'] := by
  obtain ⟨h1, h2, h3⟩ := h
  rcases (by omega : k = 0 ∨ k = 1 ∨ k = 2) with rfl | rfl | rfl
  · exact ⟨v, y, z, 0, ⟨hv, h2, h3⟩, by omega, rfl, rfl⟩
  · exact ⟨x, v, z, 1, ⟨h1, hv, h3⟩, by omega, rfl, rfl⟩
  · exact ⟨x, y, v, 2, ⟨h1, h2, hv⟩, by omega, rfl, rfl⟩
theorem S_price {a b : Nat} {s : LS} {Q : Rv → LS → Prop} (h : Bud a (b + 8) s) (q : ∀ (x y z : Int) (s' : LS), Pb x y z → 0 < x + y + z → Bud a b s' → Q (.dat (v3 x y z)) s') : Sat (priceF [.ref a] s) Q := by
  have mb : (10 : Int) ^ 39 ≤ 10 ^ 90 := by decide
  have mc : (10 : Int) ^ 39 < 2 ^ 130 := by decide
  unfold priceF
  rw [S_def (k := 1) (ds := [.ref a]) rfl]
  show Sat (priceM [.dat (.ref a), .un, .un, .un] s) _
  unfold priceM
  rw [S_seq, S_set]
  simp only [S_var, S_C, S_op1, k1_, S_op2, k2_, k2b_, S_nil, S_cons, kc_, kcb_, S_opN, kN_, S_tup, S_lst, kT_u, kL_u, stoL_nil, stoL_dat, stoL_own, consO_some, SatO_some, S_call, kCall_u, S_if, S_ifS, kI_true, kI_false, S_andV, S_orV, kAndV_true, kAndV_false, kOrV_true, kOrV_false, S_test, kTest_, S_tru, kTru_, S_and, S_or, S_not, kAnd_true, kAnd_false, kOr_true, kOr_false, kNot_, S_seq, kS_nx, kS_rt, kS_bk, kS_ct, S_pass, S_set, kSet_dat, kSet_own, S_par, kP_, kPb_, S_ret', kR_, S_retN, S_break, S_cont, S_for, kF_, S_forNil, kFb_nx, kFb_ct, kFb_bk, kFb_rt, S_items, kItems_tup, kItems_lst, kItems_own, S_lc, kLc_, S_lcNil, S_yes, kD_rt, kD_nx, Rv.ret, gt, st, kVar_dat, kVar_own, o_add, o_sub, o_eq, o_ne, o_lt, o_le, o_gt, o_ge, o_eqB, o_neB, o_is2, o_isnot2, o_abs, o_ix, o_ixO, o_ixB, o_ixL, o_tupO, o_isBool, map_some', wp, tgN_, List.length_cons, List.length_nil, Nat.reduceAdd, Nat.reduceLeDiff, true_and, decide_true, decide_false, Bool.not_true, Bool.not_false, o_mul_u, o_div_u, o_mod_u, o_pow_u, o_eqS, o_neS, o_intB, o_lenS, o_lenO, o_lenB, o_iaddI, S_s1, kS1_, kS1b_, S_lm, kLm_bor, kLm_own, kLmb_, S_tab, o_ixT, o_ixS, S_put, kPut_, kPutK_, S_zip2, kZip_, kZipb_tup, o_sum, o_sumB, o_tupB, o_tupL, o_lenT, S_range1, kRng_3, S_tgtL, kTgtL_, List.nil_append, List.cons_append, Nat.reduceLT, SZ, forall_const, true_implies, S_callD, kCallD_, is_tt, is_ti, is_ts, is_ii, is_ss, is_bi]
  refine ⟨by decide, ?_⟩
  refine S_draw (h.le (show b + 8 ≤ b + 8 by omega)) (by decide) (by decide) fun ix s1 ix0 ix1 h1 => ?_
  have hsz : ∃ m : Int, 0 < m ∧ m ≤ 10 ^ 39 ∧ atI [D.int 4, .int 13, .int 100, .int (10 ^ (39 : Int).toNat)] ix = some (.int m) := by
    rcases (by omega : ix = 0 ∨ ix = 1 ∨ ix = 2 ∨ ix = 3) with rfl | rfl | rfl | rfl
    · exact ⟨4, by decide, by decide, rfl⟩
    · exact ⟨13, by decide, by decide, rfl⟩
    · exact ⟨100, by decide, by decide, rfl⟩
    · exact ⟨10 ^ 39, by decide, by decide, rfl⟩
  obtain ⟨m, m0, m1, em⟩ := hsz
  rw [k2b_, o_ixO, em]
  simp only [S_var, S_C, S_op1, k1_, S_op2, k2_, k2b_, S_nil, S_cons, kc_, kcb_, S_opN, kN_, S_tup, S_lst, kT_u, kL_u, stoL_nil, stoL_dat, stoL_own, consO_some, SatO_some, S_call, kCall_u, S_if, S_ifS, kI_true, kI_false, S_andV, S_orV, kAndV_true, kAndV_false, kOrV_true, kOrV_false, S_test, kTest_, S_tru, kTru_, S_and, S_or, S_not, kAnd_true, kAnd_false, kOr_true, kOr_false, kNot_, S_seq, kS_nx, kS_rt, kS_bk, kS_ct, S_pass, S_set, kSet_dat, kSet_own, S_par, kP_, kPb_, S_ret', kR_, S_retN, S_break, S_cont, S_for, kF_, S_forNil, kFb_nx, kFb_ct, kFb_bk, kFb_rt, S_items, kItems_tup, kItems_lst, kItems_own, S_lc, kLc_, S_lcNil, S_yes, kD_rt, kD_nx, Rv.ret, gt, st, kVar_dat, kVar_own, o_add, o_sub, o_eq, o_ne, o_lt, o_le, o_gt, o_ge, o_eqB, o_neB, o_is2, o_isnot2, o_abs, o_ix, o_ixO, o_ixB, o_ixL, o_tupO, o_isBool, map_some', wp, tgN_, List.length_cons, List.length_nil, Nat.reduceAdd, Nat.reduceLeDiff, true_and, decide_true, decide_false, Bool.not_true, Bool.not_false, o_mul_u, o_div_u, o_mod_u, o_pow_u, o_eqS, o_neS, o_intB, o_lenS, o_lenO, o_lenB, o_iaddI, S_s1, kS1_, kS1b_, S_lm, kLm_bor, kLm_own, kLmb_, S_tab, o_ixT, o_ixS, S_put, kPut_, kPutK_, S_zip2, kZip_, kZipb_tup, o_sum, o_sumB, o_tupB, o_tupL, o_lenT, S_range1, kRng_3, S_tgtL, kTgtL_, List.nil_append, List.cons_append, Nat.reduceLT, SZ, forall_const, true_implies, S_callD, kCallD_, is_tt, is_ti, is_ts, is_ii, is_ss, is_bi]
  rw [S_lcCons (tgN_)]
  simp only [S_var, S_C, S_op1, k1_, S_op2, k2_, k2b_, S_nil, S_cons, kc_, kcb_, S_opN, kN_, S_tup, S_lst, kT_u, kL_u, stoL_nil, stoL_dat, stoL_own, consO_some, SatO_some, S_call, kCall_u, S_if, S_ifS, kI_true, kI_false, S_andV, S_orV, kAndV_true, kAndV_false, kOrV_true, kOrV_false, S_test, kTest_, S_tru, kTru_, S_and, S_or, S_not, kAnd_true, kAnd_false, kOr_true, kOr_false, kNot_, S_seq, kS_nx, kS_rt, kS_bk, kS_ct, S_pass, S_set, kSet_dat, kSet_own, S_par, kP_, kPb_, S_ret', kR_, S_retN, S_break, S_cont, S_for, kF_, S_forNil, kFb_nx, kFb_ct, kFb_bk, kFb_rt, S_items, kItems_tup, kItems_lst, kItems_own, S_lc, kLc_, S_lcNil, S_yes, kD_rt, kD_nx, Rv.ret, gt, st, kVar_dat, kVar_own, o_add, o_sub, o_eq, o_ne, o_lt, o_le, o_gt, o_ge, o_eqB, o_neB, o_is2, o_isnot2, o_abs, o_ix, o_ixO, o_ixB, o_ixL, o_tupO, o_isBool, map_some', wp, tgN_, List.length_cons, List.length_nil, Nat.reduceAdd, Nat.reduceLeDiff, true_and, decide_true, decide_false, Bool.not_true, Bool.not_false, o_mul_u, o_div_u, o_mod_u, o_pow_u, o_eqS, o_neS, o_intB, o_lenS, o_lenO, o_lenB, o_iaddI, S_s1, kS1_, kS1b_, S_lm, kLm_bor, kLm_own, kLmb_, S_tab, o_ixT, o_ixS, S_put, kPut_, kPutK_, S_zip2, kZip_, kZipb_tup, o_sum, o_sumB, o_tupB, o_tupL, o_lenT, S_range1, kRng_3, S_tgtL, kTgtL_, List.nil_append, List.cons_append, Nat.reduceLT, SZ, forall_const, true_implies, S_callD, kCallD_, is_tt, is_ti, is_ts, is_ii, is_ss, is_bi, kLcT_true]
  refine S_draw h1 m0 (by omega) fun x s1 x0 x1 h1 => ?_
  simp only [S_var, S_C, S_op1, k1_, S_op2, k2_, k2b_, S_nil, S_cons, kc_, kcb_, S_opN, kN_, S_tup, S_lst, kT_u, kL_u, stoL_nil, stoL_dat, stoL_own, consO_some, SatO_some, S_call, kCall_u, S_if, S_ifS, kI_true, kI_false, S_andV, S_orV, kAndV_true, kAndV_false, kOrV_true, kOrV_false, S_test, kTest_, S_tru, kTru_, S_and, S_or, S_not, kAnd_true, kAnd_false, kOr_true, kOr_false, kNot_, S_seq, kS_nx, kS_rt, kS_bk, kS_ct, S_pass, S_set, kSet_dat, kSet_own, S_par, kP_, kPb_, S_ret', kR_, S_retN, S_break, S_cont, S_for, kF_, S_forNil, kFb_nx, kFb_ct, kFb_bk, kFb_rt, S_items, kItems_tup, kItems_lst, kItems_own, S_lc, kLc_, S_lcNil, S_yes, kD_rt, kD_nx, Rv.ret, gt, st, kVar_dat, kVar_own, o_add, o_sub, o_eq, o_ne, o_lt, o_le, o_gt, o_ge, o_eqB, o_neB, o_is2, o_isnot2, o_abs, o_ix, o_ixO, o_ixB, o_ixL, o_tupO, o_isBool, map_some', wp, tgN_, List.length_cons, List.length_nil, Nat.reduceAdd, Nat.reduceLeDiff, true_and, decide_true, decide_false, Bool.not_true, Bool.not_false, o_mul_u, o_div_u, o_mod_u, o_pow_u, o_eqS, o_neS, o_intB, o_lenS, o_lenO, o_lenB, o_iaddI, S_s1, kS1_, kS1b_, S_lm, kLm_bor, kLm_own, kLmb_, S_tab, o_ixT, o_ixS, S_put, kPut_, kPutK_, S_zip2, kZip_, kZipb_tup, o_sum, o_sumB, o_tupB, o_tupL, o_lenT, S_range1, kRng_3, S_tgtL, kTgtL_, List.nil_append, List.cons_append, Nat.reduceLT, SZ, forall_const, true_implies, S_callD, kCallD_, is_tt, is_ti, is_ts, is_ii, is_ss, is_bi, kLcA_dat]
  rw [S_lcCons (tgN_)]
  simp only [S_var, S_C, S_op1, k1_, S_op2, k2_, k2b_, S_nil, S_cons, kc_, kcb_, S_opN, kN_, S_tup, S_lst, kT_u, kL_u, stoL_nil, stoL_dat, stoL_own, consO_some, SatO_some, S_call, kCall_u, S_if, S_ifS, kI_true, kI_false, S_andV, S_orV, kAndV_true, kAndV_false, kOrV_true, kOrV_false, S_test, kTest_, S_tru, kTru_, S_and, S_or, S_not, kAnd_true, kAnd_false, kOr_true, kOr_false, kNot_, S_seq, kS_nx, kS_rt, kS_bk, kS_ct, S_pass, S_set, kSet_dat, kSet_own, S_par, kP_, kPb_, S_ret', kR_, S_retN, S_break, S_cont, S_for, kF_, S_forNil, kFb_nx, kFb_ct, kFb_bk, kFb_rt, S_items, kItems_tup, kItems_lst, kItems_own, S_lc, kLc_, S_lcNil, S_yes, kD_rt, kD_nx, Rv.ret, gt, st, kVar_dat, kVar_own, o_add, o_sub, o_eq, o_ne, o_lt, o_le, o_gt, o_ge, o_eqB, o_neB, o_is2, o_isnot2, o_abs, o_ix, o_ixO, o_ixB, o_ixL, o_tupO, o_isBool, map_some', wp, tgN_, List.length_cons, List.length_nil, Nat.reduceAdd, Nat.reduceLeDiff, true_and, decide_true, decide_false, Bool.not_true, Bool.not_false, o_mul_u, o_div_u, o_mod_u, o_pow_u, o_eqS, o_neS, o_intB, o_lenS, o_lenO, o_lenB, o_iaddI, S_s1, kS1_, kS1b_, S_lm, kLm_bor, kLm_own, kLmb_, S_tab, o_ixT, o_ixS, S_put, kPut_, kPutK_, S_zip2, kZip_, kZipb_tup, o_sum, o_sumB, o_tupB, o_tupL, o_lenT, S_range1, kRng_3, S_tgtL, kTgtL_, List.nil_append, List.cons_append, Nat.reduceLT, SZ, forall_const, true_implies, S_callD, kCallD_, is_tt, is_ti, is_ts, is_ii, is_ss, is_bi, kLcT_true]
  refine S_draw h1 m0 (by omega) fun y s2 y0 y1 h2 => ?_
  simp only [S_var, S_C, S_op1, k1_, S_op2, k2_, k2b_, S_nil, S_cons, kc_, kcb_, S_opN, kN_, S_tup, S_lst, kT_u, kL_u, stoL_nil, stoL_dat, stoL_own, consO_some, SatO_some, S_call, kCall_u, S_if, S_ifS, kI_true, kI_false, S_andV, S_orV, kAndV_true, kAndV_false, kOrV_true, kOrV_false, S_test, kTest_, S_tru, kTru_, S_and, S_or, S_not, kAnd_true, kAnd_false, kOr_true, kOr_false, kNot_, S_seq, kS_nx, kS_rt, kS_bk, kS_ct, S_pass, S_set, kSet_dat, kSet_own, S_par, kP_, kPb_, S_ret', kR_, S_retN, S_break, S_cont, S_for, kF_, S_forNil, kFb_nx, kFb_ct, kFb_bk, kFb_rt, S_items, kItems_tup, kItems_lst, kItems_own, S_lc, kLc_, S_lcNil, S_yes, kD_rt, kD_nx, Rv.ret, gt, st, kVar_dat, kVar_own, o_add, o_sub, o_eq, o_ne, o_lt, o_le, o_gt, o_ge, o_eqB, o_neB, o_is2, o_isnot2, o_abs, o_ix, o_ixO, o_ixB, o_ixL, o_tupO, o_isBool, map_some', wp, tgN_, List.length_cons, List.length_nil, Nat.reduceAdd, Nat.reduceLeDiff, true_and, decide_true, decide_false, Bool.not_true, Bool.not_false, o_mul_u, o_div_u, o_mod_u, o_pow_u, o_eqS, o_neS, o_intB, o_lenS, o_lenO, o_lenB, o_iaddI, S_s1, kS1_, kS1b_, S_lm, kLm_bor, kLm_own, kLmb_, S_tab, o_ixT, o_ixS, S_put, kPut_, kPutK_, S_zip2, kZip_, kZipb_tup, o_sum, o_sumB, o_tupB, o_tupL, o_lenT, S_range1, kRng_3, S_tgtL, kTgtL_, List.nil_append, List.cons_append, Nat.reduceLT, SZ, forall_const, true_implies, S_callD, kCallD_, is_tt, is_ti, is_ts, is_ii, is_ss, is_bi, kLcA_dat]
  rw [S_lcCons (tgN_)]
  simp only [S_var, S_C, S_op1, k1_, S_op2, k2_, k2b_, S_nil, S_cons, kc_, kcb_, S_opN, kN_, S_tup, S_lst, kT_u, kL_u, stoL_nil, stoL_dat, stoL_own, consO_some, SatO_some, S_call, kCall_u, S_if, S_ifS, kI_true, kI_false, S_andV, S_orV, kAndV_true, kAndV_false, kOrV_true, kOrV_false, S_test, kTest_, S_tru, kTru_, S_and, S_or, S_not, kAnd_true, kAnd_false, kOr_true, kOr_false, kNot_, S_seq, kS_nx, kS_rt, kS_bk, kS_ct, S_pass, S_set, kSet_dat, kSet_own, S_par, kP_, kPb_, S_ret', kR_, S_retN, S_break, S_cont, S_for, kF_, S_forNil, kFb_nx, kFb_ct, kFb_bk, kFb_rt, S_items, kItems_tup, kItems_lst, kItems_own, S_lc, kLc_, S_lcNil, S_yes, kD_rt, kD_nx, Rv.ret, gt, st, kVar_dat, kVar_own, o_add, o_sub, o_eq, o_ne, o_lt, o_le, o_gt, o_ge, o_eqB, o_neB, o_is2, o_isnot2, o_abs, o_ix, o_ixO, o_ixB, o_ixL, o_tupO, o_isBool, map_some', wp, tgN_, List.length_cons, List.length_nil, Nat.reduceAdd, Nat.reduceLeDiff, true_and, decide_true, decide_false, Bool.not_true, Bool.not_false, o_mul_u, o_div_u, o_mod_u, o_pow_u, o_eqS, o_neS, o_intB, o_lenS, o_lenO, o_lenB, o_iaddI, S_s1, kS1_, kS1b_, S_lm, kLm_bor, kLm_own, kLmb_, S_tab, o_ixT, o_ixS, S_put, kPut_, kPutK_, S_zip2, kZip_, kZipb_tup, o_sum, o_sumB, o_tupB, o_tupL, o_lenT, S_range1, kRng_3, S_tgtL, kTgtL_, List.nil_append, List.cons_append, Nat.reduceLT, SZ, forall_const, true_implies, S_callD, kCallD_, is_tt, is_ti, is_ts, is_ii, is_ss, is_bi, kLcT_true]
  refine S_draw h2 m0 (by omega) fun z s3 z0 z1 h3 => ?_
  simp only [S_var, S_C, S_op1, k1_, S_op2, k2_, k2b_, S_nil, S_cons, kc_, kcb_, S_opN, kN_, S_tup, S_lst, kT_u, kL_u, stoL_nil, stoL_dat, stoL_own, consO_some, SatO_some, S_call, kCall_u, S_if, S_ifS, kI_true, kI_false, S_andV, S_orV, kAndV_true, kAndV_false, kOrV_true, kOrV_false, S_test, kTest_, S_tru, kTru_, S_and, S_or, S_not, kAnd_true, kAnd_false, kOr_true, kOr_false, kNot_, S_seq, kS_nx, kS_rt, kS_bk, kS_ct, S_pass, S_set, kSet_dat, kSet_own, S_par, kP_, kPb_, S_ret', kR_, S_retN, S_break, S_cont, S_for, kF_, S_forNil, kFb_nx, kFb_ct, kFb_bk, kFb_rt, S_items, kItems_tup, kItems_lst, kItems_own, S_lc, kLc_, S_lcNil, S_yes, kD_rt, kD_nx, Rv.ret, gt, st, kVar_dat, kVar_own, o_add, o_sub, o_eq, o_ne, o_lt, o_le, o_gt, o_ge, o_eqB, o_neB, o_is2, o_isnot2, o_abs, o_ix, o_ixO, o_ixB, o_ixL, o_tupO, o_isBool, map_some', wp, tgN_, List.length_cons, List.length_nil, Nat.reduceAdd, Nat.reduceLeDiff, true_and, decide_true, decide_false, Bool.not_true, Bool.not_false, o_mul_u, o_div_u, o_mod_u, o_pow_u, o_eqS, o_neS, o_intB, o_lenS, o_lenO, o_lenB, o_iaddI, S_s1, kS1_, kS1b_, S_lm, kLm_bor, kLm_own, kLmb_, S_tab, o_ixT, o_ixS, S_put, kPut_, kPutK_, S_zip2, kZip_, kZipb_tup, o_sum, o_sumB, o_tupB, o_tupL, o_lenT, S_range1, kRng_3, S_tgtL, kTgtL_, List.nil_append, List.cons_append, Nat.reduceLT, SZ, forall_const, true_implies, S_callD, kCallD_, is_tt, is_ti, is_ts, is_ii, is_ss, is_bi, kLcA_dat]
  refine S_draw h3 (by decide) (by decide) fun w s4 w0 w1 h4 => ?_
  simp only [S_var, S_C, S_op1, k1_, S_op2, k2_, k2b_, S_nil, S_cons, kc_, kcb_, S_opN, kN_, S_tup, S_lst, kT_u, kL_u, stoL_nil, stoL_dat, stoL_own, consO_some, SatO_some, S_call, kCall_u, S_if, S_ifS, kI_true, kI_false, S_andV, S_orV, kAndV_true, kAndV_false, kOrV_true, kOrV_false, S_test, kTest_, S_tru, kTru_, S_and, S_or, S_not, kAnd_true, kAnd_false, kOr_true, kOr_false, kNot_, S_seq, kS_nx, kS_rt, kS_bk, kS_ct, S_pass, S_set, kSet_dat, kSet_own, S_par, kP_, kPb_, S_ret', kR_, S_retN, S_break, S_cont, S_for, kF_, S_forNil, kFb_nx, kFb_ct, kFb_bk, kFb_rt, S_items, kItems_tup, kItems_lst, kItems_own, S_lc, kLc_, S_lcNil, S_yes, kD_rt, kD_nx, Rv.ret, gt, st, kVar_dat, kVar_own, o_add, o_sub, o_eq, o_ne, o_lt, o_le, o_gt, o_ge, o_eqB, o_neB, o_is2, o_isnot2, o_abs, o_ix, o_ixO, o_ixB, o_ixL, o_tupO, o_isBool, map_some', wp, tgN_, List.length_cons, List.length_nil, Nat.reduceAdd, Nat.reduceLeDiff, true_and, decide_true, decide_false, Bool.not_true, Bool.not_false, o_mul_u, o_div_u, o_mod_u, o_pow_u, o_eqS, o_neS, o_intB, o_lenS, o_lenO, o_lenB, o_iaddI, S_s1, kS1_, kS1b_, S_lm, kLm_bor, kLm_own, kLmb_, S_tab, o_ixT, o_ixS, S_put, kPut_, kPutK_, S_zip2, kZip_, kZipb_tup, o_sum, o_sumB, o_tupB, o_tupL, o_lenT, S_range1, kRng_3, S_tgtL, kTgtL_, List.nil_append, List.cons_append, Nat.reduceLT, SZ, forall_const, true_implies, S_callD, kCallD_, is_tt, is_ti, is_ts, is_ii, is_ss, is_bi]
  generalize hR : (mSeq (mIfS (mTest (mOp2 oEq (mOpN oSum (mCons (mVar 2) mNil)) (mC (.int 0)))) (_ : MS LS) mPass) (_ : MS LS)) = R
  have fin : ∀ (x y z : Int) (s' : LS), Pb x y z → Bud a (b + 2) s' → Sat (R [.dat (.ref a), .dat (.int m), .own [.int x, .int y, .int z], .un] s') (kD Q) := by
    intro x y z s' hv hb
    rw [← hR]
    simp only [S_var, S_C, S_op1, k1_, S_op2, k2_, k2b_, S_nil, S_cons, kc_, kcb_, S_opN, kN_, S_tup, S_lst, kT_u, kL_u, stoL_nil, stoL_dat, stoL_own, consO_some, SatO_some, S_call, kCall_u, S_if, S_ifS, kI_true, kI_false, S_andV, S_orV, kAndV_true, kAndV_false, kOrV_true, kOrV_false, S_test, kTest_, S_tru, kTru_, S_and, S_or, S_not, kAnd_true, kAnd_false, kOr_true, kOr_false, kNot_, S_seq, kS_nx, kS_rt, kS_bk, kS_ct, S_pass, S_set, kSet_dat, kSet_own, S_par, kP_, kPb_, S_ret', kR_, S_retN, S_break, S_cont, S_for, kF_, S_forNil, kFb_nx, kFb_ct, kFb_bk, kFb_rt, S_items, kItems_tup, kItems_lst, kItems_own, S_lc, kLc_, S_lcNil, S_yes, kD_rt, kD_nx, Rv.ret, gt, st, kVar_dat, kVar_own, o_add, o_sub, o_eq, o_ne, o_lt, o_le, o_gt, o_ge, o_eqB, o_neB, o_is2, o_isnot2, o_abs, o_ix, o_ixO, o_ixB, o_ixL, o_tupO, o_isBool, map_some', wp, tgN_, List.length_cons, List.length_nil, Nat.reduceAdd, Nat.reduceLeDiff, true_and, decide_true, decide_false, Bool.not_true, Bool.not_false, o_mul_u, o_div_u, o_mod_u, o_pow_u, o_eqS, o_neS, o_intB, o_lenS, o_lenO, o_lenB, o_iaddI, S_s1, kS1_, kS1b_, S_lm, kLm_bor, kLm_own, kLmb_, S_tab, o_ixT, o_ixS, S_put, kPut_, kPutK_, S_zip2, kZip_, kZipb_tup, o_sum, o_sumB, o_tupB, o_tupL, o_lenT, S_range1, kRng_3, S_tgtL, kTgtL_, List.nil_append, List.cons_append, Nat.reduceLT, SZ, forall_const, true_implies, S_callD, kCallD_, is_tt, is_ti, is_ts, is_ii, is_ss, is_bi, dInts, map_some']
    refine kI_d (fun _ => ?_) (fun hz => ?_)
    · rw [S_put rfl]
      simp only [S_var, S_C, S_op1, k1_, S_op2, k2_, k2b_, S_nil, S_cons, kc_, kcb_, S_opN, kN_, S_tup, S_lst, kT_u, kL_u, stoL_nil, stoL_dat, stoL_own, consO_some, SatO_some, S_call, kCall_u, S_if, S_ifS, kI_true, kI_false, S_andV, S_orV, kAndV_true, kAndV_false, kOrV_true, kOrV_false, S_test, kTest_, S_tru, kTru_, S_and, S_or, S_not, kAnd_true, kAnd_false, kOr_true, kOr_false, kNot_, S_seq, kS_nx, kS_rt, kS_bk, kS_ct, S_pass, S_set, kSet_dat, kSet_own, S_par, kP_, kPb_, S_ret', kR_, S_retN, S_break, S_cont, S_for, kF_, S_forNil, kFb_nx, kFb_ct, kFb_bk, kFb_rt, S_items, kItems_tup, kItems_lst, kItems_own, S_lc, kLc_, S_lcNil, S_yes, kD_rt, kD_nx, Rv.ret, gt, st, kVar_dat, kVar_own, o_add, o_sub, o_eq, o_ne, o_lt, o_le, o_gt, o_ge, o_eqB, o_neB, o_is2, o_isnot2, o_abs, o_ix, o_ixO, o_ixB, o_ixL, o_tupO, o_isBool, map_some', wp, tgN_, List.length_cons, List.length_nil, Nat.reduceAdd, Nat.reduceLeDiff, true_and, decide_true, decide_false, Bool.not_true, Bool.not_false, o_mul_u, o_div_u, o_mod_u, o_pow_u, o_eqS, o_neS, o_intB, o_lenS, o_lenO, o_lenB, o_iaddI, S_s1, kS1_, kS1b_, S_lm, kLm_bor, kLm_own, kLmb_, S_tab, o_ixT, o_ixS, S_put, kPut_, kPutK_, S_zip2, kZip_, kZipb_tup, o_sum, o_sumB, o_tupB, o_tupL, o_lenT, S_range1, kRng_3, S_tgtL, kTgtL_, List.nil_append, List.cons_append, Nat.reduceLT, SZ, forall_const, true_implies, S_callD, kCallD_, is_tt, is_ti, is_ts, is_ii, is_ss, is_bi]
      refine S_draw hb (by decide) (by decide) fun v s5 v0 v1 h5 => ?_
      simp only [S_var, S_C, S_op1, k1_, S_op2, k2_, k2b_, S_nil, S_cons, kc_, kcb_, S_opN, kN_, S_tup, S_lst, kT_u, kL_u, stoL_nil, stoL_dat, stoL_own, consO_some, SatO_some, S_call, kCall_u, S_if, S_ifS, kI_true, kI_false, S_andV, S_orV, kAndV_true, kAndV_false, kOrV_true, kOrV_false, S_test, kTest_, S_tru, kTru_, S_and, S_or, S_not, kAnd_true, kAnd_false, kOr_true, kOr_false, kNot_, S_seq, kS_nx, kS_rt, kS_bk, kS_ct, S_pass, S_set, kSet_dat, kSet_own, S_par, kP_, kPb_, S_ret', kR_, S_retN, S_break, S_cont, S_for, kF_, S_forNil, kFb_nx, kFb_ct, kFb_bk, kFb_rt, S_items, kItems_tup, kItems_lst, kItems_own, S_lc, kLc_, S_lcNil, S_yes, kD_rt, kD_nx, Rv.ret, gt, st, kVar_dat, kVar_own, o_add, o_sub, o_eq, o_ne, o_lt, o_le, o_gt, o_ge, o_eqB, o_neB, o_is2, o_isnot2, o_abs, o_ix, o_ixO, o_ixB, o_ixL, o_tupO, o_isBool, map_some', wp, tgN_, List.length_cons, List.length_nil, Nat.reduceAdd, Nat.reduceLeDiff, true_and, decide_true, decide_false, Bool.not_true, Bool.not_false, o_mul_u, o_div_u, o_mod_u, o_pow_u, o_eqS, o_neS, o_intB, o_lenS, o_lenO, o_lenB, o_iaddI, S_s1, kS1_, kS1b_, S_lm, kLm_bor, kLm_own, kLmb_, S_tab, o_ixT, o_ixS, S_put, kPut_, kPutK_, S_zip2, kZip_, kZipb_tup, o_sum, o_sumB, o_tupB, o_tupL, o_lenT, S_range1, kRng_3, S_tgtL, kTgtL_, List.nil_append, List.cons_append, Nat.reduceLT, SZ, forall_const, true_implies, S_callD, kCallD_, is_tt, is_ti, is_ts, is_ii, is_ss, is_bi]
      refine S_draw h5 (by decide) (by decide) fun k s6 k0 k1 h6 => ?_
      obtain ⟨x', y', z', j, hb, hp, e1, e2⟩ := setP hv (v := 1 + v) (by omega) k0 k1
      rw [kPutK_]
      show SatO (ixN 3 k) _ _
      rw [e1, SatO_some]
      show kS _ _ (.nx (st _ _ (.own ([D.int x, .int y, .int z].set j (.int (1 + v)))))) _
      rw [e2]
      simp only [S_var, S_C, S_op1, k1_, S_op2, k2_, k2b_, S_nil, S_cons, kc_, kcb_, S_opN, kN_, S_tup, S_lst, kT_u, kL_u, stoL_nil, stoL_dat, stoL_own, consO_some, SatO_some, S_call, kCall_u, S_if, S_ifS, kI_true, kI_false, S_andV, S_orV, kAndV_true, kAndV_false, kOrV_true, kOrV_false, S_test, kTest_, S_tru, kTru_, S_and, S_or, S_not, kAnd_true, kAnd_false, kOr_true, kOr_false, kNot_, S_seq, kS_nx, kS_rt, kS_bk, kS_ct, S_pass, S_set, kSet_dat, kSet_own, S_par, kP_, kPb_, S_ret', kR_, S_retN, S_break, S_cont, S_for, kF_, S_forNil, kFb_nx, kFb_ct, kFb_bk, kFb_rt, S_items, kItems_tup, kItems_lst, kItems_own, S_lc, kLc_, S_lcNil, S_yes, kD_rt, kD_nx, Rv.ret, gt, st, kVar_dat, kVar_own, o_add, o_sub, o_eq, o_ne, o_lt, o_le, o_gt, o_ge, o_eqB, o_neB, o_is2, o_isnot2, o_abs, o_ix, o_ixO, o_ixB, o_ixL, o_tupO, o_isBool, map_some', wp, tgN_, List.length_cons, List.length_nil, Nat.reduceAdd, Nat.reduceLeDiff, true_and, decide_true, decide_false, Bool.not_true, Bool.not_false, o_mul_u, o_div_u, o_mod_u, o_pow_u, o_eqS, o_neS, o_intB, o_lenS, o_lenO, o_lenB, o_iaddI, S_s1, kS1_, kS1b_, S_lm, kLm_bor, kLm_own, kLmb_, S_tab, o_ixT, o_ixS, S_put, kPut_, kPutK_, S_zip2, kZip_, kZipb_tup, o_sum, o_sumB, o_tupB, o_tupL, o_lenT, S_range1, kRng_3, S_tgtL, kTgtL_, List.nil_append, List.cons_append, Nat.reduceLT, SZ, forall_const, true_implies, S_callD, kCallD_, is_tt, is_ti, is_ts, is_ii, is_ss, is_bi]
      exact q x' y' z' s6 hb (hp (by omega)) (h6.le (by omega))
    · simp only [S_var, S_C, S_op1, k1_, S_op2, k2_, k2b_, S_nil, S_cons, kc_, kcb_, S_opN, kN_, S_tup, S_lst, kT_u, kL_u, stoL_nil, stoL_dat, stoL_own, consO_some, SatO_some, S_call, kCall_u, S_if, S_ifS, kI_true, kI_false, S_andV, S_orV, kAndV_true, kAndV_false, kOrV_true, kOrV_false, S_test, kTest_, S_tru, kTru_, S_and, S_or, S_not, kAnd_true, kAnd_false, kOr_true, kOr_false, kNot_, S_seq, kS_nx, kS_rt, kS_bk, kS_ct, S_pass, S_set, kSet_dat, kSet_own, S_par, kP_, kPb_, S_ret', kR_, S_retN, S_break, S_cont, S_for, kF_, S_forNil, kFb_nx, kFb_ct, kFb_bk, kFb_rt, S_items, kItems_tup, kItems_lst, kItems_own, S_lc, kLc_, S_lcNil, S_yes, kD_rt, kD_nx, Rv.ret, gt, st, kVar_dat, kVar_own, o_add, o_sub, o_eq, o_ne, o_lt, o_le, o_gt, o_ge, o_eqB, o_neB, o_is2, o_isnot2, o_abs, o_ix, o_ixO, o_ixB, o_ixL, o_tupO, o_isBool, map_some', wp, tgN_, List.length_cons, List.length_nil, Nat.reduceAdd, Nat.reduceLeDiff, true_and, decide_true, decide_false, Bool.not_true, Bool.not_false, o_mul_u, o_div_u, o_mod_u, o_pow_u, o_eqS, o_neS, o_intB, o_lenS, o_lenO, o_lenB, o_iaddI, S_s1, kS1_, kS1b_, S_lm, kLm_bor, kLm_own, kLmb_, S_tab, o_ixT, o_ixS, S_put, kPut_, kPutK_, S_zip2, kZip_, kZipb_tup, o_sum, o_sumB, o_tupB, o_tupL, o_lenT, S_range1, kRng_3, S_tgtL, kTgtL_, List.nil_append, List.cons_append, Nat.reduceLT, SZ, forall_const, true_implies, S_callD, kCallD_, is_tt, is_ti, is_ts, is_ii, is_ss, is_bi]
      exact q _ _ _ s' hv (by have hz := hz; simp only [List.sum_cons, List.sum_nil] at hz; obtain ⟨p1, p2, p3⟩ := hv; omega) (hb.le (by omega))
  have hv : Pb x y z := ⟨by omega, by omega, by omega⟩
  refine kI_d (fun _ => ?_) (fun _ => ?_)
  · rw [S_put rfl]
    simp only [S_var, S_C, S_op1, k1_, S_op2, k2_, k2b_, S_nil, S_cons, kc_, kcb_, S_opN, kN_, S_tup, S_lst, kT_u, kL_u, stoL_nil, stoL_dat, stoL_own, consO_some, SatO_some, S_call, kCall_u, S_if, S_ifS, kI_true, kI_false, S_andV, S_orV, kAndV_true, kAndV_false, kOrV_true, kOrV_false, S_test, kTest_, S_tru, kTru_, S_and, S_or, S_not, kAnd_true, kAnd_false, kOr_true, kOr_false, kNot_, S_seq, kS_nx, kS_rt, kS_bk, kS_ct, S_pass, S_set, kSet_dat, kSet_own, S_par, kP_, kPb_, S_ret', kR_, S_retN, S_break, S_cont, S_for, kF_, S_forNil, kFb_nx, kFb_ct, kFb_bk, kFb_rt, S_items, kItems_tup, kItems_lst, kItems_own, S_lc, kLc_, S_lcNil, S_yes, kD_rt, kD_nx, Rv.ret, gt, st, kVar_dat, kVar_own, o_add, o_sub, o_eq, o_ne, o_lt, o_le, o_gt, o_ge, o_eqB, o_neB, o_is2, o_isnot2, o_abs, o_ix, o_ixO, o_ixB, o_ixL, o_tupO, o_isBool, map_some', wp, tgN_, List.length_cons, List.length_nil, Nat.reduceAdd, Nat.reduceLeDiff, true_and, decide_true, decide_false, Bool.not_true, Bool.not_false, o_mul_u, o_div_u, o_mod_u, o_pow_u, o_eqS, o_neS, o_intB, o_lenS, o_lenO, o_lenB, o_iaddI, S_s1, kS1_, kS1b_, S_lm, kLm_bor, kLm_own, kLmb_, S_tab, o_ixT, o_ixS, S_put, kPut_, kPutK_, S_zip2, kZip_, kZipb_tup, o_sum, o_sumB, o_tupB, o_tupL, o_lenT, S_range1, kRng_3, S_tgtL, kTgtL_, List.nil_append, List.cons_append, Nat.reduceLT, SZ, forall_const, true_implies, S_callD, kCallD_, is_tt, is_ti, is_ts, is_ii, is_ss, is_bi]
    refine S_draw h4 (by decide) (by decide) fun k s5 k0 k1 h5 => ?_
    obtain ⟨x', y', z', j, hb, _, e1, e2⟩ := setP hv (v := 0) (by decide) k0 k1
    rw [kPutK_]
    show SatO (ixN 3 k) _ _
    rw [e1, SatO_some]
    show kS _ _ (.nx (st _ _ (.own ([D.int x, .int y, .int z].set j (.int 0))))) _
    rw [e2, kS_nx]
    exact fin x' y' z' s5 hb (h5.le (by omega))
  · exact fin x y z s4 hv (h4.le (by omega))
/-- bounds with room for a difference -/
def Wb (n : Nat) (x y z : Int) : Prop := x.natAbs < 2 ^ n ∧ y.natAbs < 2 ^ n ∧ z.natAbs < 2 ^ n
theorem zip3 (a b c d e f : D) : zipD [a, b, c] [d, e, f] = [.tup [a, d], .tup [b, e], .tup [c, f]] := rfl
theorem tg2 {i j : Nat} {x y : D} {e : Env} : tgT [i, j] (.tup [x, y]) e = some (st (st e i (.dat x)) j (.dat y)) := rfl
def worthM : MS LS := (mRet (mOpN oSum (mCons (mLc (mZip2 (mVar 0) (mVar 1)) (tgT [2, 3]) mYes (mOp2 oMul (mVar 2) (mVar 3)) [2, 3]) mNil)))
def worthF : MF LS := mDef 4 2 worthM
theorem S_worth {x y z p q r : Int} {s : LS} {Q : Rv → LS → Prop} (h : Wb 141 x y z) (k : Wb 141 p q r) (hq : Q (.dat (.int (x * p + y * q + z * r))) s) : Sat (worthF [v3 x y z, v3 p q r] s) Q := by
  obtain ⟨h1, h2, h3⟩ := h
  obtain ⟨k1, k2, k3⟩ := k
  unfold worthF
  rw [S_def (k := 2) (ds := [v3 x y z, v3 p q r]) rfl]
  show Sat (worthM [.dat (.tup [.int x, .int y, .int z]), .dat (.tup [.int p, .int q, .int r]), .un, .un] s) _
  unfold worthM
  simp only [S_var, S_C, S_op1, k1_, S_op2, k2_, k2b_, S_nil, S_cons, kc_, kcb_, S_opN, kN_, S_tup, S_lst, kT_u, kL_u, stoL_nil, stoL_dat, stoL_own, consO_some, SatO_some, S_call, kCall_u, S_if, S_ifS, kI_true, kI_false, S_andV, S_orV, kAndV_true, kAndV_false, kOrV_true, kOrV_false, S_test, kTest_, S_tru, kTru_, S_and, S_or, S_not, kAnd_true, kAnd_false, kOr_true, kOr_false, kNot_, S_seq, kS_nx, kS_rt, kS_bk, kS_ct, S_pass, S_set, kSet_dat, kSet_own, S_par, kP_, kPb_, S_ret', kR_, S_retN, S_break, S_cont, S_for, kF_, S_forNil, kFb_nx, kFb_ct, kFb_bk, kFb_rt, S_items, kItems_tup, kItems_lst, kItems_own, S_lc, kLc_, S_lcNil, S_yes, kD_rt, kD_nx, Rv.ret, gt, st, kVar_dat, kVar_own, o_add, o_sub, o_eq, o_ne, o_lt, o_le, o_gt, o_ge, o_eqB, o_neB, o_is2, o_isnot2, o_abs, o_ix, o_ixO, o_ixB, o_ixL, o_tupO, o_isBool, map_some', wp, tgN_, List.length_cons, List.length_nil, Nat.reduceAdd, Nat.reduceLeDiff, true_and, decide_true, decide_false, Bool.not_true, Bool.not_false, o_mul_u, o_div_u, o_mod_u, o_pow_u, o_eqS, o_neS, o_intB, o_lenS, o_lenO, o_lenB, o_iaddI, S_s1, kS1_, kS1b_, S_lm, kLm_bor, kLm_own, kLmb_, S_tab, o_ixT, o_ixS, S_put, kPut_, kPutK_, S_zip2, kZip_, kZipb_tup, o_sum, o_sumB, o_tupB, o_tupL, o_lenT, S_range1, kRng_3, S_tgtL, kTgtL_, List.nil_append, List.cons_append, Nat.reduceLT, SZ, forall_const, true_implies, S_callD, kCallD_, is_tt, is_ti, is_ts, is_ii, is_ss, is_bi, zip3]
  rw [S_lcCons tg2]
  simp only [S_var, S_C, S_op1, k1_, S_op2, k2_, k2b_, S_nil, S_cons, kc_, kcb_, S_opN, kN_, S_tup, S_lst, kT_u, kL_u, stoL_nil, stoL_dat, stoL_own, consO_some, SatO_some, S_call, kCall_u, S_if, S_ifS, kI_true, kI_false, S_andV, S_orV, kAndV_true, kAndV_false, kOrV_true, kOrV_false, S_test, kTest_, S_tru, kTru_, S_and, S_or, S_not, kAnd_true, kAnd_false, kOr_true, kOr_false, kNot_, S_seq, kS_nx, kS_rt, kS_bk, kS_ct, S_pass, S_set, kSet_dat, kSet_own, S_par, kP_, kPb_, S_ret', kR_, S_retN, S_break, S_cont, S_for, kF_, S_forNil, kFb_nx, kFb_ct, kFb_bk, kFb_rt, S_items, kItems_tup, kItems_lst, kItems_own, S_lc, kLc_, S_lcNil, S_yes, kD_rt, kD_nx, Rv.ret, gt, st, kVar_dat, kVar_own, o_add, o_sub, o_eq, o_ne, o_lt, o_le, o_gt, o_ge, o_eqB, o_neB, o_is2, o_isnot2, o_abs, o_ix, o_ixO, o_ixB, o_ixL, o_tupO, o_isBool, map_some', wp, tgN_, List.length_cons, List.length_nil, Nat.reduceAdd, Nat.reduceLeDiff, true_and, decide_true, decide_false, Bool.not_true, Bool.not_false, o_mul_u, o_div_u, o_mod_u, o_pow_u, o_eqS, o_neS, o_intB, o_lenS, o_lenO, o_lenB, o_iaddI, S_s1, kS1_, kS1b_, S_lm, kLm_bor, kLm_own, kLmb_, S_tab, o_ixT, o_ixS, S_put, kPut_, kPutK_, S_zip2, kZip_, kZipb_tup, o_sum, o_sumB, o_tupB, o_tupL, o_lenT, S_range1, kRng_3, S_tgtL, kTgtL_, List.nil_append, List.cons_append, Nat.reduceLT, SZ, forall_const, true_implies, S_callD, kCallD_, is_tt, is_ti, is_ts, is_ii, is_ss, is_bi, kLcT_true, kLcA_dat]
  refine ⟨mulOk (a := 141) (b := 141) h1 k1 (by decide) (by decide) (by decide), ?_⟩
  rw [S_lcCons tg2]
  simp only [S_var, S_C, S_op1, k1_, S_op2, k2_, k2b_, S_nil, S_cons, kc_, kcb_, S_opN, kN_, S_tup, S_lst, kT_u, kL_u, stoL_nil, stoL_dat, stoL_own, consO_some, SatO_some, S_call, kCall_u, S_if, S_ifS, kI_true, kI_false, S_andV, S_orV, kAndV_true, kAndV_false, kOrV_true, kOrV_false, S_test, kTest_, S_tru, kTru_, S_and, S_or, S_not, kAnd_true, kAnd_false, kOr_true, kOr_false, kNot_, S_seq, kS_nx, kS_rt, kS_bk, kS_ct, S_pass, S_set, kSet_dat, kSet_own, S_par, kP_, kPb_, S_ret', kR_, S_retN, S_break, S_cont, S_for, kF_, S_forNil, kFb_nx, kFb_ct, kFb_bk, kFb_rt, S_items, kItems_tup, kItems_lst, kItems_own, S_lc, kLc_, S_lcNil, S_yes, kD_rt, kD_nx, Rv.ret, gt, st, kVar_dat, kVar_own, o_add, o_sub, o_eq, o_ne, o_lt, o_le, o_gt, o_ge, o_eqB, o_neB, o_is2, o_isnot2, o_abs, o_ix, o_ixO, o_ixB, o_ixL, o_tupO, o_isBool, map_some', wp, tgN_, List.length_cons, List.length_nil, Nat.reduceAdd, Nat.reduceLeDiff, true_and, decide_true, decide_false, Bool.not_true, Bool.not_false, o_mul_u, o_div_u, o_mod_u, o_pow_u, o_eqS, o_neS, o_intB, o_lenS, o_lenO, o_lenB, o_iaddI, S_s1, kS1_, kS1b_, S_lm, kLm_bor, kLm_own, kLmb_, S_tab, o_ixT, o_ixS, S_put, kPut_, kPutK_, S_zip2, kZip_, kZipb_tup, o_sum, o_sumB, o_tupB, o_tupL, o_lenT, S_range1, kRng_3, S_tgtL, kTgtL_, List.nil_append, List.cons_append, Nat.reduceLT, SZ, forall_const, true_implies, S_callD, kCallD_, is_tt, is_ti, is_ts, is_ii, is_ss, is_bi, kLcT_true, kLcA_dat]
  refine ⟨mulOk (a := 141) (b := 141) h2 k2 (by decide) (by decide) (by decide), ?_⟩
  rw [S_lcCons tg2]
  simp only [S_var, S_C, S_op1, k1_, S_op2, k2_, k2b_, S_nil, S_cons, kc_, kcb_, S_opN, kN_, S_tup, S_lst, kT_u, kL_u, stoL_nil, stoL_dat, stoL_own, consO_some, SatO_some, S_call, kCall_u, S_if, S_ifS, kI_true, kI_false, S_andV, S_orV, kAndV_true, kAndV_false, kOrV_true, kOrV_false, S_test, kTest_, S_tru, kTru_, S_and, S_or, S_not, kAnd_true, kAnd_false, kOr_true, kOr_false, kNot_, S_seq, kS_nx, kS_rt, kS_bk, kS_ct, S_pass, S_set, kSet_dat, kSet_own, S_par, kP_, kPb_, S_ret', kR_, S_retN, S_break, S_cont, S_for, kF_, S_forNil, kFb_nx, kFb_ct, kFb_bk, kFb_rt, S_items, kItems_tup, kItems_lst, kItems_own, S_lc, kLc_, S_lcNil, S_yes, kD_rt, kD_nx, Rv.ret, gt, st, kVar_dat, kVar_own, o_add, o_sub, o_eq, o_ne, o_lt, o_le, o_gt, o_ge, o_eqB, o_neB, o_is2, o_isnot2, o_abs, o_ix, o_ixO, o_ixB, o_ixL, o_tupO, o_isBool, map_some', wp, tgN_, List.length_cons, List.length_nil, Nat.reduceAdd, Nat.reduceLeDiff, true_and, decide_true, decide_false, Bool.not_true, Bool.not_false, o_mul_u, o_div_u, o_mod_u, o_pow_u, o_eqS, o_neS, o_intB, o_lenS, o_lenO, o_lenB, o_iaddI, S_s1, kS1_, kS1b_, S_lm, kLm_bor, kLm_own, kLmb_, S_tab, o_ixT, o_ixS, S_put, kPut_, kPutK_, S_zip2, kZip_, kZipb_tup, o_sum, o_sumB, o_tupB, o_tupL, o_lenT, S_range1, kRng_3, S_tgtL, kTgtL_, List.nil_append, List.cons_append, Nat.reduceLT, SZ, forall_const, true_implies, S_callD, kCallD_, is_tt, is_ti, is_ts, is_ii, is_ss, is_bi, kLcT_true, kLcA_dat]
  refine ⟨mulOk (a := 141) (b := 141) h3 k3 (by decide) (by decide) (by decide), ?_⟩
  simp only [S_var, S_C, S_op1, k1_, S_op2, k2_, k2b_, S_nil, S_cons, kc_, kcb_, S_opN, kN_, S_tup, S_lst, kT_u, kL_u, stoL_nil, stoL_dat, stoL_own, consO_some, SatO_some, S_call, kCall_u, S_if, S_ifS, kI_true, kI_false, S_andV, S_orV, kAndV_true, kAndV_false, kOrV_true, kOrV_false, S_test, kTest_, S_tru, kTru_, S_and, S_or, S_not, kAnd_true, kAnd_false, kOr_true, kOr_false, kNot_, S_seq, kS_nx, kS_rt, kS_bk, kS_ct, S_pass, S_set, kSet_dat, kSet_own, S_par, kP_, kPb_, S_ret', kR_, S_retN, S_break, S_cont, S_for, kF_, S_forNil, kFb_nx, kFb_ct, kFb_bk, kFb_rt, S_items, kItems_tup, kItems_lst, kItems_own, S_lc, kLc_, S_lcNil, S_yes, kD_rt, kD_nx, Rv.ret, gt, st, kVar_dat, kVar_own, o_add, o_sub, o_eq, o_ne, o_lt, o_le, o_gt, o_ge, o_eqB, o_neB, o_is2, o_isnot2, o_abs, o_ix, o_ixO, o_ixB, o_ixL, o_tupO, o_isBool, map_some', wp, tgN_, List.length_cons, List.length_nil, Nat.reduceAdd, Nat.reduceLeDiff, true_and, decide_true, decide_false, Bool.not_true, Bool.not_false, o_mul_u, o_div_u, o_mod_u, o_pow_u, o_eqS, o_neS, o_intB, o_lenS, o_lenO, o_lenB, o_iaddI, S_s1, kS1_, kS1b_, S_lm, kLm_bor, kLm_own, kLmb_, S_tab, o_ixT, o_ixS, S_put, kPut_, kPutK_, S_zip2, kZip_, kZipb_tup, o_sum, o_sumB, o_tupB, o_tupL, o_lenT, S_range1, kRng_3, S_tgtL, kTgtL_, List.nil_append, List.cons_append, Nat.reduceLT, SZ, forall_const, true_implies, S_callD, kCallD_, is_tt, is_ti, is_ts, is_ii, is_ss, is_bi, dInts, map_some', List.sum_cons, List.sum_nil]
  rw [show x * p + (y * q + (z * r + 0)) = x * p + y * q + z * r by omega]
  exact hq
theorem at30 (x y z : D) : atI [x, y, z] 0 = some x := rfl
theorem at31 (x y z : D) : atI [x, y, z] 1 = some y := rfl
theorem at32 (x y z : D) : atI [x, y, z] 2 = some z := rfl
end PB

set_option Elab.async false
set_option linter.all false
set_option maxRecDepth 10000
set_option exponentiation.threshold 2000
namespace PB
/-! ### lowest terms of three -/
def g3 (x y z : Int) : Nat := gcdL [x, y, z] 0
def low3 (x y z : Int) : D := v3 (x / (g3 x y z : Nat)) (y / (g3 x y z : Nat)) (z / (g3 x y z : Nat))
theorem low3_eq {d : D} {x y z : Int} {s : LS} (hd : d = .tup [.int x, .int y, .int z] ∨ d = .lst [.int x, .int y, .int z]) (h : x ≠ 0 ∨ y ≠ 0 ∨ z ≠ 0) (hx : x.natAbs < 2 ^ 1000) (hy : y.natAbs < 2 ^ 1000) (hz : z.natAbs < 2 ^ 1000) : lowestF [d] s = .ok (.dat (low3 x y z)) s := by
  refine Sat.eq fun Q q => S_lowestN (ns := [x, y, z]) hd (fun n hn => ?_) (gcdL_pos (.inr ?_)) (by show 3 ≤ 1000; decide) q
  · rcases List.mem_cons.mp hn with rfl | hn
    · exact hx
    · rcases List.mem_cons.mp hn with rfl | hn
      · exact hy
      · rcases List.mem_cons.mp hn with rfl | hn
        · exact hz
        · cases hn
  · rcases h with h | h | h
    · exact ⟨x, by simp, h⟩
    · exact ⟨y, by simp, h⟩
    · exact ⟨z, by simp, h⟩
theorem gcdL_mul (k : Nat) : ∀ (l : List Int) (g : Nat), gcdL (l.map (· * (k : Int))) (g * k) = gcdL l g * k := by
  intro l
  induction l with
  | nil => intro g; rfl
  | cons n r ih =>
    intro g
    show gcdL _ (Nat.gcd (g * k) (n * (k : Int)).natAbs) = gcdL r (Nat.gcd g n.natAbs) * k
    rw [Int.natAbs_mul, Int.natAbs_natCast, Nat.gcd_mul_right]
    exact ih _
theorem low3_mul {x y z : Int} {k : Nat} (hk : 0 < k) : low3 (x * k) (y * k) (z * k) = low3 x y z := by
  have h : g3 (x * k) (y * k) (z * k) = g3 x y z * k := by
    have := gcdL_mul k [x, y, z] 0
    rw [Nat.zero_mul] at this
    exact this
  have kp : (k : Int) ≠ 0 := by omega
  unfold low3
  rw [h, Int.natCast_mul, Int.mul_ediv_mul_of_pos_left _ _ (by omega), Int.mul_ediv_mul_of_pos_left _ _ (by omega), Int.mul_ediv_mul_of_pos_left _ _ (by omega)]
/-- two of the same ratio come to the same -/
theorem low3_same {x y z p q r k m : Int} (hk : 0 < k) (hm : 0 < m) (h1 : x * k = p * m) (h2 : y * k = q * m) (h3 : z * k = r * m) : low3 x y z = low3 p q r := by
  obtain ⟨k, rfl⟩ := Int.eq_ofNat_of_zero_le (Int.le_of_lt hk)
  obtain ⟨m, rfl⟩ := Int.eq_ofNat_of_zero_le (Int.le_of_lt hm)
  rw [← low3_mul (k := k) (by omega), h1, h2, h3, low3_mul (by omega)]
end PB

set_option Elab.async false
set_option linter.all false
set_option maxRecDepth 10000
set_option exponentiation.threshold 2000
namespace PB
/-! ### texts: signs, slices, texts drawn sign by sign -/
section
variable {γ : Type} {g : γ} {Q : Rv → γ → Prop} {QI : List D → γ → Prop} {e : Env} {t : MT γ} {a b : ME γ}
def kSigns (Q : List D → γ → Prop) (x : Rv) (g : γ) : Prop := match x with
  | .dat (.str s) => Q (s.map fun c => .str [c]) g
  | _ => False
theorem S_signs : Sat (mSigns a e g) QI = Sat (a e g) (kSigns QI) := by
  unfold mSigns kSigns
  rw [Sat_bind]
  congr 1
  funext x g
  cases x with
  | dat d => cases d <;> rfl
  | own d => rfl
  | bor d => rfl
theorem kSigns_ {s : List Nat} : kSigns QI (.dat (.str s)) g = QI (s.map fun c => .str [c]) g := rfl
/-- s[lo:hi] -/
def kCut2 (x : Rv) (l : Option Int) (Q : Rv → γ → Prop) (h : Option Int) (g : γ) : Prop := SatO (oCut x l h) Q g
theorem S_cutN : Sat (mCut a none none e g) Q = Sat (a e g) fun x g => SatO (oCut x none none) Q g := by
  unfold mCut
  rw [Sat_bind]
  congr 1
  funext x g
  exact Sat_ofO _ _ _
def kHi (x : Rv) (l : Option Int) (Q : Rv → γ → Prop) (y : Rv) (g : γ) : Prop := match y with
  | .dat (.int i) => SatO (oCut x l (some i)) Q g
  | _ => False
def kLo (x : Rv) (Q : Rv → γ → Prop) (y : Rv) (g : γ) : Prop := match y with
  | .dat (.int i) => SatO (oCut x (some i) none) Q g
  | _ => False
theorem S_cutH : Sat (mCut a none (some b) e g) Q = Sat (a e g) fun x g => Sat (b e g) (kHi x none Q) := by
  unfold mCut
  rw [Sat_bind]
  congr 1
  funext x g
  show Sat ((mPart (some b) e g).bind fun h g3 => ofO (oCut x none h) g3) Q = _
  unfold mPart
  rw [Sat_bind, Sat_bind]
  congr 1
  funext y g
  cases y with
  | dat d => cases d <;> first | exact Sat_ofO _ _ _ | rfl
  | own d => rfl
  | bor d => rfl
theorem S_cutL : Sat (mCut a (some b) none e g) Q = Sat (a e g) fun x g => Sat (b e g) (kLo x Q) := by
  unfold mCut
  rw [Sat_bind]
  congr 1
  funext x g
  show Sat ((mPart (some b) e g).bind fun l g2 => (mPart none e g2).bind fun h g3 => ofO (oCut x l h) g3) Q = _
  unfold mPart
  rw [Sat_bind, Sat_bind]
  congr 1
  funext y g
  cases y with
  | dat d => cases d <;> first | exact Sat_ofO _ _ _ | rfl
  | own d => rfl
  | bor d => rfl
theorem kHi_ {s : List Nat} {l : Option Int} {i : Int} : kHi (.dat (.str s)) l Q (.dat (.int i)) g = Q (.dat (.str (cut s l (some i)))) g := rfl
theorem kLo_ {s : List Nat} {i : Int} : kLo (.dat (.str s)) Q (.dat (.int i)) g = Q (.dat (.str (cut s (some i) none))) g := rfl
/-- a comprehension whose elements are only known to be of a kind -/
theorem S_lcD {tg : MG} {ds : List D} (hl : ds.length ≤ SZ) (P : D → Prop) (I : Nat → γ → Prop) (h0 : I ds.length g)
    (hs : ∀ d ∈ ds, ∀ k g, I (k + 1) g → ∃ e1, tg d e = some e1 ∧ Sat (t e1 g) fun c g1 => c = true ∧ Sat (a e1 g1) fun r g2 => ∃ y, r.sto = some y ∧ P y ∧ I k g2)
    (hd : ∀ ys g, ys.length = ds.length → (∀ y ∈ ys, P y) → I 0 g → Q (.own ys) g) : Sat (lcL tg t a e ds [] g) Q := by
  have key : ∀ post ys g, ys.length + post.length = ds.length → (∀ y ∈ ys, P y) → (∀ d ∈ post, d ∈ ds) → I post.length g → Sat (lcL tg t a e post ys g) Q := by
    intro post
    induction post with
    | nil =>
      intro ys g hn hp _ hi
      exact hd ys g (by simpa using hn) hp hi
    | cons d post ih =>
      intro ys g hn hp hm hi
      obtain ⟨e1, h1, h2⟩ := hs d (hm d (by simp)) post.length g hi
      rw [S_lcCons h1]
      refine h2.mono fun c g1 q => ?_
      obtain ⟨rfl, q⟩ := q
      rw [kLcT_true]
      refine q.mono fun r g2 q2 => ?_
      obtain ⟨y, e2, py, hi2⟩ := q2
      unfold kLcA
      rw [e2]
      rw [List.length_cons] at hn
      refine ⟨by omega, ih (ys ++ [y]) g2 (by rw [List.length_append]; simp; omega) (fun z hz => ?_) (fun d hd => hm d (by simp [hd])) hi2⟩
      rcases List.mem_append.mp hz with hz | hz
      · exact hp z hz
      · rw [List.mem_singleton.mp hz]
        exact py
  exact key ds [] g (by simp) (fun y hy => by cases hy) (fun d h => h) h0
end
theorem signs_of {ys : List D} (h : ∀ y ∈ ys, ∃ c, y = .str [c]) : ∃ cs : List Nat, ys = cs.map fun c => .str [c] := by
  induction ys with
  | nil => exact ⟨[], rfl⟩
  | cons y r ih =>
    obtain ⟨c, rfl⟩ := h y (by simp)
    obtain ⟨cs, rfl⟩ := ih fun z hz => h z (by simp [hz])
    exact ⟨c :: cs, rfl⟩
theorem dBls_map {α : Type} (f : α → Bool) (ls : List α) : dBls (ls.map fun x => .bl (f x)) = some (ls.map f) := by
  induction ls with
  | nil => rfl
  | cons x xs ih =>
    show (dBls _).map _ = _
    rw [ih]
    rfl
theorem o_all_map {α : Type} (f : α → Bool) (ls : List α) : oAll [.own (ls.map fun x => .bl (f x))] = some (.dat (.bl (ls.all f))) := by
  show (dBls _).map _ = _
  rw [dBls_map]
  show some (dB _) = _
  rw [List.all_map]
  rfl
theorem cutLenLe {α : Type} (s : List α) (l h : Option Int) : (cut s l h).length ≤ s.length := by
  unfold cut
  first
    | (rw [List.length_take, List.length_drop]; omega)
    | (rw [List.length_drop, List.length_take]; omega)
/-! the small letters -/
abbrev az : List Nat := [97, 98, 99, 100, 101, 102, 103, 104, 105, 106, 107, 108, 109, 110, 111, 112, 113, 114, 115, 116, 117, 118, 119, 120, 121, 122]
abbrev AZ : List Nat := [65, 66, 67, 68, 69, 70, 71, 72, 73, 74, 75, 76, 77, 78, 79, 80, 81, 82, 83, 84, 85, 86, 87, 88, 89, 90]
theorem o_upper : oUpper az = some (.dat (.str AZ)) := if_pos rfl
def lineSignM : MS LS := (mSeq (mSet 1 (mC (.str [97, 98, 99, 100, 101, 102, 103, 104, 105, 106, 107, 108, 109, 110, 111, 112, 113, 114, 115, 116, 117, 118, 119, 120, 121, 122])))
    (mSeq (mSet 2 (mOp2 oAdd (mOp2 oAdd (mOp2 oAdd (mOp2 oAdd (mC (.str [32, 33, 34, 35, 36, 38, 39, 40, 41, 42, 43, 44, 45, 46, 47, 48, 49, 50, 51, 52, 53, 54, 55, 56, 57, 58, 59, 60, 61, 62, 63, 64])) (mS0 oUpper (mVar 1))) (mC (.str [91, 92, 93, 94, 95, 96]))) (mVar 1)) (mC (.str [123, 124, 125, 126, 10]))))
    (mRet (mOp2 oIx (mVar 2) (mCall drawF (mCons (mVar 0) (mCons (mOpN oLen (mCons (mVar 2) mNil)) mNil)))))))
def lineSignF : MF LS := mDef 3 1 lineSignM
abbrev allSigns : List Nat := [32, 33, 34, 35, 36, 38, 39, 40, 41, 42, 43, 44, 45, 46, 47, 48, 49, 50, 51, 52, 53, 54, 55, 56, 57, 58, 59, 60, 61, 62, 63, 64] ++ AZ ++ [91, 92, 93, 94, 95, 96] ++ az ++ [123, 124, 125, 126, 10]
theorem S_lineSign {a b : Nat} {s : LS} {Q : Rv → LS → Prop} (h : Bud a (b + 1) s) (q : ∀ (c : Nat) (s' : LS), c ∈ allSigns → Bud a b s' → Q (.dat (.str [c])) s') : Sat (lineSignF [.ref a] s) Q := by
  unfold lineSignF
  rw [S_def (k := 1) (ds := [.ref a]) rfl]
  show Sat (lineSignM [.dat (.ref a), .un, .un] s) _
  unfold lineSignM
  have st1 : ∀ (e : Env) (g : LS) {Q : Rv → LS → Prop}, gt e 1 = .dat (.str az) → Q (.dat (.str allSigns)) g → Sat (mOp2 oAdd (mOp2 oAdd (mOp2 oAdd (mOp2 oAdd (mC (.str [32, 33, 34, 35, 36, 38, 39, 40, 41, 42, 43, 44, 45, 46, 47, 48, 49, 50, 51, 52, 53, 54, 55, 56, 57, 58, 59, 60, 61, 62, 63, 64])) (mS0 oUpper (mVar 1))) (mC (.str [91, 92, 93, 94, 95, 96]))) (mVar 1)) (mC (.str [123, 124, 125, 126, 10])) e g) Q := by
    intro e g Q he q
    refine Sat_is ?_ q
    unfold mOp2 mS0 mVar mC
    simp only [he, Rs.bind, o_upper, ofO]
    rfl
  simp only [S_seq, S_set, S_C, kSet_dat, kS_nx, st]
  refine st1 _ _ rfl ?_
  simp only [S_op2, S_var, gt, st, kVar_dat, kSet_dat, kS_nx, S_ret', k2_, S_call, S_cons, S_nil, kc_, kcb_, S_opN, kN_, o_lenS, SatO_some, kCall_u, stoL_dat, stoL_nil, consO_some]
  have hl : allSigns.length = 95 := by decide
  refine S_draw h (by rw [hl]; decide) (by rw [hl]; decide) fun k s1 k0 k1 h1 => ?_
  obtain ⟨c, hc, e⟩ := atI_nat k0 k1
  rw [k2b_, o_ixS, e]
  exact q c s1 hc h1
/-- ''.join(signs drawn out of a text) -/
theorem S_drawn {a b : Nat} {L : List Nat} {n : Nat} {s : LS} {Q : Rv → LS → Prop} {e : Env} {j : Nat} (h : Bud a (b + n) s) (hn : n ≤ 1000) (h0 : 0 < L.length) (h1 : L.length ≤ 1000)
    (he : ∀ (g : LS) (k : Int), gt (st e j (.dat (.int k))) 0 = .dat (.ref a))
    (q : ∀ (cs : List Nat) (s' : LS), cs.length = n → (∀ c ∈ cs, c ∈ L) → Bud a b s' → Q (.own (cs.map fun c => .str [c])) s') :
    Sat (lcL (tgN j) mYes (mOp2 oIx (mC (.str L)) (mCall drawF (mCons (mVar 0) (mCons (mC (.int L.length)) mNil)))) e (rng 0 n) [] s) Q := by
  refine S_lcD (by rw [rng_lenD]; show n ≤ 16777216; omega) (fun y => ∃ c ∈ L, y = .str [c]) (fun k g => Bud a (b + k) g) (by rw [rng_lenD]; exact h) (fun d hd k g hB => ?_) (fun ys g hy hp hB => ?_)
  · rw [rng_map] at hd
    obtain ⟨m, _, rfl⟩ := List.mem_map.mp hd
    refine ⟨_, rfl, ?_⟩
    rw [S_yes]
    refine ⟨rfl, ?_⟩
    simp only [S_op2, S_C, k2_, S_call, S_cons, S_nil, S_var, he g, kVar_dat, kc_, kcb_, kCall_u, stoL_dat, stoL_nil, consO_some, SatO_some]
    refine S_draw (b := b + k) hB (by omega) (by have : (1000 : Int) ≤ 10 ^ 90 := by decide
                                                 omega) fun i s1 i0 i1 h1 => ?_
    obtain ⟨c, hc, e⟩ := atI_nat i0 i1
    rw [k2b_, o_ixS, e]
    exact ⟨.str [c], rfl, ⟨c, hc, rfl⟩, h1⟩
  · obtain ⟨cs, rfl⟩ := signs_of fun y hy => by
      obtain ⟨c, _, e⟩ := hp y hy
      exact ⟨c, e⟩
    refine q cs g ?_ (fun c hc => ?_) hB
    · rw [List.length_map, rng_lenD] at hy
      exact hy
    · obtain ⟨c', h1, h2⟩ := hp (.str [c]) (List.mem_map.mpr ⟨c, hc, rfl⟩)
      cases h2
      exact h1
theorem o_joinS (cs : List Nat) (h : cs.length ≤ SZ) : oJoin [] (.own (cs.map fun c => .str [c])) = some (.dat (.str cs)) := by
  rw [o_join (fun c => [c]) cs (by
    have : (cs.map fun c => ([c] : List Nat).length).sum = cs.length := by
      induction cs with
      | nil => rfl
      | cons x xs ih =>
        rw [List.map_cons, List.sum_cons, ih (by rw [List.length_cons] at h; omega), List.length_cons]
        simp
        omega
    rw [this]
    exact h)]
  congr 3
  induction cs with
  | nil => rfl
  | cons x xs ih => rw [List.flatMap_cons, ih (by rw [List.length_cons] at h; omega)]; rfl
end PB

set_option Elab.async false
set_option linter.all false
set_option maxRecDepth 10000
set_option exponentiation.threshold 2000
namespace PB
/-! ### scripts as drawn: what their steps are, how long their ends are -/
def Good (x : Mv) : Prop := match x with
  | .keep c => c ∈ az
  | .oth c e => c ∈ az ∧ e ∈ az ∧ c ≠ e
  | .out c => c ∈ az
  | .inn c => c ∈ az
theorem sign_atM {L : List Nat} {k : Int} (h0 : 0 ≤ k) (h1 : k < L.length) : ∃ c ∈ L, oIx (.dat (.str L)) (.dat (.int k)) = some (.dat (.str [c])) := by
  obtain ⟨c, hc, e⟩ := atI_nat h0 h1
  exact ⟨c, hc, by rw [o_ixS, e]; rfl⟩
theorem S_alphabetM {a b : Nat} {s : LS} {Q : Rv → LS → Prop} (h : Bud a (b + 4) s) (q : ∀ (L : List Nat) (s' : LS), 0 < L.length → L.length ≤ 26 → (∀ c ∈ L, c ∈ az) → Bud a b s' → Q (.dat (.str L)) s') : Sat (alphaF [.ref a] s) Q := by
  unfold alphaF
  rw [S_def (k := 1) (ds := [.ref a]) rfl]
  show Sat (alphaM [.dat (.ref a), .un, .un, .un, .un, .un] s) _
  unfold alphaM
  simp only [S_var, S_C, S_op1, k1_, S_op2, k2_, k2b_, S_nil, S_cons, kc_, kcb_, S_opN, kN_, S_tup, S_lst, kT_u, kL_u, stoL_nil, stoL_dat, stoL_own, consO_some, SatO_some, S_call, kCall_u, S_if, S_ifS, kI_true, kI_false, S_andV, S_orV, kAndV_true, kAndV_false, kOrV_true, kOrV_false, S_test, kTest_, S_tru, kTru_, S_and, S_or, S_not, kAnd_true, kAnd_false, kOr_true, kOr_false, kNot_, S_seq, kS_nx, kS_rt, kS_bk, kS_ct, S_pass, S_set, kSet_dat, kSet_own, S_par, kP_, kPb_, S_ret', kR_, S_retN, S_break, S_cont, S_for, kF_, S_forNil, kFb_nx, kFb_ct, kFb_bk, kFb_rt, S_items, kItems_tup, kItems_lst, kItems_own, S_lc, kLc_, S_lcNil, S_yes, kD_rt, kD_nx, Rv.ret, gt, st, kVar_dat, kVar_own, o_add, o_sub, o_eq, o_ne, o_lt, o_le, o_gt, o_ge, o_eqB, o_neB, o_is2, o_isnot2, o_abs, o_ix, o_ixO, o_ixB, o_ixL, o_tupO, o_isBool, map_some', wp, tgN_, List.length_cons, List.length_nil, Nat.reduceAdd, Nat.reduceLeDiff, true_and, decide_true, decide_false, Bool.not_true, Bool.not_false, o_mul_u, o_div_u, o_mod_u, o_pow_u, o_eqS, o_neS, o_intB, o_lenS, o_lenO, o_lenB, o_iaddI, S_s1, kS1_, kS1b_, S_lm, kLm_bor, kLm_own, kLmb_, S_tab, o_ixT, o_ixS, S_put, kPut_, kPutK_, S_zip2, kZip_, kZipb_tup, o_sum, o_sumB, o_tupB, o_tupL, o_lenT, S_range1, kRng_3, S_tgtL, kTgtL_, List.nil_append, List.cons_append, Nat.reduceLT, SZ, forall_const, true_implies, S_callD, kCallD_, is_tt, is_ti, is_ts, is_ii, is_ss, is_bi]
  refine S_draw h (by decide) (by decide) fun wy s1 wy0 wy1 h1 => ?_
  simp only [S_var, S_C, S_op1, k1_, S_op2, k2_, k2b_, S_nil, S_cons, kc_, kcb_, S_opN, kN_, S_tup, S_lst, kT_u, kL_u, stoL_nil, stoL_dat, stoL_own, consO_some, SatO_some, S_call, kCall_u, S_if, S_ifS, kI_true, kI_false, S_andV, S_orV, kAndV_true, kAndV_false, kOrV_true, kOrV_false, S_test, kTest_, S_tru, kTru_, S_and, S_or, S_not, kAnd_true, kAnd_false, kOr_true, kOr_false, kNot_, S_seq, kS_nx, kS_rt, kS_bk, kS_ct, S_pass, S_set, kSet_dat, kSet_own, S_par, kP_, kPb_, S_ret', kR_, S_retN, S_break, S_cont, S_for, kF_, S_forNil, kFb_nx, kFb_ct, kFb_bk, kFb_rt, S_items, kItems_tup, kItems_lst, kItems_own, S_lc, kLc_, S_lcNil, S_yes, kD_rt, kD_nx, Rv.ret, gt, st, kVar_dat, kVar_own, o_add, o_sub, o_eq, o_ne, o_lt, o_le, o_gt, o_ge, o_eqB, o_neB, o_is2, o_isnot2, o_abs, o_ix, o_ixO, o_ixB, o_ixL, o_tupO, o_isBool, map_some', wp, tgN_, List.length_cons, List.length_nil, Nat.reduceAdd, Nat.reduceLeDiff, true_and, decide_true, decide_false, Bool.not_true, Bool.not_false, o_mul_u, o_div_u, o_mod_u, o_pow_u, o_eqS, o_neS, o_intB, o_lenS, o_lenO, o_lenB, o_iaddI, S_s1, kS1_, kS1b_, S_lm, kLm_bor, kLm_own, kLmb_, S_tab, o_ixT, o_ixS, S_put, kPut_, kPutK_, S_zip2, kZip_, kZipb_tup, o_sum, o_sumB, o_tupB, o_tupL, o_lenT, S_range1, kRng_3, S_tgtL, kTgtL_, List.nil_append, List.cons_append, Nat.reduceLT, SZ, forall_const, true_implies, S_callD, kCallD_, is_tt, is_ti, is_ts, is_ii, is_ss, is_bi]
  refine S_draw h1 (by decide) (by decide) fun f s2 f0 f1 h2 => ?_
  simp only [S_var, S_C, S_op1, k1_, S_op2, k2_, k2b_, S_nil, S_cons, kc_, kcb_, S_opN, kN_, S_tup, S_lst, kT_u, kL_u, stoL_nil, stoL_dat, stoL_own, consO_some, SatO_some, S_call, kCall_u, S_if, S_ifS, kI_true, kI_false, S_andV, S_orV, kAndV_true, kAndV_false, kOrV_true, kOrV_false, S_test, kTest_, S_tru, kTru_, S_and, S_or, S_not, kAnd_true, kAnd_false, kOr_true, kOr_false, kNot_, S_seq, kS_nx, kS_rt, kS_bk, kS_ct, S_pass, S_set, kSet_dat, kSet_own, S_par, kP_, kPb_, S_ret', kR_, S_retN, S_break, S_cont, S_for, kF_, S_forNil, kFb_nx, kFb_ct, kFb_bk, kFb_rt, S_items, kItems_tup, kItems_lst, kItems_own, S_lc, kLc_, S_lcNil, S_yes, kD_rt, kD_nx, Rv.ret, gt, st, kVar_dat, kVar_own, o_add, o_sub, o_eq, o_ne, o_lt, o_le, o_gt, o_ge, o_eqB, o_neB, o_is2, o_isnot2, o_abs, o_ix, o_ixO, o_ixB, o_ixL, o_tupO, o_isBool, map_some', wp, tgN_, List.length_cons, List.length_nil, Nat.reduceAdd, Nat.reduceLeDiff, true_and, decide_true, decide_false, Bool.not_true, Bool.not_false, o_mul_u, o_div_u, o_mod_u, o_pow_u, o_eqS, o_neS, o_intB, o_lenS, o_lenO, o_lenB, o_iaddI, S_s1, kS1_, kS1b_, S_lm, kLm_bor, kLm_own, kLmb_, S_tab, o_ixT, o_ixS, S_put, kPut_, kPutK_, S_zip2, kZip_, kZipb_tup, o_sum, o_sumB, o_tupB, o_tupL, o_lenT, S_range1, kRng_3, S_tgtL, kTgtL_, List.nil_append, List.cons_append, Nat.reduceLT, SZ, forall_const, true_implies, S_callD, kCallD_, is_tt, is_ti, is_ts, is_ii, is_ss, is_bi]
  refine S_draw h2 (by decide) (by decide) fun g s3 g0 g1 h3 => ?_
  simp only [S_var, S_C, S_op1, k1_, S_op2, k2_, k2b_, S_nil, S_cons, kc_, kcb_, S_opN, kN_, S_tup, S_lst, kT_u, kL_u, stoL_nil, stoL_dat, stoL_own, consO_some, SatO_some, S_call, kCall_u, S_if, S_ifS, kI_true, kI_false, S_andV, S_orV, kAndV_true, kAndV_false, kOrV_true, kOrV_false, S_test, kTest_, S_tru, kTru_, S_and, S_or, S_not, kAnd_true, kAnd_false, kOr_true, kOr_false, kNot_, S_seq, kS_nx, kS_rt, kS_bk, kS_ct, S_pass, S_set, kSet_dat, kSet_own, S_par, kP_, kPb_, S_ret', kR_, S_retN, S_break, S_cont, S_for, kF_, S_forNil, kFb_nx, kFb_ct, kFb_bk, kFb_rt, S_items, kItems_tup, kItems_lst, kItems_own, S_lc, kLc_, S_lcNil, S_yes, kD_rt, kD_nx, Rv.ret, gt, st, kVar_dat, kVar_own, o_add, o_sub, o_eq, o_ne, o_lt, o_le, o_gt, o_ge, o_eqB, o_neB, o_is2, o_isnot2, o_abs, o_ix, o_ixO, o_ixB, o_ixL, o_tupO, o_isBool, map_some', wp, tgN_, List.length_cons, List.length_nil, Nat.reduceAdd, Nat.reduceLeDiff, true_and, decide_true, decide_false, Bool.not_true, Bool.not_false, o_mul_u, o_div_u, o_mod_u, o_pow_u, o_eqS, o_neS, o_intB, o_lenS, o_lenO, o_lenB, o_iaddI, S_s1, kS1_, kS1b_, S_lm, kLm_bor, kLm_own, kLmb_, S_tab, o_ixT, o_ixS, S_put, kPut_, kPutK_, S_zip2, kZip_, kZipb_tup, o_sum, o_sumB, o_tupB, o_tupL, o_lenT, S_range1, kRng_3, S_tgtL, kTgtL_, List.nil_append, List.cons_append, Nat.reduceLT, SZ, forall_const, true_implies, S_callD, kCallD_, is_tt, is_ti, is_ts, is_ii, is_ss, is_bi]
  refine ⟨by decide, ?_⟩
  refine S_draw h3 (by decide) (by decide) fun t s4 t0 t1 h4 => ?_
  have m0 := Int.emod_nonneg (f + 1 + g) (show (26 : Int) ≠ 0 by decide)
  have m1 := Int.emod_lt_of_pos (f + 1 + g) (show (0 : Int) < 26 by decide)
  generalize (f + 1 + g) % 26 = m at *
  obtain ⟨c1, k1, e1⟩ := sign_atM (L := [97, 98, 99, 100, 101, 102, 103, 104, 105, 106, 107, 108, 109, 110, 111, 112, 113, 114, 115, 116, 117, 118, 119, 120, 121, 122]) f0 f1
  obtain ⟨c2, k2, e2⟩ := sign_atM (L := [97, 98, 99, 100, 101, 102, 103, 104, 105, 106, 107, 108, 109, 110, 111, 112, 113, 114, 115, 116, 117, 118, 119, 120, 121, 122]) m0 m1
  obtain ⟨c3, k3, e3⟩ := sign_atM (L := [97, 98, 99, 100, 101, 102, 103, 104, 105, 106, 107, 108, 109, 110, 111, 112, 113, 114, 115, 116, 117, 118, 119, 120, 121, 122]) t0 t1
  have a1 : oAdd (.dat (.str [c1])) (.dat (.str [c2])) = some (.dat (.str [c1, c2])) := rfl
  have a2 : oAdd (.dat (.str [c1, c2])) (.dat (.str [c3])) = some (.dat (.str [c1, c2, c3])) := rfl
  rw [kSet_dat, kS_nx, S_ret', S_op2, S_lst, S_cons]
  simp only [st, S_op2, S_cons, S_nil, S_var, gt, kVar_dat, kc_, kcb_, k2_, k2b_, e1, e2, e3, a1, a2, SatO_some, kL_u, stoL_dat, stoL_nil, consO_some, List.length_cons, List.length_nil, Nat.reduceAdd, SZ, Nat.reduceLeDiff, true_and, o_ixO]
  rcases (by omega : wy = 0 ∨ wy = 1 ∨ wy = 2) with rfl | rfl | rfl
  · exact q _ s4 (by decide) (by decide) (fun c h => h) h4
  · exact q _ s4 (by show 0 < 2; decide) (by show 2 ≤ 26; decide) (fun c h => by rcases List.mem_cons.mp h with rfl | h; exact k1; rw [List.mem_singleton.mp h]; exact k2) h4
  · exact q _ s4 (by show 0 < 3; decide) (by show 3 ≤ 26; decide) (fun c h => by rcases List.mem_cons.mp h with rfl | h; exact k1; rcases List.mem_cons.mp h with rfl | h; exact k2; rw [List.mem_singleton.mp h]; exact k3) h4
theorem S_stepTailM {a : Nat} {L last w : List Nat} {ag wy : Int} {c e : Nat} {s : LS} {Q : Rv → LS → Prop} (hw : W4 w) (hc : c ∈ az) (he : e ∈ az) (q : ∀ x : Mv, Good x → Q (.dat x.d) s) :
    Sat ((mSeq (mIfS (mAnd (mTest (mOp2 oEq (mVar 7) (mC (.str [111, 116, 104, 101, 114])))) (mTest (mOp2 oEq (mVar 5) (mVar 6)))) (mRet (mTup (mCons (mC (.str [107, 101, 101, 112])) (mCons (mVar 5) mNil)))) mPass)
    (mSeq (mIfS (mTest (mOp2 oEq (mVar 7) (mC (.str [111, 116, 104, 101, 114])))) (mRet (mTup (mCons (mC (.str [111, 116, 104, 101, 114])) (mCons (mVar 5) (mCons (mVar 6) mNil))))) mPass)
    (mRet (mTup (mCons (mVar 7) (mCons (mVar 5) mNil)))))) [.dat (.ref a), .dat (.str L), .dat (.str last), .dat (.int ag), .dat (.int wy), .dat (.str [c]), .dat (.str [e]), .dat (.str w)] s) (kD Q) := by
  rcases hw with rfl | rfl | rfl | rfl
  · exact q (.keep c) hc
  · rw [S_seq, S_ifS, S_and]
    simp only [S_test, S_op2, S_var, gt, kVar_dat, k2_, S_C, k2b_, o_eqS, SatO_some, kTest_, beq_self_eq_true, kAnd_true]
    refine kI_c (fun _ => ?_) (fun hne => ?_)
    · exact q (.keep c) hc
    · exact q (.oth c e) ⟨hc, he, fun h => by rw [h] at hne; simp at hne⟩
  · exact q (.out c) hc
  · exact q (.inn c) hc
theorem S_stepM {a b : Nat} {L last : List Nat} {s : LS} {Q : Rv → LS → Prop} (h : Bud a (b + 4) s) (L0 : 0 < L.length) (L1 : L.length ≤ 26) (La : ∀ c ∈ L, c ∈ az) (hl : last = [] ∨ W4 last) (q : ∀ (x : Mv) (s' : LS), Good x → Bud a b s' → Q (.dat x.d) s') : Sat (stepF [.ref a, .str L, .str last] s) Q := by
  have p90 : (26 : Int) ≤ 10 ^ 90 := by decide
  unfold stepF
  rw [S_def (k := 3) (ds := [.ref a, .str L, .str last]) rfl]
  show Sat (stepM [.dat (.ref a), .dat (.str L), .dat (.str last), .un, .un, .un, .un, .un] s) _
  unfold stepM
  simp only [S_var, S_C, S_op1, k1_, S_op2, k2_, k2b_, S_nil, S_cons, kc_, kcb_, S_opN, kN_, S_tup, S_lst, kT_u, kL_u, stoL_nil, stoL_dat, stoL_own, consO_some, SatO_some, S_call, kCall_u, S_if, S_ifS, kI_true, kI_false, S_andV, S_orV, kAndV_true, kAndV_false, kOrV_true, kOrV_false, S_test, kTest_, S_tru, kTru_, S_and, S_or, S_not, kAnd_true, kAnd_false, kOr_true, kOr_false, kNot_, S_seq, kS_nx, kS_rt, kS_bk, kS_ct, S_pass, S_set, kSet_dat, kSet_own, S_par, kP_, kPb_, S_ret', kR_, S_retN, S_break, S_cont, S_for, kF_, S_forNil, kFb_nx, kFb_ct, kFb_bk, kFb_rt, S_items, kItems_tup, kItems_lst, kItems_own, S_lc, kLc_, S_lcNil, S_yes, kD_rt, kD_nx, Rv.ret, gt, st, kVar_dat, kVar_own, o_add, o_sub, o_eq, o_ne, o_lt, o_le, o_gt, o_ge, o_eqB, o_neB, o_is2, o_isnot2, o_abs, o_ix, o_ixO, o_ixB, o_ixL, o_tupO, o_isBool, map_some', wp, tgN_, List.length_cons, List.length_nil, Nat.reduceAdd, Nat.reduceLeDiff, true_and, decide_true, decide_false, Bool.not_true, Bool.not_false, o_mul_u, o_div_u, o_mod_u, o_pow_u, o_eqS, o_neS, o_intB, o_lenS, o_lenO, o_lenB, o_iaddI, S_s1, kS1_, kS1b_, S_lm, kLm_bor, kLm_own, kLmb_, S_tab, o_ixT, o_ixS, S_put, kPut_, kPutK_, S_zip2, kZip_, kZipb_tup, o_sum, o_sumB, o_tupB, o_tupL, o_lenT, S_range1, kRng_3, S_tgtL, kTgtL_, List.nil_append, List.cons_append, Nat.reduceLT, SZ, forall_const, true_implies, S_callD, kCallD_, is_tt, is_ti, is_ts, is_ii, is_ss, is_bi]
  refine S_draw h (by decide) (by decide) fun ag s1 ag0 ag1 h1 => ?_
  simp only [S_var, S_C, S_op1, k1_, S_op2, k2_, k2b_, S_nil, S_cons, kc_, kcb_, S_opN, kN_, S_tup, S_lst, kT_u, kL_u, stoL_nil, stoL_dat, stoL_own, consO_some, SatO_some, S_call, kCall_u, S_if, S_ifS, kI_true, kI_false, S_andV, S_orV, kAndV_true, kAndV_false, kOrV_true, kOrV_false, S_test, kTest_, S_tru, kTru_, S_and, S_or, S_not, kAnd_true, kAnd_false, kOr_true, kOr_false, kNot_, S_seq, kS_nx, kS_rt, kS_bk, kS_ct, S_pass, S_set, kSet_dat, kSet_own, S_par, kP_, kPb_, S_ret', kR_, S_retN, S_break, S_cont, S_for, kF_, S_forNil, kFb_nx, kFb_ct, kFb_bk, kFb_rt, S_items, kItems_tup, kItems_lst, kItems_own, S_lc, kLc_, S_lcNil, S_yes, kD_rt, kD_nx, Rv.ret, gt, st, kVar_dat, kVar_own, o_add, o_sub, o_eq, o_ne, o_lt, o_le, o_gt, o_ge, o_eqB, o_neB, o_is2, o_isnot2, o_abs, o_ix, o_ixO, o_ixB, o_ixL, o_tupO, o_isBool, map_some', wp, tgN_, List.length_cons, List.length_nil, Nat.reduceAdd, Nat.reduceLeDiff, true_and, decide_true, decide_false, Bool.not_true, Bool.not_false, o_mul_u, o_div_u, o_mod_u, o_pow_u, o_eqS, o_neS, o_intB, o_lenS, o_lenO, o_lenB, o_iaddI, S_s1, kS1_, kS1b_, S_lm, kLm_bor, kLm_own, kLmb_, S_tab, o_ixT, o_ixS, S_put, kPut_, kPutK_, S_zip2, kZip_, kZipb_tup, o_sum, o_sumB, o_tupB, o_tupL, o_lenT, S_range1, kRng_3, S_tgtL, kTgtL_, List.nil_append, List.cons_append, Nat.reduceLT, SZ, forall_const, true_implies, S_callD, kCallD_, is_tt, is_ti, is_ts, is_ii, is_ss, is_bi]
  refine S_draw h1 (by decide) (by decide) fun wy s2 wy0 wy1 h2 => ?_
  simp only [S_var, S_C, S_op1, k1_, S_op2, k2_, k2b_, S_nil, S_cons, kc_, kcb_, S_opN, kN_, S_tup, S_lst, kT_u, kL_u, stoL_nil, stoL_dat, stoL_own, consO_some, SatO_some, S_call, kCall_u, S_if, S_ifS, kI_true, kI_false, S_andV, S_orV, kAndV_true, kAndV_false, kOrV_true, kOrV_false, S_test, kTest_, S_tru, kTru_, S_and, S_or, S_not, kAnd_true, kAnd_false, kOr_true, kOr_false, kNot_, S_seq, kS_nx, kS_rt, kS_bk, kS_ct, S_pass, S_set, kSet_dat, kSet_own, S_par, kP_, kPb_, S_ret', kR_, S_retN, S_break, S_cont, S_for, kF_, S_forNil, kFb_nx, kFb_ct, kFb_bk, kFb_rt, S_items, kItems_tup, kItems_lst, kItems_own, S_lc, kLc_, S_lcNil, S_yes, kD_rt, kD_nx, Rv.ret, gt, st, kVar_dat, kVar_own, o_add, o_sub, o_eq, o_ne, o_lt, o_le, o_gt, o_ge, o_eqB, o_neB, o_is2, o_isnot2, o_abs, o_ix, o_ixO, o_ixB, o_ixL, o_tupO, o_isBool, map_some', wp, tgN_, List.length_cons, List.length_nil, Nat.reduceAdd, Nat.reduceLeDiff, true_and, decide_true, decide_false, Bool.not_true, Bool.not_false, o_mul_u, o_div_u, o_mod_u, o_pow_u, o_eqS, o_neS, o_intB, o_lenS, o_lenO, o_lenB, o_iaddI, S_s1, kS1_, kS1b_, S_lm, kLm_bor, kLm_own, kLmb_, S_tab, o_ixT, o_ixS, S_put, kPut_, kPutK_, S_zip2, kZip_, kZipb_tup, o_sum, o_sumB, o_tupB, o_tupL, o_lenT, S_range1, kRng_3, S_tgtL, kTgtL_, List.nil_append, List.cons_append, Nat.reduceLT, SZ, forall_const, true_implies, S_callD, kCallD_, is_tt, is_ti, is_ts, is_ii, is_ss, is_bi]
  refine S_draw h2 (by omega) (by omega) fun i s3 i0 i1 h3 => ?_
  obtain ⟨c, hc, ec⟩ := sign_atM i0 i1
  rw [k2b_, ec]
  simp only [S_var, S_C, S_op1, k1_, S_op2, k2_, k2b_, S_nil, S_cons, kc_, kcb_, S_opN, kN_, S_tup, S_lst, kT_u, kL_u, stoL_nil, stoL_dat, stoL_own, consO_some, SatO_some, S_call, kCall_u, S_if, S_ifS, kI_true, kI_false, S_andV, S_orV, kAndV_true, kAndV_false, kOrV_true, kOrV_false, S_test, kTest_, S_tru, kTru_, S_and, S_or, S_not, kAnd_true, kAnd_false, kOr_true, kOr_false, kNot_, S_seq, kS_nx, kS_rt, kS_bk, kS_ct, S_pass, S_set, kSet_dat, kSet_own, S_par, kP_, kPb_, S_ret', kR_, S_retN, S_break, S_cont, S_for, kF_, S_forNil, kFb_nx, kFb_ct, kFb_bk, kFb_rt, S_items, kItems_tup, kItems_lst, kItems_own, S_lc, kLc_, S_lcNil, S_yes, kD_rt, kD_nx, Rv.ret, gt, st, kVar_dat, kVar_own, o_add, o_sub, o_eq, o_ne, o_lt, o_le, o_gt, o_ge, o_eqB, o_neB, o_is2, o_isnot2, o_abs, o_ix, o_ixO, o_ixB, o_ixL, o_tupO, o_isBool, map_some', wp, tgN_, List.length_cons, List.length_nil, Nat.reduceAdd, Nat.reduceLeDiff, true_and, decide_true, decide_false, Bool.not_true, Bool.not_false, o_mul_u, o_div_u, o_mod_u, o_pow_u, o_eqS, o_neS, o_intB, o_lenS, o_lenO, o_lenB, o_iaddI, S_s1, kS1_, kS1b_, S_lm, kLm_bor, kLm_own, kLmb_, S_tab, o_ixT, o_ixS, S_put, kPut_, kPutK_, S_zip2, kZip_, kZipb_tup, o_sum, o_sumB, o_tupB, o_tupL, o_lenT, S_range1, kRng_3, S_tgtL, kTgtL_, List.nil_append, List.cons_append, Nat.reduceLT, SZ, forall_const, true_implies, S_callD, kCallD_, is_tt, is_ti, is_ts, is_ii, is_ss, is_bi]
  refine S_draw h3 (by omega) (by omega) fun j s4 j0 j1 h4 => ?_
  obtain ⟨e, he, ee⟩ := sign_atM j0 j1
  rw [k2b_, ee, SatO_some, kSet_dat, kS_nx]
  have hw : ∃ w, W4 w ∧ atI [D.str [107, 101, 101, 112], .str [111, 116, 104, 101, 114], .str [111, 117, 116], .str [105, 110]] wy = some (.str w) := by
    rcases (by omega : wy = 0 ∨ wy = 1 ∨ wy = 2 ∨ wy = 3) with rfl | rfl | rfl | rfl
    · exact ⟨_, .inl rfl, rfl⟩
    · exact ⟨_, .inr (.inl rfl), rfl⟩
    · exact ⟨_, .inr (.inr (.inl rfl)), rfl⟩
    · exact ⟨_, .inr (.inr (.inr rfl)), rfl⟩
  obtain ⟨w, hw, ew⟩ := hw
  rw [S_seq, S_set]
  simp only [st, S_op2, S_lst, S_cons, S_nil, S_C, S_var, gt, kVar_dat, kc_, kcb_, k2_, k2b_, SatO_some, kL_u, stoL_dat, stoL_nil, consO_some, List.length_cons, List.length_nil, Nat.reduceAdd, SZ, Nat.reduceLeDiff, true_and, o_ixO, ew, map_some', kSet_dat, kS_nx]
  rw [S_seq, S_ifS, S_and]
  simp only [S_test, S_op2, S_var, gt, kVar_dat, k2_, S_C, k2b_, o_eq, SatO_some, kTest_]
  by_cases hag : ag = 1
  · rw [decide_eq_true hag, kAnd_true]
    simp only [S_test, S_op2, S_var, gt, kVar_dat, k2_, S_C, k2b_, o_neS, SatO_some, kTest_]
    rcases hl with rfl | hl
    · exact S_stepTailM hw (La c hc) (La e he) fun x gx => q x s4 gx h4
    · have hne : (!(last == ([] : List Nat))) = true := by rcases hl with rfl | rfl | rfl | rfl <;> rfl
      rw [hne, kI_true, S_set, S_var]
      exact S_stepTailM hl (La c hc) (La e he) fun x gx => q x s4 gx h4
  · rw [decide_eq_false hag, kAnd_false, kI_false]
    exact S_stepTailM hw (La c hc) (La e he) fun x gx => q x s4 gx h4
theorem S_scriptM {a b : Nat} {L : List Nat} {s : LS} {Q : Rv → LS → Prop} (h : Bud a (b + 101) s) (L0 : 0 < L.length) (L1 : L.length ≤ 26) (La : ∀ c ∈ L, c ∈ az) (q : ∀ (ls : List Mv) (s' : LS), ls.length ≤ 24 → (∀ x ∈ ls, Good x) → (ls.flatMap Mv.taken).length ≤ 12 → (ls.flatMap Mv.made).length ≤ 12 → Bud a b s' → Q (.dat (script ls)) s') : Sat (scrF [.ref a, .int 12, .str L] s) Q := by
  unfold scrF
  rw [S_def (k := 3) (ds := [.ref a, .int 12, .str L]) rfl]
  show Sat (scrM [.dat (.ref a), .dat (.int 12), .dat (.str L), .un, .un, .un, .un, .un, .un, .un] s) _
  unfold scrM
  rw [S_seq, S_set]
  simp only [S_var, S_C, S_op1, k1_, S_op2, k2_, k2b_, S_nil, S_cons, kc_, kcb_, S_opN, kN_, S_tup, S_lst, kT_u, kL_u, stoL_nil, stoL_dat, stoL_own, consO_some, SatO_some, S_call, kCall_u, S_if, S_ifS, kI_true, kI_false, S_andV, S_orV, kAndV_true, kAndV_false, kOrV_true, kOrV_false, S_test, kTest_, S_tru, kTru_, S_and, S_or, S_not, kAnd_true, kAnd_false, kOr_true, kOr_false, kNot_, S_seq, kS_nx, kS_rt, kS_bk, kS_ct, S_pass, S_set, kSet_dat, kSet_own, S_par, kP_, kPb_, S_ret', kR_, S_retN, S_break, S_cont, S_for, kF_, S_forNil, kFb_nx, kFb_ct, kFb_bk, kFb_rt, S_items, kItems_tup, kItems_lst, kItems_own, S_lc, kLc_, S_lcNil, S_yes, kD_rt, kD_nx, Rv.ret, gt, st, kVar_dat, kVar_own, o_add, o_sub, o_eq, o_ne, o_lt, o_le, o_gt, o_ge, o_eqB, o_neB, o_is2, o_isnot2, o_abs, o_ix, o_ixO, o_ixB, o_ixL, o_tupO, o_isBool, map_some', wp, tgN_, List.length_cons, List.length_nil, Nat.reduceAdd, Nat.reduceLeDiff, true_and, decide_true, decide_false, Bool.not_true, Bool.not_false, o_mul_u, o_div_u, o_mod_u, o_pow_u, o_eqS, o_neS, o_intB, o_lenS, o_lenO, o_lenB, o_iaddI, S_s1, kS1_, kS1b_, S_lm, kLm_bor, kLm_own, kLmb_, S_tab, o_ixT, o_ixS, S_put, kPut_, kPutK_, S_zip2, kZip_, kZipb_tup, o_sum, o_sumB, o_tupB, o_tupL, o_lenT, S_range1, kRng_3, S_tgtL, kTgtL_, List.nil_append, List.cons_append, Nat.reduceLT, SZ, forall_const, true_implies, S_callD, kCallD_, is_tt, is_ti, is_ts, is_ii, is_ss, is_bi]
  refine ⟨by decide, ?_⟩
  refine S_draw h (by decide) (by decide) fun n s1 n0 n1 h1 => ?_
  simp only [S_var, S_C, S_op1, k1_, S_op2, k2_, k2b_, S_nil, S_cons, kc_, kcb_, S_opN, kN_, S_tup, S_lst, kT_u, kL_u, stoL_nil, stoL_dat, stoL_own, consO_some, SatO_some, S_call, kCall_u, S_if, S_ifS, kI_true, kI_false, S_andV, S_orV, kAndV_true, kAndV_false, kOrV_true, kOrV_false, S_test, kTest_, S_tru, kTru_, S_and, S_or, S_not, kAnd_true, kAnd_false, kOr_true, kOr_false, kNot_, S_seq, kS_nx, kS_rt, kS_bk, kS_ct, S_pass, S_set, kSet_dat, kSet_own, S_par, kP_, kPb_, S_ret', kR_, S_retN, S_break, S_cont, S_for, kF_, S_forNil, kFb_nx, kFb_ct, kFb_bk, kFb_rt, S_items, kItems_tup, kItems_lst, kItems_own, S_lc, kLc_, S_lcNil, S_yes, kD_rt, kD_nx, Rv.ret, gt, st, kVar_dat, kVar_own, o_add, o_sub, o_eq, o_ne, o_lt, o_le, o_gt, o_ge, o_eqB, o_neB, o_is2, o_isnot2, o_abs, o_ix, o_ixO, o_ixB, o_ixL, o_tupO, o_isBool, map_some', wp, tgN_, List.length_cons, List.length_nil, Nat.reduceAdd, Nat.reduceLeDiff, true_and, decide_true, decide_false, Bool.not_true, Bool.not_false, o_mul_u, o_div_u, o_mod_u, o_pow_u, o_eqS, o_neS, o_intB, o_lenS, o_lenO, o_lenB, o_iaddI, S_s1, kS1_, kS1b_, S_lm, kLm_bor, kLm_own, kLmb_, S_tab, o_ixT, o_ixS, S_put, kPut_, kPutK_, S_zip2, kZip_, kZipb_tup, o_sum, o_sumB, o_tupB, o_tupL, o_lenT, S_range1, kRng_3, S_tgtL, kTgtL_, List.nil_append, List.cons_append, Nat.reduceLT, SZ, forall_const, true_implies, S_callD, kCallD_, is_tt, is_ti, is_ts, is_ii, is_ss, is_bi, kRng_]
  have hn : n ≤ 24 := by
    have : n < 2 * 12 + 1 := n1
    omega
  obtain ⟨m, rfl⟩ : ∃ m : Nat, n = (m : Nat) := ⟨n.toNat, by omega⟩
  refine ⟨rng_ok (by omega), ?_⟩
  rw [Int.toNat_natCast, rng_map]
  refine S_forA (List.range m) (fun k => D.int (0 + (k : Nat))) (fun pre post e g => ∃ (ls : List Mv) (l0 l1 : Int) (last : List Nat) (x7 x8 x9 : Sl), ls.length ≤ pre.length ∧ (last = [] ∨ W4 last) ∧ ((∀ x ∈ ls, Good x) ∧ ((ls.flatMap Mv.taken).length : Int) + l0 = 12 ∧ ((ls.flatMap Mv.made).length : Int) + l1 = 12 ∧ 0 ≤ l0 ∧ 0 ≤ l1) ∧ e = [.dat (.ref a), .dat (.int 12), .dat (.str L), .dat (.int (m : Nat)), .own (ls.map Mv.d), .own [.int l0, .int l1], .dat (.str last), x7, x8, x9] ∧ Bud a (b + post.length * 4) g) ⟨[], 12, 12, [], _, _, _, Nat.le_refl 0, .inl rfl, ⟨fun x h => (by cases h), by decide, by decide, by decide, by decide⟩, rfl, h1.le (by rw [List.length_range]; omega)⟩ ?_ ?_
  · rintro pre k post e g hr ⟨ls, l0, l1, last, x7, x8, x9, hls, hlast, hgood, rfl, hB⟩
    refine ⟨_, rfl, ?_⟩
    rw [S_seq, S_set]
    simp only [st, S_call, S_cons, S_nil, S_var, gt, kVar_dat, kc_, kcb_, kCall_u, stoL_dat, stoL_nil, consO_some, SatO_some]
    refine S_stepM (b := b + post.length * 4) (hB.le (by rw [List.length_cons]; omega)) L0 L1 La hlast fun x s' hx0 hB' => ?_
    have hlen : (pre ++ [k]).length = pre.length + 1 := by simp
    have hlm : (ls.map Mv.d).length < 16777216 := by
      have := (range_pre hr).2
      have h5 := (range_pre hr).1
      rw [List.length_map]
      omega
    have hap : ls.map Mv.d ++ [x.d] = (ls ++ [x]).map Mv.d := by simp
    rw [hlen]
    simp only [S_var, S_C, S_op1, k1_, S_op2, k2_, k2b_, S_nil, S_cons, kc_, kcb_, S_opN, kN_, S_tup, S_lst, kT_u, kL_u, stoL_nil, stoL_dat, stoL_own, consO_some, SatO_some, S_call, kCall_u, S_if, S_ifS, kI_true, kI_false, S_andV, S_orV, kAndV_true, kAndV_false, kOrV_true, kOrV_false, S_test, kTest_, S_tru, kTru_, S_and, S_or, S_not, kAnd_true, kAnd_false, kOr_true, kOr_false, kNot_, S_seq, kS_nx, kS_rt, kS_bk, kS_ct, S_pass, S_set, kSet_dat, kSet_own, S_par, kP_, kPb_, S_ret', kR_, S_retN, S_break, S_cont, S_for, kF_, S_forNil, kFb_nx, kFb_ct, kFb_bk, kFb_rt, S_items, kItems_tup, kItems_lst, kItems_own, S_lc, kLc_, S_lcNil, S_yes, kD_rt, kD_nx, Rv.ret, gt, st, kVar_dat, kVar_own, o_add, o_sub, o_eq, o_ne, o_lt, o_le, o_gt, o_ge, o_eqB, o_neB, o_is2, o_isnot2, o_abs, o_ix, o_ixO, o_ixB, o_ixL, o_tupO, o_isBool, map_some', wp, tgN_, List.length_cons, List.length_nil, Nat.reduceAdd, Nat.reduceLeDiff, true_and, decide_true, decide_false, Bool.not_true, Bool.not_false, o_mul_u, o_div_u, o_mod_u, o_pow_u, o_eqS, o_neS, o_intB, o_lenS, o_lenO, o_lenB, o_iaddI, S_s1, kS1_, kS1b_, S_lm, kLm_bor, kLm_own, kLmb_, S_tab, o_ixT, o_ixS, S_put, kPut_, kPutK_, S_zip2, kZip_, kZipb_tup, o_sum, o_sumB, o_tupB, o_tupL, o_lenT, S_range1, kRng_3, S_tgtL, kTgtL_, List.nil_append, List.cons_append, Nat.reduceLT, SZ, forall_const, true_implies, S_callD, kCallD_, is_tt, is_ti, is_ts, is_ii, is_ss, is_bi, ix0]
    have hx := word_W4 x
    have ep0 : (if (!(x.word == [105, 110])) = true then (1 : Int) else 0) = x.taken.length := by cases x <;> rfl
    have ep1 : (if (!(x.word == [111, 117, 116])) = true then (1 : Int) else 0) = x.made.length := by cases x <;> rfl
    rw [ep0, ep1]
    generalize hp0 : ((x.taken.length : Nat) : Int) = p0 at *
    generalize hp1 : ((x.made.length : Nat) : Int) = p1 at *
    simp only [S_var, S_C, S_op1, k1_, S_op2, k2_, k2b_, S_nil, S_cons, kc_, kcb_, S_opN, kN_, S_tup, S_lst, kT_u, kL_u, stoL_nil, stoL_dat, stoL_own, consO_some, SatO_some, S_call, kCall_u, S_if, S_ifS, kI_true, kI_false, S_andV, S_orV, kAndV_true, kAndV_false, kOrV_true, kOrV_false, S_test, kTest_, S_tru, kTru_, S_and, S_or, S_not, kAnd_true, kAnd_false, kOr_true, kOr_false, kNot_, S_seq, kS_nx, kS_rt, kS_bk, kS_ct, S_pass, S_set, kSet_dat, kSet_own, S_par, kP_, kPb_, S_ret', kR_, S_retN, S_break, S_cont, S_for, kF_, S_forNil, kFb_nx, kFb_ct, kFb_bk, kFb_rt, S_items, kItems_tup, kItems_lst, kItems_own, S_lc, kLc_, S_lcNil, S_yes, kD_rt, kD_nx, Rv.ret, gt, st, kVar_dat, kVar_own, o_add, o_sub, o_eq, o_ne, o_lt, o_le, o_gt, o_ge, o_eqB, o_neB, o_is2, o_isnot2, o_abs, o_ix, o_ixO, o_ixB, o_ixL, o_tupO, o_isBool, map_some', wp, tgN_, List.length_cons, List.length_nil, Nat.reduceAdd, Nat.reduceLeDiff, true_and, decide_true, decide_false, Bool.not_true, Bool.not_false, o_mul_u, o_div_u, o_mod_u, o_pow_u, o_eqS, o_neS, o_intB, o_lenS, o_lenO, o_lenB, o_iaddI, S_s1, kS1_, kS1b_, S_lm, kLm_bor, kLm_own, kLmb_, S_tab, o_ixT, o_ixS, S_put, kPut_, kPutK_, S_zip2, kZip_, kZipb_tup, o_sum, o_sumB, o_tupB, o_tupL, o_lenT, S_range1, kRng_3, S_tgtL, kTgtL_, List.nil_append, List.cons_append, Nat.reduceLT, SZ, forall_const, true_implies, S_callD, kCallD_, is_tt, is_ti, is_ts, is_ii, is_ss, is_bi, a20, a21]
    have skip : ∀ x9 : Sl, ∃ (ls' : List Mv) (l0' l1' : Int) (last' : List Nat) (x7 x8 x9' : Sl), ls'.length ≤ pre.length + 1 ∧ (last' = [] ∨ W4 last') ∧ ((∀ x ∈ ls', Good x) ∧ ((ls'.flatMap Mv.taken).length : Int) + l0' = 12 ∧ ((ls'.flatMap Mv.made).length : Int) + l1' = 12 ∧ 0 ≤ l0' ∧ 0 ≤ l1') ∧ [Sl.dat (.ref a), .dat (.int 12), .dat (.str L), .dat (.int (m : Nat)), .own (ls.map Mv.d), .own [.int l0, .int l1], .dat (.str x.word), .dat (.int (0 + (k : Nat))), .dat x.d, x9] = [.dat (.ref a), .dat (.int 12), .dat (.str L), .dat (.int (m : Nat)), .own (ls'.map Mv.d), .own [.int l0', .int l1'], .dat (.str last'), x7, x8, x9'] ∧ Bud a (b + post.length * 4) s' :=
      fun x9 => ⟨ls, l0, l1, x.word, _, _, _, by omega, .inr hx, hgood, rfl, hB'⟩
    by_cases c1 : p0 ≤ l0
    · rw [decide_eq_true c1, kAnd_true]
      simp only [S_var, S_C, S_op1, k1_, S_op2, k2_, k2b_, S_nil, S_cons, kc_, kcb_, S_opN, kN_, S_tup, S_lst, kT_u, kL_u, stoL_nil, stoL_dat, stoL_own, consO_some, SatO_some, S_call, kCall_u, S_if, S_ifS, kI_true, kI_false, S_andV, S_orV, kAndV_true, kAndV_false, kOrV_true, kOrV_false, S_test, kTest_, S_tru, kTru_, S_and, S_or, S_not, kAnd_true, kAnd_false, kOr_true, kOr_false, kNot_, S_seq, kS_nx, kS_rt, kS_bk, kS_ct, S_pass, S_set, kSet_dat, kSet_own, S_par, kP_, kPb_, S_ret', kR_, S_retN, S_break, S_cont, S_for, kF_, S_forNil, kFb_nx, kFb_ct, kFb_bk, kFb_rt, S_items, kItems_tup, kItems_lst, kItems_own, S_lc, kLc_, S_lcNil, S_yes, kD_rt, kD_nx, Rv.ret, gt, st, kVar_dat, kVar_own, o_add, o_sub, o_eq, o_ne, o_lt, o_le, o_gt, o_ge, o_eqB, o_neB, o_is2, o_isnot2, o_abs, o_ix, o_ixO, o_ixB, o_ixL, o_tupO, o_isBool, map_some', wp, tgN_, List.length_cons, List.length_nil, Nat.reduceAdd, Nat.reduceLeDiff, true_and, decide_true, decide_false, Bool.not_true, Bool.not_false, o_mul_u, o_div_u, o_mod_u, o_pow_u, o_eqS, o_neS, o_intB, o_lenS, o_lenO, o_lenB, o_iaddI, S_s1, kS1_, kS1b_, S_lm, kLm_bor, kLm_own, kLmb_, S_tab, o_ixT, o_ixS, S_put, kPut_, kPutK_, S_zip2, kZip_, kZipb_tup, o_sum, o_sumB, o_tupB, o_tupL, o_lenT, S_range1, kRng_3, S_tgtL, kTgtL_, List.nil_append, List.cons_append, Nat.reduceLT, SZ, forall_const, true_implies, S_callD, kCallD_, is_tt, is_ti, is_ts, is_ii, is_ss, is_bi, a20, a21]
      refine kI_d (fun c2 => ?_) (fun _ => ?_)
      · simp only [S_var, S_C, S_op1, k1_, S_op2, k2_, k2b_, S_nil, S_cons, kc_, kcb_, S_opN, kN_, S_tup, S_lst, kT_u, kL_u, stoL_nil, stoL_dat, stoL_own, consO_some, SatO_some, S_call, kCall_u, S_if, S_ifS, kI_true, kI_false, S_andV, S_orV, kAndV_true, kAndV_false, kOrV_true, kOrV_false, S_test, kTest_, S_tru, kTru_, S_and, S_or, S_not, kAnd_true, kAnd_false, kOr_true, kOr_false, kNot_, S_seq, kS_nx, kS_rt, kS_bk, kS_ct, S_pass, S_set, kSet_dat, kSet_own, S_par, kP_, kPb_, S_ret', kR_, S_retN, S_break, S_cont, S_for, kF_, S_forNil, kFb_nx, kFb_ct, kFb_bk, kFb_rt, S_items, kItems_tup, kItems_lst, kItems_own, S_lc, kLc_, S_lcNil, S_yes, kD_rt, kD_nx, Rv.ret, gt, st, kVar_dat, kVar_own, o_add, o_sub, o_eq, o_ne, o_lt, o_le, o_gt, o_ge, o_eqB, o_neB, o_is2, o_isnot2, o_abs, o_ix, o_ixO, o_ixB, o_ixL, o_tupO, o_isBool, map_some', wp, tgN_, List.length_cons, List.length_nil, Nat.reduceAdd, Nat.reduceLeDiff, true_and, decide_true, decide_false, Bool.not_true, Bool.not_false, o_mul_u, o_div_u, o_mod_u, o_pow_u, o_eqS, o_neS, o_intB, o_lenS, o_lenO, o_lenB, o_iaddI, S_s1, kS1_, kS1b_, S_lm, kLm_bor, kLm_own, kLmb_, S_tab, o_ixT, o_ixS, S_put, kPut_, kPutK_, S_zip2, kZip_, kZipb_tup, o_sum, o_sumB, o_tupB, o_tupL, o_lenT, S_range1, kRng_3, S_tgtL, kTgtL_, List.nil_append, List.cons_append, Nat.reduceLT, SZ, forall_const, true_implies, S_callD, kCallD_, is_tt, is_ti, is_ts, is_ii, is_ss, is_bi, a20, a21]
        rw [S_app rfl]
        simp only [S_var, S_C, S_op1, k1_, S_op2, k2_, k2b_, S_nil, S_cons, kc_, kcb_, S_opN, kN_, S_tup, S_lst, kT_u, kL_u, stoL_nil, stoL_dat, stoL_own, consO_some, SatO_some, S_call, kCall_u, S_if, S_ifS, kI_true, kI_false, S_andV, S_orV, kAndV_true, kAndV_false, kOrV_true, kOrV_false, S_test, kTest_, S_tru, kTru_, S_and, S_or, S_not, kAnd_true, kAnd_false, kOr_true, kOr_false, kNot_, S_seq, kS_nx, kS_rt, kS_bk, kS_ct, S_pass, S_set, kSet_dat, kSet_own, S_par, kP_, kPb_, S_ret', kR_, S_retN, S_break, S_cont, S_for, kF_, S_forNil, kFb_nx, kFb_ct, kFb_bk, kFb_rt, S_items, kItems_tup, kItems_lst, kItems_own, S_lc, kLc_, S_lcNil, S_yes, kD_rt, kD_nx, Rv.ret, gt, st, kVar_dat, kVar_own, o_add, o_sub, o_eq, o_ne, o_lt, o_le, o_gt, o_ge, o_eqB, o_neB, o_is2, o_isnot2, o_abs, o_ix, o_ixO, o_ixB, o_ixL, o_tupO, o_isBool, map_some', wp, tgN_, List.length_cons, List.length_nil, Nat.reduceAdd, Nat.reduceLeDiff, true_and, decide_true, decide_false, Bool.not_true, Bool.not_false, o_mul_u, o_div_u, o_mod_u, o_pow_u, o_eqS, o_neS, o_intB, o_lenS, o_lenO, o_lenB, o_iaddI, S_s1, kS1_, kS1b_, S_lm, kLm_bor, kLm_own, kLmb_, S_tab, o_ixT, o_ixS, S_put, kPut_, kPutK_, S_zip2, kZip_, kZipb_tup, o_sum, o_sumB, o_tupB, o_tupL, o_lenT, S_range1, kRng_3, S_tgtL, kTgtL_, List.nil_append, List.cons_append, Nat.reduceLT, SZ, forall_const, true_implies, S_callD, kCallD_, is_tt, is_ti, is_ts, is_ii, is_ss, is_bi, kA_dat]
        refine ⟨hlm, ls ++ [x], l0 - p0, l1 - p1, x.word, _, _, _, by rw [List.length_append]; simp; omega, .inr hx, ⟨fun y hy => ?_, ?_, ?_, by omega, by omega⟩, by rw [hap], hB'⟩
        · rcases List.mem_append.mp hy with hy | hy
          · exact hgood.1 y hy
          · rw [List.mem_singleton.mp hy]
            exact hx0
        · have := hgood.2.1
          rw [List.flatMap_append, List.length_append, List.flatMap_cons, List.flatMap_nil, List.append_nil]
          omega
        · have := hgood.2.2.1
          rw [List.flatMap_append, List.length_append, List.flatMap_cons, List.flatMap_nil, List.append_nil]
          omega
      · exact skip _
    · rw [decide_eq_false c1, kAnd_false, kI_false]
      exact skip _
  · rintro e g ⟨ls, l0, l1, last, x7, x8, x9, hls, hlast, hgood, rfl, hB⟩
    rw [List.length_range] at hls
    simp only [S_var, S_C, S_op1, k1_, S_op2, k2_, k2b_, S_nil, S_cons, kc_, kcb_, S_opN, kN_, S_tup, S_lst, kT_u, kL_u, stoL_nil, stoL_dat, stoL_own, consO_some, SatO_some, S_call, kCall_u, S_if, S_ifS, kI_true, kI_false, S_andV, S_orV, kAndV_true, kAndV_false, kOrV_true, kOrV_false, S_test, kTest_, S_tru, kTru_, S_and, S_or, S_not, kAnd_true, kAnd_false, kOr_true, kOr_false, kNot_, S_seq, kS_nx, kS_rt, kS_bk, kS_ct, S_pass, S_set, kSet_dat, kSet_own, S_par, kP_, kPb_, S_ret', kR_, S_retN, S_break, S_cont, S_for, kF_, S_forNil, kFb_nx, kFb_ct, kFb_bk, kFb_rt, S_items, kItems_tup, kItems_lst, kItems_own, S_lc, kLc_, S_lcNil, S_yes, kD_rt, kD_nx, Rv.ret, gt, st, kVar_dat, kVar_own, o_add, o_sub, o_eq, o_ne, o_lt, o_le, o_gt, o_ge, o_eqB, o_neB, o_is2, o_isnot2, o_abs, o_ix, o_ixO, o_ixB, o_ixL, o_tupO, o_isBool, map_some', wp, tgN_, List.length_cons, List.length_nil, Nat.reduceAdd, Nat.reduceLeDiff, true_and, decide_true, decide_false, Bool.not_true, Bool.not_false, o_mul_u, o_div_u, o_mod_u, o_pow_u, o_eqS, o_neS, o_intB, o_lenS, o_lenO, o_lenB, o_iaddI, S_s1, kS1_, kS1b_, S_lm, kLm_bor, kLm_own, kLmb_, S_tab, o_ixT, o_ixS, S_put, kPut_, kPutK_, S_zip2, kZip_, kZipb_tup, o_sum, o_sumB, o_tupB, o_tupL, o_lenT, S_range1, kRng_3, S_tgtL, kTgtL_, List.nil_append, List.cons_append, Nat.reduceLT, SZ, forall_const, true_implies, S_callD, kCallD_, is_tt, is_ti, is_ts, is_ii, is_ss, is_bi]
    obtain ⟨g1, g2, g3, g4, g5⟩ := hgood
    exact q ls g (by omega) g1 (by omega) (by omega) (hB.le (by omega))
end PB

set_option Elab.async false
set_option linter.all false
set_option maxRecDepth 10000
set_option exponentiation.threshold 2000
namespace PB
/-! ### scripts as drawn, of ends of so many letters -/
theorem S_scriptN {a b : Nat} {L : List Nat} {mm : Int} {s : LS} {Q : Rv → LS → Prop} (h : Bud a (b + 101) s) (m0 : 0 ≤ mm) (m1 : mm ≤ 12) (L0 : 0 < L.length) (L1 : L.length ≤ 26) (La : ∀ c ∈ L, c ∈ az) (q : ∀ (ls : List Mv) (s' : LS), ls.length ≤ 24 → (∀ x ∈ ls, Good x) → ((ls.flatMap Mv.taken).length : Int) ≤ mm → ((ls.flatMap Mv.made).length : Int) ≤ mm → Bud a b s' → Q (.dat (script ls)) s') : Sat (scrF [.ref a, .int mm, .str L] s) Q := by
  unfold scrF
  rw [S_def (k := 3) (ds := [.ref a, .int mm, .str L]) rfl]
  show Sat (scrM [.dat (.ref a), .dat (.int mm), .dat (.str L), .un, .un, .un, .un, .un, .un, .un] s) _
  unfold scrM
  rw [S_seq, S_set]
  simp only [S_var, S_C, S_op1, k1_, S_op2, k2_, k2b_, S_nil, S_cons, kc_, kcb_, S_opN, kN_, S_tup, S_lst, kT_u, kL_u, stoL_nil, stoL_dat, stoL_own, consO_some, SatO_some, S_call, kCall_u, S_if, S_ifS, kI_true, kI_false, S_andV, S_orV, kAndV_true, kAndV_false, kOrV_true, kOrV_false, S_test, kTest_, S_tru, kTru_, S_and, S_or, S_not, kAnd_true, kAnd_false, kOr_true, kOr_false, kNot_, S_seq, kS_nx, kS_rt, kS_bk, kS_ct, S_pass, S_set, kSet_dat, kSet_own, S_par, kP_, kPb_, S_ret', kR_, S_retN, S_break, S_cont, S_for, kF_, S_forNil, kFb_nx, kFb_ct, kFb_bk, kFb_rt, S_items, kItems_tup, kItems_lst, kItems_own, S_lc, kLc_, S_lcNil, S_yes, kD_rt, kD_nx, Rv.ret, gt, st, kVar_dat, kVar_own, o_add, o_sub, o_eq, o_ne, o_lt, o_le, o_gt, o_ge, o_eqB, o_neB, o_is2, o_isnot2, o_abs, o_ix, o_ixO, o_ixB, o_ixL, o_tupO, o_isBool, map_some', wp, tgN_, List.length_cons, List.length_nil, Nat.reduceAdd, Nat.reduceLeDiff, true_and, decide_true, decide_false, Bool.not_true, Bool.not_false, o_mul_u, o_div_u, o_mod_u, o_pow_u, o_eqS, o_neS, o_intB, o_lenS, o_lenO, o_lenB, o_iaddI, S_s1, kS1_, kS1b_, S_lm, kLm_bor, kLm_own, kLmb_, S_tab, o_ixT, o_ixS, S_put, kPut_, kPutK_, S_zip2, kZip_, kZipb_tup, o_sum, o_sumB, o_tupB, o_tupL, o_lenT, S_range1, kRng_3, S_tgtL, kTgtL_, List.nil_append, List.cons_append, Nat.reduceLT, SZ, forall_const, true_implies]
  refine ⟨mulOk (a := 2) (b := 4) (by omega) (by omega) (by decide) (by decide) (by decide), ?_⟩
  refine S_draw h (by omega) (by have : (26 : Int) ≤ 10 ^ 90 := by decide
                                 omega) fun n s1 n0 n1 h1 => ?_
  simp only [S_var, S_C, S_op1, k1_, S_op2, k2_, k2b_, S_nil, S_cons, kc_, kcb_, S_opN, kN_, S_tup, S_lst, kT_u, kL_u, stoL_nil, stoL_dat, stoL_own, consO_some, SatO_some, S_call, kCall_u, S_if, S_ifS, kI_true, kI_false, S_andV, S_orV, kAndV_true, kAndV_false, kOrV_true, kOrV_false, S_test, kTest_, S_tru, kTru_, S_and, S_or, S_not, kAnd_true, kAnd_false, kOr_true, kOr_false, kNot_, S_seq, kS_nx, kS_rt, kS_bk, kS_ct, S_pass, S_set, kSet_dat, kSet_own, S_par, kP_, kPb_, S_ret', kR_, S_retN, S_break, S_cont, S_for, kF_, S_forNil, kFb_nx, kFb_ct, kFb_bk, kFb_rt, S_items, kItems_tup, kItems_lst, kItems_own, S_lc, kLc_, S_lcNil, S_yes, kD_rt, kD_nx, Rv.ret, gt, st, kVar_dat, kVar_own, o_add, o_sub, o_eq, o_ne, o_lt, o_le, o_gt, o_ge, o_eqB, o_neB, o_is2, o_isnot2, o_abs, o_ix, o_ixO, o_ixB, o_ixL, o_tupO, o_isBool, map_some', wp, tgN_, List.length_cons, List.length_nil, Nat.reduceAdd, Nat.reduceLeDiff, true_and, decide_true, decide_false, Bool.not_true, Bool.not_false, o_mul_u, o_div_u, o_mod_u, o_pow_u, o_eqS, o_neS, o_intB, o_lenS, o_lenO, o_lenB, o_iaddI, S_s1, kS1_, kS1b_, S_lm, kLm_bor, kLm_own, kLmb_, S_tab, o_ixT, o_ixS, S_put, kPut_, kPutK_, S_zip2, kZip_, kZipb_tup, o_sum, o_sumB, o_tupB, o_tupL, o_lenT, S_range1, kRng_3, S_tgtL, kTgtL_, List.nil_append, List.cons_append, Nat.reduceLT, SZ, forall_const, true_implies, kRng_]
  have hn : n ≤ 24 := by
    have : n < 2 * mm + 1 := n1
    omega
  obtain ⟨m, rfl⟩ : ∃ m : Nat, n = (m : Nat) := ⟨n.toNat, by omega⟩
  refine ⟨rng_ok (by omega), ?_⟩
  rw [Int.toNat_natCast, rng_map]
  refine S_forA (List.range m) (fun k => D.int (0 + (k : Nat))) (fun pre post e g => ∃ (ls : List Mv) (l0 l1 : Int) (last : List Nat) (x7 x8 x9 : Sl), ls.length ≤ pre.length ∧ (last = [] ∨ W4 last) ∧ ((∀ x ∈ ls, Good x) ∧ ((ls.flatMap Mv.taken).length : Int) + l0 = mm ∧ ((ls.flatMap Mv.made).length : Int) + l1 = mm ∧ 0 ≤ l0 ∧ 0 ≤ l1) ∧ e = [.dat (.ref a), .dat (.int mm), .dat (.str L), .dat (.int (m : Nat)), .own (ls.map Mv.d), .own [.int l0, .int l1], .dat (.str last), x7, x8, x9] ∧ Bud a (b + post.length * 4) g) ⟨[], mm, mm, [], _, _, _, Nat.le_refl 0, .inl rfl, ⟨fun x h => (by cases h), by simp, by simp, m0, m0⟩, rfl, h1.le (by rw [List.length_range]; omega)⟩ ?_ ?_
  · rintro pre k post e g hr ⟨ls, l0, l1, last, x7, x8, x9, hls, hlast, hgood, rfl, hB⟩
    refine ⟨_, rfl, ?_⟩
    rw [S_seq, S_set]
    simp only [st, S_call, S_cons, S_nil, S_var, gt, kVar_dat, kc_, kcb_, kCall_u, stoL_dat, stoL_nil, consO_some, SatO_some]
    refine S_stepM (b := b + post.length * 4) (hB.le (by rw [List.length_cons]; omega)) L0 L1 La hlast fun x s' hx0 hB' => ?_
    have hlen : (pre ++ [k]).length = pre.length + 1 := by simp
    have hlm : (ls.map Mv.d).length < 16777216 := by
      have := (range_pre hr).2
      have h5 := (range_pre hr).1
      rw [List.length_map]
      omega
    have hap : ls.map Mv.d ++ [x.d] = (ls ++ [x]).map Mv.d := by simp
    rw [hlen]
    simp only [S_var, S_C, S_op1, k1_, S_op2, k2_, k2b_, S_nil, S_cons, kc_, kcb_, S_opN, kN_, S_tup, S_lst, kT_u, kL_u, stoL_nil, stoL_dat, stoL_own, consO_some, SatO_some, S_call, kCall_u, S_if, S_ifS, kI_true, kI_false, S_andV, S_orV, kAndV_true, kAndV_false, kOrV_true, kOrV_false, S_test, kTest_, S_tru, kTru_, S_and, S_or, S_not, kAnd_true, kAnd_false, kOr_true, kOr_false, kNot_, S_seq, kS_nx, kS_rt, kS_bk, kS_ct, S_pass, S_set, kSet_dat, kSet_own, S_par, kP_, kPb_, S_ret', kR_, S_retN, S_break, S_cont, S_for, kF_, S_forNil, kFb_nx, kFb_ct, kFb_bk, kFb_rt, S_items, kItems_tup, kItems_lst, kItems_own, S_lc, kLc_, S_lcNil, S_yes, kD_rt, kD_nx, Rv.ret, gt, st, kVar_dat, kVar_own, o_add, o_sub, o_eq, o_ne, o_lt, o_le, o_gt, o_ge, o_eqB, o_neB, o_is2, o_isnot2, o_abs, o_ix, o_ixO, o_ixB, o_ixL, o_tupO, o_isBool, map_some', wp, tgN_, List.length_cons, List.length_nil, Nat.reduceAdd, Nat.reduceLeDiff, true_and, decide_true, decide_false, Bool.not_true, Bool.not_false, o_mul_u, o_div_u, o_mod_u, o_pow_u, o_eqS, o_neS, o_intB, o_lenS, o_lenO, o_lenB, o_iaddI, S_s1, kS1_, kS1b_, S_lm, kLm_bor, kLm_own, kLmb_, S_tab, o_ixT, o_ixS, S_put, kPut_, kPutK_, S_zip2, kZip_, kZipb_tup, o_sum, o_sumB, o_tupB, o_tupL, o_lenT, S_range1, kRng_3, S_tgtL, kTgtL_, List.nil_append, List.cons_append, Nat.reduceLT, SZ, forall_const, true_implies, ix0]
    have hx := word_W4 x
    have ep0 : (if (!(x.word == [105, 110])) = true then (1 : Int) else 0) = x.taken.length := by cases x <;> rfl
    have ep1 : (if (!(x.word == [111, 117, 116])) = true then (1 : Int) else 0) = x.made.length := by cases x <;> rfl
    rw [ep0, ep1]
    generalize hp0 : ((x.taken.length : Nat) : Int) = p0 at *
    generalize hp1 : ((x.made.length : Nat) : Int) = p1 at *
    simp only [S_var, S_C, S_op1, k1_, S_op2, k2_, k2b_, S_nil, S_cons, kc_, kcb_, S_opN, kN_, S_tup, S_lst, kT_u, kL_u, stoL_nil, stoL_dat, stoL_own, consO_some, SatO_some, S_call, kCall_u, S_if, S_ifS, kI_true, kI_false, S_andV, S_orV, kAndV_true, kAndV_false, kOrV_true, kOrV_false, S_test, kTest_, S_tru, kTru_, S_and, S_or, S_not, kAnd_true, kAnd_false, kOr_true, kOr_false, kNot_, S_seq, kS_nx, kS_rt, kS_bk, kS_ct, S_pass, S_set, kSet_dat, kSet_own, S_par, kP_, kPb_, S_ret', kR_, S_retN, S_break, S_cont, S_for, kF_, S_forNil, kFb_nx, kFb_ct, kFb_bk, kFb_rt, S_items, kItems_tup, kItems_lst, kItems_own, S_lc, kLc_, S_lcNil, S_yes, kD_rt, kD_nx, Rv.ret, gt, st, kVar_dat, kVar_own, o_add, o_sub, o_eq, o_ne, o_lt, o_le, o_gt, o_ge, o_eqB, o_neB, o_is2, o_isnot2, o_abs, o_ix, o_ixO, o_ixB, o_ixL, o_tupO, o_isBool, map_some', wp, tgN_, List.length_cons, List.length_nil, Nat.reduceAdd, Nat.reduceLeDiff, true_and, decide_true, decide_false, Bool.not_true, Bool.not_false, o_mul_u, o_div_u, o_mod_u, o_pow_u, o_eqS, o_neS, o_intB, o_lenS, o_lenO, o_lenB, o_iaddI, S_s1, kS1_, kS1b_, S_lm, kLm_bor, kLm_own, kLmb_, S_tab, o_ixT, o_ixS, S_put, kPut_, kPutK_, S_zip2, kZip_, kZipb_tup, o_sum, o_sumB, o_tupB, o_tupL, o_lenT, S_range1, kRng_3, S_tgtL, kTgtL_, List.nil_append, List.cons_append, Nat.reduceLT, SZ, forall_const, true_implies, a20, a21]
    have skip : ∀ x9 : Sl, ∃ (ls' : List Mv) (l0' l1' : Int) (last' : List Nat) (x7 x8 x9' : Sl), ls'.length ≤ pre.length + 1 ∧ (last' = [] ∨ W4 last') ∧ ((∀ x ∈ ls', Good x) ∧ ((ls'.flatMap Mv.taken).length : Int) + l0' = mm ∧ ((ls'.flatMap Mv.made).length : Int) + l1' = mm ∧ 0 ≤ l0' ∧ 0 ≤ l1') ∧ [Sl.dat (.ref a), .dat (.int mm), .dat (.str L), .dat (.int (m : Nat)), .own (ls.map Mv.d), .own [.int l0, .int l1], .dat (.str x.word), .dat (.int (0 + (k : Nat))), .dat x.d, x9] = [.dat (.ref a), .dat (.int mm), .dat (.str L), .dat (.int (m : Nat)), .own (ls'.map Mv.d), .own [.int l0', .int l1'], .dat (.str last'), x7, x8, x9'] ∧ Bud a (b + post.length * 4) s' :=
      fun x9 => ⟨ls, l0, l1, x.word, _, _, _, by omega, .inr hx, hgood, rfl, hB'⟩
    by_cases c1 : p0 ≤ l0
    · rw [decide_eq_true c1, kAnd_true]
      simp only [S_var, S_C, S_op1, k1_, S_op2, k2_, k2b_, S_nil, S_cons, kc_, kcb_, S_opN, kN_, S_tup, S_lst, kT_u, kL_u, stoL_nil, stoL_dat, stoL_own, consO_some, SatO_some, S_call, kCall_u, S_if, S_ifS, kI_true, kI_false, S_andV, S_orV, kAndV_true, kAndV_false, kOrV_true, kOrV_false, S_test, kTest_, S_tru, kTru_, S_and, S_or, S_not, kAnd_true, kAnd_false, kOr_true, kOr_false, kNot_, S_seq, kS_nx, kS_rt, kS_bk, kS_ct, S_pass, S_set, kSet_dat, kSet_own, S_par, kP_, kPb_, S_ret', kR_, S_retN, S_break, S_cont, S_for, kF_, S_forNil, kFb_nx, kFb_ct, kFb_bk, kFb_rt, S_items, kItems_tup, kItems_lst, kItems_own, S_lc, kLc_, S_lcNil, S_yes, kD_rt, kD_nx, Rv.ret, gt, st, kVar_dat, kVar_own, o_add, o_sub, o_eq, o_ne, o_lt, o_le, o_gt, o_ge, o_eqB, o_neB, o_is2, o_isnot2, o_abs, o_ix, o_ixO, o_ixB, o_ixL, o_tupO, o_isBool, map_some', wp, tgN_, List.length_cons, List.length_nil, Nat.reduceAdd, Nat.reduceLeDiff, true_and, decide_true, decide_false, Bool.not_true, Bool.not_false, o_mul_u, o_div_u, o_mod_u, o_pow_u, o_eqS, o_neS, o_intB, o_lenS, o_lenO, o_lenB, o_iaddI, S_s1, kS1_, kS1b_, S_lm, kLm_bor, kLm_own, kLmb_, S_tab, o_ixT, o_ixS, S_put, kPut_, kPutK_, S_zip2, kZip_, kZipb_tup, o_sum, o_sumB, o_tupB, o_tupL, o_lenT, S_range1, kRng_3, S_tgtL, kTgtL_, List.nil_append, List.cons_append, Nat.reduceLT, SZ, forall_const, true_implies, a20, a21]
      refine kI_d (fun c2 => ?_) (fun _ => ?_)
      · simp only [S_var, S_C, S_op1, k1_, S_op2, k2_, k2b_, S_nil, S_cons, kc_, kcb_, S_opN, kN_, S_tup, S_lst, kT_u, kL_u, stoL_nil, stoL_dat, stoL_own, consO_some, SatO_some, S_call, kCall_u, S_if, S_ifS, kI_true, kI_false, S_andV, S_orV, kAndV_true, kAndV_false, kOrV_true, kOrV_false, S_test, kTest_, S_tru, kTru_, S_and, S_or, S_not, kAnd_true, kAnd_false, kOr_true, kOr_false, kNot_, S_seq, kS_nx, kS_rt, kS_bk, kS_ct, S_pass, S_set, kSet_dat, kSet_own, S_par, kP_, kPb_, S_ret', kR_, S_retN, S_break, S_cont, S_for, kF_, S_forNil, kFb_nx, kFb_ct, kFb_bk, kFb_rt, S_items, kItems_tup, kItems_lst, kItems_own, S_lc, kLc_, S_lcNil, S_yes, kD_rt, kD_nx, Rv.ret, gt, st, kVar_dat, kVar_own, o_add, o_sub, o_eq, o_ne, o_lt, o_le, o_gt, o_ge, o_eqB, o_neB, o_is2, o_isnot2, o_abs, o_ix, o_ixO, o_ixB, o_ixL, o_tupO, o_isBool, map_some', wp, tgN_, List.length_cons, List.length_nil, Nat.reduceAdd, Nat.reduceLeDiff, true_and, decide_true, decide_false, Bool.not_true, Bool.not_false, o_mul_u, o_div_u, o_mod_u, o_pow_u, o_eqS, o_neS, o_intB, o_lenS, o_lenO, o_lenB, o_iaddI, S_s1, kS1_, kS1b_, S_lm, kLm_bor, kLm_own, kLmb_, S_tab, o_ixT, o_ixS, S_put, kPut_, kPutK_, S_zip2, kZip_, kZipb_tup, o_sum, o_sumB, o_tupB, o_tupL, o_lenT, S_range1, kRng_3, S_tgtL, kTgtL_, List.nil_append, List.cons_append, Nat.reduceLT, SZ, forall_const, true_implies, a20, a21]
        rw [S_app rfl]
        simp only [S_var, S_C, S_op1, k1_, S_op2, k2_, k2b_, S_nil, S_cons, kc_, kcb_, S_opN, kN_, S_tup, S_lst, kT_u, kL_u, stoL_nil, stoL_dat, stoL_own, consO_some, SatO_some, S_call, kCall_u, S_if, S_ifS, kI_true, kI_false, S_andV, S_orV, kAndV_true, kAndV_false, kOrV_true, kOrV_false, S_test, kTest_, S_tru, kTru_, S_and, S_or, S_not, kAnd_true, kAnd_false, kOr_true, kOr_false, kNot_, S_seq, kS_nx, kS_rt, kS_bk, kS_ct, S_pass, S_set, kSet_dat, kSet_own, S_par, kP_, kPb_, S_ret', kR_, S_retN, S_break, S_cont, S_for, kF_, S_forNil, kFb_nx, kFb_ct, kFb_bk, kFb_rt, S_items, kItems_tup, kItems_lst, kItems_own, S_lc, kLc_, S_lcNil, S_yes, kD_rt, kD_nx, Rv.ret, gt, st, kVar_dat, kVar_own, o_add, o_sub, o_eq, o_ne, o_lt, o_le, o_gt, o_ge, o_eqB, o_neB, o_is2, o_isnot2, o_abs, o_ix, o_ixO, o_ixB, o_ixL, o_tupO, o_isBool, map_some', wp, tgN_, List.length_cons, List.length_nil, Nat.reduceAdd, Nat.reduceLeDiff, true_and, decide_true, decide_false, Bool.not_true, Bool.not_false, o_mul_u, o_div_u, o_mod_u, o_pow_u, o_eqS, o_neS, o_intB, o_lenS, o_lenO, o_lenB, o_iaddI, S_s1, kS1_, kS1b_, S_lm, kLm_bor, kLm_own, kLmb_, S_tab, o_ixT, o_ixS, S_put, kPut_, kPutK_, S_zip2, kZip_, kZipb_tup, o_sum, o_sumB, o_tupB, o_tupL, o_lenT, S_range1, kRng_3, S_tgtL, kTgtL_, List.nil_append, List.cons_append, Nat.reduceLT, SZ, forall_const, true_implies, kA_dat]
        refine ⟨hlm, ls ++ [x], l0 - p0, l1 - p1, x.word, _, _, _, by rw [List.length_append]; simp; omega, .inr hx, ⟨fun y hy => ?_, ?_, ?_, by omega, by omega⟩, by rw [hap], hB'⟩
        · rcases List.mem_append.mp hy with hy | hy
          · exact hgood.1 y hy
          · rw [List.mem_singleton.mp hy]
            exact hx0
        · have := hgood.2.1
          rw [List.flatMap_append, List.length_append, List.flatMap_cons, List.flatMap_nil, List.append_nil]
          omega
        · have := hgood.2.2.1
          rw [List.flatMap_append, List.length_append, List.flatMap_cons, List.flatMap_nil, List.append_nil]
          omega
      · exact skip _
    · rw [decide_eq_false c1, kAnd_false, kI_false]
      exact skip _
  · rintro e g ⟨ls, l0, l1, last, x7, x8, x9, hls, hlast, hgood, rfl, hB⟩
    rw [List.length_range] at hls
    simp only [S_var, S_C, S_op1, k1_, S_op2, k2_, k2b_, S_nil, S_cons, kc_, kcb_, S_opN, kN_, S_tup, S_lst, kT_u, kL_u, stoL_nil, stoL_dat, stoL_own, consO_some, SatO_some, S_call, kCall_u, S_if, S_ifS, kI_true, kI_false, S_andV, S_orV, kAndV_true, kAndV_false, kOrV_true, kOrV_false, S_test, kTest_, S_tru, kTru_, S_and, S_or, S_not, kAnd_true, kAnd_false, kOr_true, kOr_false, kNot_, S_seq, kS_nx, kS_rt, kS_bk, kS_ct, S_pass, S_set, kSet_dat, kSet_own, S_par, kP_, kPb_, S_ret', kR_, S_retN, S_break, S_cont, S_for, kF_, S_forNil, kFb_nx, kFb_ct, kFb_bk, kFb_rt, S_items, kItems_tup, kItems_lst, kItems_own, S_lc, kLc_, S_lcNil, S_yes, kD_rt, kD_nx, Rv.ret, gt, st, kVar_dat, kVar_own, o_add, o_sub, o_eq, o_ne, o_lt, o_le, o_gt, o_ge, o_eqB, o_neB, o_is2, o_isnot2, o_abs, o_ix, o_ixO, o_ixB, o_ixL, o_tupO, o_isBool, map_some', wp, tgN_, List.length_cons, List.length_nil, Nat.reduceAdd, Nat.reduceLeDiff, true_and, decide_true, decide_false, Bool.not_true, Bool.not_false, o_mul_u, o_div_u, o_mod_u, o_pow_u, o_eqS, o_neS, o_intB, o_lenS, o_lenO, o_lenB, o_iaddI, S_s1, kS1_, kS1b_, S_lm, kLm_bor, kLm_own, kLmb_, S_tab, o_ixT, o_ixS, S_put, kPut_, kPutK_, S_zip2, kZip_, kZipb_tup, o_sum, o_sumB, o_tupB, o_tupL, o_lenT, S_range1, kRng_3, S_tgtL, kTgtL_, List.nil_append, List.cons_append, Nat.reduceLT, SZ, forall_const, true_implies]
    obtain ⟨g1, g2, g3, g4, g5⟩ := hgood
    exact q ls g (by omega) g1 (by omega) (by omega) (hB.le (by omega))
end PB

set_option Elab.async false
set_option linter.all false
set_option maxRecDepth 10000
set_option exponentiation.threshold 2000
namespace PB
/-! ### rows of three numbers; shapes -/
theorem gt_stE (e : Env) (i j : Nat) (x : Sl) : gt (st e i x) j = if j = i ∧ i < e.length then x else gt e j := by
  induction e generalizing i j with
  | nil => simp [st, gt]
  | cons s r ih =>
    cases i with
    | zero =>
      cases j with
      | zero => simp [st, gt]
      | succ j => simp [st, gt]
    | succ i =>
      cases j with
      | zero => simp [st, gt]
      | succ j => simp [st, gt, ih]
theorem st_len (e : Env) (i : Nat) (x : Sl) : (st e i x).length = e.length := by
  induction e generalizing i with
  | nil => rfl
  | cons s r ih => cases i <;> simp [st, ih]
abbrev V3 := Int × Int × Int
def vd (v : V3) : D := .tup [.int v.1, .int v.2.1, .int v.2.2]
def dot (a b : V3) : Int := a.1 * b.1 + a.2.1 * b.2.1 + a.2.2 * b.2.2
structure Lt3 (n : Nat) (v : V3) : Prop where
  x : v.1.natAbs < 2 ^ n
  y : v.2.1.natAbs < 2 ^ n
  z : v.2.2.natAbs < 2 ^ n
theorem Lt3.up {n m : Nat} {v : V3} (h : Lt3 n v) (k : n ≤ m) : Lt3 m v := ⟨ltUp h.x k, ltUp h.y k, ltUp h.z k⟩
theorem mulOkP {a b : Nat} {x y : Int} (hx : x.natAbs < 2 ^ a) (hy : y.natAbs < 2 ^ b) (h : a + b ≤ 999990) : MulOk x y :=
  mulOk (a := a + 1) (b := b + 1) (ltUp hx (by omega)) (ltUp hy (by omega)) (by omega) (by omega) (by omega)
theorem dot_lt {a b : Nat} {u v : V3} (h : Lt3 a u) (k : Lt3 b v) : (dot u v).natAbs < 2 ^ (a + b + 2) := by
  have h1 := mulLt h.x k.x
  have h2 := mulLt h.y k.y
  have h3 := mulLt h.z k.z
  have h4 := addLt h1 h2
  have h5 := addLt h4 (ltUp h3 (Nat.le_succ _))
  exact h5
/-- [f(x, y) for x, y in zip(a, b)], of rows of three -/
theorem S_zipV {A Bm el : ME LS} {e : Env} {s : LS} {i j : Nat} {u v : V3} (f : Int → Int → Int) {Q : Rv → LS → Prop} (hA : A e s = .ok (.dat (vd u)) s) (hB : Bm e s = .ok (.dat (vd v)) s)
    (he : ∀ x y : Int, (x = u.1 ∧ y = v.1) ∨ (x = u.2.1 ∧ y = v.2.1) ∨ (x = u.2.2 ∧ y = v.2.2) → el (st (st (wp e [i, j]) i (.dat (.int x))) j (.dat (.int y))) s = .ok (.dat (.int (f x y))) s)
    (q : Q (.own [.int (f u.1 v.1), .int (f u.2.1 v.2.1), .int (f u.2.2 v.2.2)]) s) : Sat (mLc (mZip2 A Bm) (tgT [i, j]) mYes el [i, j] e s) Q := by
  have key : ∀ (acc ds : List D) (x y : Int) (R : Rv → LS → Prop), acc.length < 16777216 → ((x = u.1 ∧ y = v.1) ∨ (x = u.2.1 ∧ y = v.2.1) ∨ (x = u.2.2 ∧ y = v.2.2)) → Sat (lcL (tgT [i, j]) mYes el (wp e [i, j]) ds (acc ++ [.int (f x y)]) s) R →
      Sat (lcL (tgT [i, j]) mYes el (wp e [i, j]) (.tup [.int x, .int y] :: ds) acc s) R := by
    intro acc ds x y R hl hm h
    rw [S_lcCons (e1 := st (st (wp e [i, j]) i (.dat (.int x))) j (.dat (.int y))) rfl, S_yes, kLcT_true]
    refine Sat_is (he x y hm) ?_
    rw [kLcA_dat]
    exact ⟨hl, h⟩
  simp only [S_lc, S_zip2]
  refine Sat_is hA ?_
  rw [kZip_]
  refine Sat_is hB ?_
  show Sat (lcL (tgT [i, j]) mYes el (wp e [i, j]) [.tup [.int u.1, .int v.1], .tup [.int u.2.1, .int v.2.1], .tup [.int u.2.2, .int v.2.2]] [] s) _
  refine key [] _ _ _ _ (Nat.lt_of_sub_pos (by simp)) (.inl ⟨rfl, rfl⟩) ?_
  refine key [_] _ _ _ _ (Nat.lt_of_sub_pos (by simp)) (.inr (.inl ⟨rfl, rfl⟩)) ?_
  refine key [_, _] _ _ _ _ (Nat.lt_of_sub_pos (by simp)) (.inr (.inr ⟨rfl, rfl⟩)) ?_
  rw [S_lcNil]
  exact q
theorem o_sum3 (x y z : Int) : oSum [.own [.int x, .int y, .int z]] = some (.dat (.int (x + y + z))) := by
  show some (Rv.dat (.int (x + (y + (z + 0))))) = _
  congr 3
  omega
/-- sum([x * y for x, y in zip(a, b)]) -/
theorem dot_eq {A Bm : ME LS} {e : Env} {s : LS} {i j n m : Nat} {u v : V3} (hA : A e s = .ok (.dat (vd u)) s) (hB : Bm e s = .ok (.dat (vd v)) s) (hi : i < e.length) (hj : j < e.length) (hij : i ≠ j) (hu : Lt3 n u) (hv : Lt3 m v) (hb : n + m ≤ 900000) :
    mOpN oSum (mCons (mLc (mZip2 A Bm) (tgT [i, j]) mYes (mOp2 oMul (mVar i) (mVar j)) [i, j]) mNil) e s = .ok (.dat (.int (dot u v))) s := Sat.eq fun Q q => by
  simp only [S_opN, S_cons]
  refine S_zipV (fun x y => x * y) hA hB (fun x y h => ?_) ?_
  · have g1 : gt (st (st (wp e [i, j]) i (.dat (.int x))) j (.dat (.int y))) i = .dat (.int x) := by
      rw [gt_stE, if_neg (fun z => hij z.1), gt_stE, if_pos ⟨rfl, by simp only [wp, st_len]; exact hi⟩]
    have g2 : gt (st (st (wp e [i, j]) i (.dat (.int x))) j (.dat (.int y))) j = .dat (.int y) := by
      rw [gt_stE, if_pos ⟨rfl, by simp only [wp, st_len]; exact hj⟩]
    have hm : MulOk x y := by
      rcases h with ⟨rfl, rfl⟩ | ⟨rfl, rfl⟩ | ⟨rfl, rfl⟩
      · exact mulOkP hu.x hv.x (by omega)
      · exact mulOkP hu.y hv.y (by omega)
      · exact mulOkP hu.z hv.z (by omega)
    refine Sat.eq fun Q q => ?_
    simp only [S_op2, S_var, g1, g2, kVar_dat, k2_, k2b_, o_mul hm, SatO_some]
    exact q
  · simp only [kc_, S_nil, kcb_, kN_, o_sum3, SatO_some]
    exact q
/-! ### a shape cut -/
def lowV (v : V3) : V3 := (v.1 / (g3 v.1 v.2.1 v.2.2 : Nat), v.2.1 / (g3 v.1 v.2.1 v.2.2 : Nat), v.2.2 / (g3 v.1 v.2.1 v.2.2 : Nat))
theorem vd_low (v : V3) : low3 v.1 v.2.1 v.2.2 = vd (lowV v) := rfl
def iabs (x : Int) : Int := if x < 0 then -x else x
def addV (a b : V3) : V3 := (a.1 + b.1, a.2.1 + b.2.1, a.2.2 + b.2.2)
def mulV (k : Int) (a : V3) : V3 := (k * a.1, k * a.2.1, k * a.2.2)
/-- the corner between two, where the side is worth nought -/
def mid (w a b : V3) : V3 := lowV (addV (mulV (iabs (dot w b)) a) (mulV (iabs (dot w a)) b))
def prevV (vs : List V3) (k : Nat) : V3 := vs.getD ((k + vs.length - 1) % vs.length) (0, 0, 0)
def piece (w : V3) (vs : List V3) (k : Nat) : List V3 :=
  (if dot w (prevV vs k) * dot w (vs.getD k (0, 0, 0)) < 0 then [mid w (prevV vs k) (vs.getD k (0, 0, 0))] else []) ++ (if 0 ≤ dot w (vs.getD k (0, 0, 0)) then [vs.getD k (0, 0, 0)] else [])
def kept (w : V3) (vs : List V3) : List V3 := (List.range vs.length).flatMap (piece w vs)
def ltV (a b : V3) : Bool := if a.1 = b.1 then (if a.2.1 = b.2.1 then decide (a.2.2 < b.2.2) else decide (a.2.1 < b.2.1)) else decide (a.1 < b.1)
def minV : V3 → List V3 → V3
  | m, [] => m
  | m, x :: xs => minV (if ltV x m = true then x else m) xs
def rotV : List V3 → List V3
  | [] => []
  | v :: vs => (v :: vs).drop ((v :: vs).findIdx fun x => decide (x = minV v vs)) ++ (v :: vs).take ((v :: vs).findIdx fun x => decide (x = minV v vs))
theorem lt_vd (a b : V3) : ltD (vd a) (vd b) = ltV a b := by
  show (if eqv (.int a.1) (.int b.1) = true then (if eqv (.int a.2.1) (.int b.2.1) = true then (if eqv (.int a.2.2) (.int b.2.2) = true then false else decide (a.2.2 < b.2.2)) else decide (a.2.1 < b.2.1)) else decide (a.1 < b.1)) = _
  simp only [eqv, beq_iff_eq]
  unfold ltV
  by_cases h1 : a.1 = b.1
  · rw [if_pos h1, if_pos h1]
    by_cases h2 : a.2.1 = b.2.1
    · rw [if_pos h2, if_pos h2]
      by_cases h3 : a.2.2 = b.2.2
      · rw [if_pos h3, h3]
        simp
      · rw [if_neg h3]
    · rw [if_neg h2, if_neg h2]
  · rw [if_neg h1, if_neg h1]
theorem min_vd : ∀ (vs : List V3) (v : V3), minD (vd v) (vs.map vd) = vd (minV v vs)
  | [], _ => rfl
  | x :: xs, v => by
    show minD (if ltD (vd x) (vd v) = true then vd x else vd v) (xs.map vd) = _
    rw [lt_vd, ← apply_ite vd, min_vd xs]
    rfl
theorem alk_vd (a b : V3) : alkD (vd a) (vd b) = true := rfl
theorem eqv_vd (a b : V3) : eqv (vd a) (vd b) = decide (a = b) := by
  show (a.1 == b.1 && (a.2.1 == b.2.1 && (a.2.2 == b.2.2 && true))) = _
  rcases a with ⟨x, y, z⟩
  rcases b with ⟨p, q, r⟩
  simp only [Bool.and_true, Prod.mk.injEq]
  by_cases h1 : x = p
  · by_cases h2 : y = q
    · by_cases h3 : z = r
      · simp [h1, h2, h3]
      · simp [h1, h2, h3]
    · simp [h1, h2]
  · simp [h1]
theorem okL_vd {n : Nat} : ∀ vs : List V3, okL (n + 1) (vs.map vd) = true
  | [] => rfl
  | v :: vs => by
    show (okE (n + 1) (vd v) && okL (n + 1) (vs.map vd)) = true
    rw [okL_vd vs]
    rfl
theorem alkAll_vd (vs : List V3) : alkAll (vs.map vd) = true := by
  unfold alkAll
  rw [List.all_eq_true]
  intro x hx
  obtain ⟨a, _, rfl⟩ := List.mem_map.mp hx
  rw [List.all_eq_true]
  intro y hy
  obtain ⟨b, _, rfl⟩ := List.mem_map.mp hy
  rfl
theorem o_minV {v : V3} {vs : List V3} : oMinT [.bor ((v :: vs).map vd)] = some (.dat (vd (minV v vs))) := by
  show (if alkAll ((v :: vs).map vd) = true ∧ okL 59 ((v :: vs).map vd) = true then some (Rv.dat (minD (vd v) (vs.map vd))) else none) = _
  rw [if_pos ⟨alkAll_vd _, okL_vd _⟩, min_vd]
theorem minV_mem : ∀ (vs : List V3) (v : V3), minV v vs ∈ v :: vs
  | [], v => List.mem_cons_self
  | x :: xs, v => by
    show minV (if ltV x v = true then x else v) xs ∈ _
    rcases List.mem_cons.mp (minV_mem xs (if ltV x v = true then x else v)) with h | h
    · rw [h]
      split
      · exact List.mem_cons_of_mem _ List.mem_cons_self
      · exact List.mem_cons_self
    · exact List.mem_cons_of_mem _ (List.mem_cons_of_mem _ h)
theorem o_indexV {vs : List V3} {m : V3} (h : m ∈ vs) : oIndex (vs.map vd) (vd m) = some ((vs.findIdx fun x => decide (x = m) : Nat) : Int) := by
  unfold oIndex
  rw [if_pos ⟨rfl, okL_vd _⟩]
  have e : (vs.map vd).findIdx? (fun d => eqv d (vd m)) = some (vs.findIdx fun x => decide (x = m)) := by
    rw [List.findIdx?_map]
    have ef : ((fun d => eqv d (vd m)) ∘ vd) = fun x => decide (x = m) := funext fun x => eqv_vd x m
    rw [ef]
    rw [List.findIdx?_eq_some_iff_findIdx_eq]
    refine ⟨List.findIdx_lt_length_of_exists ⟨m, h, by simp⟩, rfl⟩
  rw [e]
  rfl
/-- at = kept.index(min(kept)) -/
theorem idxMin_eq {e : Env} {s : LS} {i : Nat} {v : V3} {vs : List V3} (h : gt e i = .own ((v :: vs).map vd)) : mLm oIndex (mVar i) (mOpN oMinT (mCons (mVar i) mNil)) e s = .ok (.dat (.int (((v :: vs).findIdx fun x => decide (x = minV v vs) : Nat) : Int))) s := Sat.eq fun Q q => by
  simp only [S_lm, S_var, h, kVar_own, kLm_bor, S_opN, S_cons, S_nil, kc_, kcb_, kN_, o_minV, SatO_some, kLmb_, o_indexV (minV_mem vs v)]
  exact q
theorem cutLoI {α : Type} (L : List α) (k : Nat) : cut L (some (k : Int)) none = L.drop k := by
  unfold cut sIx
  dsimp only
  rw [if_neg (by omega)]
  simp only [Int.toNat_natCast]
  rcases Nat.le_total k L.length with h | h
  · rw [Nat.min_eq_left h]
    exact List.take_of_length_le (by rw [List.length_drop]; omega)
  · rw [Nat.min_eq_right h, List.drop_of_length_le (Nat.le_refl _), List.drop_of_length_le h]
    exact List.take_nil
theorem cutHiI {α : Type} (L : List α) (k : Nat) : cut L none (some (k : Int)) = L.take k := by
  unfold cut sIx
  dsimp only
  rw [if_neg (by omega)]
  simp
/-- tuple(kept[at:] + kept[:at]) -/
theorem rot_eq {e : Env} {s : LS} {i j k : Nat} {L : List D} (h : gt e i = .own L) (hk : gt e j = .dat (.int (k : Nat))) (hl : L.length ≤ 8000000) : mOpN oTuple (mCons (mOp2 oAdd (mCut (mVar i) (some (mVar j)) none) (mCut (mVar i) none (some (mVar j)))) mNil) e s = .ok (.dat (.tup (L.drop k ++ L.take k))) s := Sat.eq fun Q q => by
  have e1 : mCut (mVar i) (some (mVar j)) none e s = .ok (.own (L.drop k)) s := Sat.eq fun Q q => by
    rw [S_cutL, S_var, h, kVar_own, S_var, hk, kVar_dat]
    show SatO (some (Rv.own (cut L (some (k : Int)) none))) Q s
    rw [cutLoI]
    exact q
  have e2 : mCut (mVar i) none (some (mVar j)) e s = .ok (.own (L.take k)) s := Sat.eq fun Q q => by
    rw [S_cutH, S_var, h, kVar_own, S_var, hk, kVar_dat]
    show SatO (some (Rv.own (cut L none (some (k : Int))))) Q s
    rw [cutHiI]
    exact q
  rw [S_opN, S_cons, S_op2]
  refine Sat_is e1 ?_
  rw [k2_]
  refine Sat_is e2 ?_
  have e3 : oAdd (.own (L.drop k)) (.own (L.take k)) = some (.own (L.drop k ++ L.take k)) := if_pos (by rw [List.length_drop, List.length_take]; show _ ≤ 16777216; omega)
  rw [k2b_, e3]
  exact q
theorem ixNnat {n k : Nat} (h : k < n) : ixN n ((k : Nat) : Int) = some k := by
  unfold ixN
  rw [if_pos (by omega), if_pos (by omega)]
  simp
theorem atIat {α : Type} {xs : List α} {k : Nat} (h : k < xs.length) : atI xs ((k : Nat) : Int) = some xs[k] := by
  unfold atI
  rw [ixNnat h]
  simp [h]
/-- xs[k - 1], round about -/
theorem atIprev {α : Type} {xs : List α} {k : Nat} (h : k < xs.length) : atI xs (((k : Nat) : Int) - 1) = xs[(k + xs.length - 1) % xs.length]? := by
  unfold atI
  cases k with
  | zero =>
    have e : ixN xs.length (((0 : Nat) : Int) - 1) = some (xs.length - 1) := by
      unfold ixN
      rw [if_neg (by omega), if_pos (by omega)]
      congr 1
      omega
    rw [e, show (0 + xs.length - 1) % xs.length = xs.length - 1 from by rw [Nat.zero_add, Nat.mod_eq_of_lt (by omega)]]
    rfl
  | succ k =>
    rw [show (((k + 1 : Nat) : Int) - 1) = (k : Nat) from by omega, ixNnat (by omega), show k + 1 + xs.length - 1 = k + xs.length from by omega, Nat.add_mod_right, Nat.mod_eq_of_lt (by omega)]
    rfl
theorem at_prev {vs : List V3} {k : Nat} (h : k < vs.length) : atI (vs.map vd) (((k : Nat) : Int) - 1) = some (vd (prevV vs k)) := by
  rw [atIprev (by rw [List.length_map]; exact h), List.length_map, List.getElem?_map]
  unfold prevV
  have hm : (k + vs.length - 1) % vs.length < vs.length := Nat.mod_lt _ (by omega)
  rw [List.getElem?_eq_getElem hm, List.getD_eq_getElem?_getD, List.getElem?_eq_getElem hm]
  rfl
theorem at_vd {vs : List V3} {k : Nat} (h : k < vs.length) : atI (vs.map vd) ((k : Nat) : Int) = some (vd (vs.getD k (0, 0, 0))) := by
  rw [atIat (by rw [List.length_map]; exact h), List.getElem_map, List.getD_eq_getElem?_getD, List.getElem?_eq_getElem h]
  rfl
theorem prev_mem {vs : List V3} {k : Nat} (h : k < vs.length) : prevV vs k ∈ vs := by
  unfold prevV
  have hm : (k + vs.length - 1) % vs.length < vs.length := Nat.mod_lt _ (by omega)
  rw [List.getD_eq_getElem?_getD, List.getElem?_eq_getElem hm]
  exact List.getElem_mem hm
theorem getD_memV {vs : List V3} {k : Nat} (h : k < vs.length) : vs.getD k (0, 0, 0) ∈ vs := by
  rw [List.getD_eq_getElem?_getD, List.getElem?_eq_getElem h]
  exact List.getElem_mem h
theorem at_worth {w : V3} {vs : List V3} {k : Nat} (h : k < vs.length) : atI (vs.map fun v => D.int (dot w v)) ((k : Nat) : Int) = some (.int (dot w (vs.getD k (0, 0, 0)))) ∧ atI (vs.map fun v => D.int (dot w v)) (((k : Nat) : Int) - 1) = some (.int (dot w (prevV vs k))) := by
  constructor
  · rw [atIat (by rw [List.length_map]; exact h), List.getElem_map, List.getD_eq_getElem?_getD, List.getElem?_eq_getElem h]
    rfl
  · rw [atIprev (by rw [List.length_map]; exact h), List.length_map, List.getElem?_map]
    unfold prevV
    have hm : (k + vs.length - 1) % vs.length < vs.length := Nat.mod_lt _ (by omega)
    rw [List.getElem?_eq_getElem hm, List.getD_eq_getElem?_getD, List.getElem?_eq_getElem hm]
    rfl
/-! a price: no number below nought, not all nought -/
structure Prc (v : V3) : Prop where
  x : 0 ≤ v.1
  y : 0 ≤ v.2.1
  z : 0 ≤ v.2.2
  n : v.1 ≠ 0 ∨ v.2.1 ≠ 0 ∨ v.2.2 ≠ 0
theorem iabs_nat (x : Int) : iabs x = (x.natAbs : Int) := by
  unfold iabs
  split <;> omega
theorem mulV_lt {n m : Nat} {k : Int} {v : V3} (hk : k.natAbs < 2 ^ n) (h : Lt3 m v) : Lt3 (n + m) (mulV k v) := ⟨mulLt hk h.x, mulLt hk h.y, mulLt hk h.z⟩
theorem addV_lt {n : Nat} {u v : V3} (h : Lt3 n u) (k : Lt3 n v) : Lt3 (n + 1) (addV u v) := ⟨addLt h.x k.x, addLt h.y k.y, addLt h.z k.z⟩
theorem lowV_prc {v : V3} (h : Prc v) : Prc (lowV v) := by
  have hg : 0 < g3 v.1 v.2.1 v.2.2 := by
    refine gcdL_pos (.inr ?_)
    rcases h.n with k | k | k
    · exact ⟨_, List.mem_cons_self, k⟩
    · exact ⟨_, List.mem_cons_of_mem _ List.mem_cons_self, k⟩
    · exact ⟨_, List.mem_cons_of_mem _ (List.mem_cons_of_mem _ List.mem_cons_self), k⟩
  have hd := (gcdL_dvd (l := [v.1, v.2.1, v.2.2]) (g := 0)).2
  have nz : ∀ x : Int, ((g3 v.1 v.2.1 v.2.2 : Nat) : Int) ∣ x → x ≠ 0 → x / (g3 v.1 v.2.1 v.2.2 : Nat) ≠ 0 := by
    rintro x ⟨c, rfl⟩ hx
    rw [Int.mul_ediv_cancel_left _ (by omega)]
    intro z
    rw [z] at hx
    simp at hx
  refine ⟨Int.ediv_nonneg h.x (by omega), Int.ediv_nonneg h.y (by omega), Int.ediv_nonneg h.z (by omega), ?_⟩
  rcases h.n with k | k | k
  · exact .inl (nz _ (hd _ List.mem_cons_self) k)
  · exact .inr (.inl (nz _ (hd _ (List.mem_cons_of_mem _ List.mem_cons_self)) k))
  · exact .inr (.inr (nz _ (hd _ (List.mem_cons_of_mem _ (List.mem_cons_of_mem _ List.mem_cons_self))) k))
theorem lowV_lt {n : Nat} {v : V3} (h : Lt3 n v) : Lt3 n (lowV v) := by
  have key : ∀ x : Int, ∀ g : Nat, x.natAbs < 2 ^ n → (x / (g : Int)).natAbs < 2 ^ n := by
    intro x g hx
    refine Nat.lt_of_le_of_lt ?_ hx
    exact Int.natAbs_ediv_le_natAbs x g
  exact ⟨key _ _ h.x, key _ _ h.y, key _ _ h.z⟩
theorem mid_sum {w a b : V3} (ha : Prc a) (hb : Prc b) (h : dot w a * dot w b < 0) : Prc (addV (mulV (iabs (dot w b)) a) (mulV (iabs (dot w a)) b)) := by
  have p1 : 0 < iabs (dot w b) := by
    rw [iabs_nat]
    have : dot w b ≠ 0 := fun z => by rw [z, Int.mul_zero] at h; exact absurd h (Int.lt_irrefl _)
    omega
  have p2 : 0 < iabs (dot w a) := by
    rw [iabs_nat]
    have : dot w a ≠ 0 := fun z => by rw [z, Int.zero_mul] at h; exact absurd h (Int.lt_irrefl _)
    omega
  generalize iabs (dot w b) = p at *
  generalize iabs (dot w a) = q at *
  have mm : ∀ {k x : Int}, 0 < k → 0 ≤ x → 0 ≤ k * x ∧ (x ≠ 0 → 0 < k * x) := fun hk hx => ⟨Int.mul_nonneg (Int.le_of_lt hk) hx, fun hn => Int.mul_pos hk (by omega)⟩
  obtain ⟨a1, a2⟩ := mm p1 ha.x
  obtain ⟨a3, a4⟩ := mm p1 ha.y
  obtain ⟨a5, a6⟩ := mm p1 ha.z
  obtain ⟨b1, b2⟩ := mm p2 hb.x
  obtain ⟨b3, b4⟩ := mm p2 hb.y
  obtain ⟨b5, b6⟩ := mm p2 hb.z
  refine ⟨Int.add_nonneg a1 b1, Int.add_nonneg a3 b3, Int.add_nonneg a5 b5, ?_⟩
  show p * a.1 + q * b.1 ≠ 0 ∨ p * a.2.1 + q * b.2.1 ≠ 0 ∨ p * a.2.2 + q * b.2.2 ≠ 0
  rcases ha.n with k | k | k
  · exact .inl (by have := a2 k; omega)
  · exact .inr (.inl (by have := a4 k; omega))
  · exact .inr (.inr (by have := a6 k; omega))
theorem mid_prc {w a b : V3} (ha : Prc a) (hb : Prc b) (h : dot w a * dot w b < 0) : Prc (mid w a b) := lowV_prc (mid_sum ha hb h)
theorem mid_ltS {m n : Nat} {w a b : V3} (hw : Lt3 m w) (ha : Lt3 n a) (hb : Lt3 n b) : Lt3 (m + n + n + 3) (addV (mulV (iabs (dot w b)) a) (mulV (iabs (dot w a)) b)) := by
  have e : m + n + n + 3 = (m + n + 2) + n + 1 := by omega
  rw [e]
  refine addV_lt (mulV_lt ?_ ha) (mulV_lt ?_ hb)
  · rw [iabs_nat]
    exact dot_lt hw hb
  · rw [iabs_nat]
    exact dot_lt hw ha
theorem mid_lt {m n : Nat} {w a b : V3} (hw : Lt3 m w) (ha : Lt3 n a) (hb : Lt3 n b) : Lt3 (m + n + n + 3) (mid w a b) := lowV_lt (mid_ltS hw ha hb)
/-- [f(x) for x in ls if c(x)] -/
theorem S_lcF {γ : Type} {t : MT γ} {a : ME γ} {e : Env} {g : γ} {Q : Rv → γ → Prop} {α : Type} {tg : MG} (ls : List α) (dn fn : α → D) (c : α → Bool) (hl : ls.length ≤ SZ)
    (hs : ∀ x ∈ ls, ∃ e1, tg (dn x) e = some e1 ∧ t e1 g = .ok (c x) g ∧ (c x = true → Sat (a e1 g) fun r g2 => r.sto = some (fn x) ∧ g2 = g))
    (hd : Q (.own ((ls.filter c).map fn)) g) : Sat (lcL tg t a e (ls.map dn) [] g) Q := by
  have key : ∀ post pre, ls = pre ++ post → Sat (lcL tg t a e (post.map dn) ((pre.filter c).map fn) g) Q := by
    intro post
    induction post with
    | nil =>
      intro pre hp
      rw [List.append_nil] at hp
      subst hp
      exact hd
    | cons x xs ih =>
      intro pre hp
      have hx : x ∈ ls := by rw [hp]; simp
      obtain ⟨e1, h1, h2, h3⟩ := hs x hx
      rw [List.map_cons, S_lcCons h1]
      rw [h2, Sat_ok]
      have h4 := ih (pre ++ [x]) (by rw [hp]; simp)
      rw [List.filter_append] at h4
      cases hc : c x with
      | false =>
        rw [kLcT_false]
        rw [show [x].filter c = [] from by simp [hc], List.append_nil] at h4
        exact h4
      | true =>
        rw [kLcT_true]
        refine (h3 hc).mono fun r g2 hr => ?_
        obtain ⟨r1, rfl⟩ := hr
        unfold kLcA
        rw [r1]
        refine ⟨?_, ?_⟩
        · have : ((pre.filter c).map fn).length ≤ pre.length := by rw [List.length_map]; exact List.length_filter_le _ _
          have h5 : ls.length = pre.length + (xs.length + 1) := by rw [hp]; simp
          omega
        · rw [show [x].filter c = [x] from by simp [hc], List.map_append] at h4
          exact h4
  exact key ls [] rfl
end PB

set_option Elab.async false
set_option linter.all false
set_option maxRecDepth 100000
set_option maxHeartbeats 0
namespace G_k60
open PB
def m__law_mix : MS LS := (mSeq (mIncC 0)
    (mSeq (mSet 1 (mCnt 0))
    (mSeq (mSet 2 (mC (.int 5)))
    (mSeq (mIfS (mHasC 0) (mSet 2 (mAtC 0 (mOp2 oMod (mVar 1) (mLenC 0)))) mPass)
    (mSeq (mSet 3 (mOp2 oMod (mOp2 oPow (mOp2 oAdd (mOp2 oAdd (mOp2 oAdd (mVar 2) (mOp2 oMul (mOp2 oMul (mC (.int 1009)) (mVar 1)) (mVar 1))) (mOp2 oMul (mC (.int 48611)) (mVar 1))) (mC (.int 17))) (mC (.int 5))) (mC (.int 2147483647))))
    (mRet (mOp2 oMod (mOp2 oAdd (mOp2 oMul (mVar 3) (mC (.int 39373))) (mOp2 oMul (mC (.int 7919)) (mVar 1))) (mC (.int 1000000007)))))))))
def F__law_mix : MF LS := mDef 4 1 (m__law_mix)
def m__law_draw : MS LS := (mSeq (mIfS (mAnd (mTest (mOp2 oEq (mTold 0) (mC (.int 0)))) (mHasG 0)) (mPopG 0) mPass)
    (mSeq (mIfS (mTest (mOp2 oGt (mTold 0) (mC (.int 0)))) (mSeq (mSet 2 (mOp2 oMod (mTold 0) (mVar 1)))
    (mSeq (mSetTold 0 (mOp2 oDiv (mTold 0) (mVar 1)))
    (mRet (mVar 2)))) mPass)
    (mSeq (mSet 2 (mC (.int 0)))
    (mSeq (mSet 3 (mC (.int 1)))
    (mSeq (mWhile (mTest (mOp2 oLt (mVar 3) (mVar 1))) (mSeq (mSet 2 (mOp2 oAdd (mOp2 oMul (mVar 2) (mC (.int 1000000007))) (mCall F__law_mix (mCons (mVar 0) mNil))))
    (mSet 3 (mOp2 oMul (mVar 3) (mC (.int 1000000007))))) 100)
    (mRet (mOp2 oMod (mVar 2) (mVar 1))))))))
def F__law_draw : MF LS := mDef 4 2 (m__law_draw)
def m__law_ring : MS LS := (mSeq (mSet 1 (mLst mNil))
    (mSeq (mSet 2 (mCall F__law_draw (mCons (mVar 0) (mCons (mC (.int 3)) mNil))))
    (mSeq (mFor (mRange1 (mOp2 oAdd (mC (.int 3)) (mCall F__law_draw (mCons (mVar 0) (mCons (mC (.int 37)) mNil))))) (tgN 3) (mSeq (mApp 1 (mTup (mCons (mC (.int 1)) (mCons (mVar 2) (mCons (mOp2 oMul (mVar 2) (mVar 2)) mNil)))))
    (mAug 2 oIAdd (mOp2 oAdd (mC (.int 1)) (mCall F__law_draw (mCons (mVar 0) (mCons (mC (.int 3)) mNil)))))))
    (mRet (mOpN oTuple (mCons (mVar 1) mNil))))))
def F__law_ring : MF LS := mDef 4 1 (m__law_ring)
def m__law_shared : MS LS := (mSeq (mSet 0 (mOpN oAbs (mCons (mVar 0) mNil)))
    (mSeq (mSet 1 (mOpN oAbs (mCons (mVar 1) mNil)))
    (mSeq (mWhile (mTest (mOp2 oGt (mVar 1) (mC (.int 0)))) (mPar 0 1 (mVar 1) (mOp2 oMod (mVar 0) (mVar 1))) 100000)
    (mRet (mVar 0)))))
def F__law_shared : MF LS := mDef 2 2 (m__law_shared)
def m__law_lowest : MS LS := (mSeq (mSet 1 (mC (.int 0)))
    (mSeq (mFor (mItems (mVar 0)) (tgN 2) (mSet 1 (mCall F__law_shared (mCons (mVar 1) (mCons (mVar 2) mNil)))))
    (mRet (mOpN oTuple (mCons (mLc (mItems (mVar 0)) (tgN 2) mYes (mOp2 oDiv (mVar 2) (mVar 1)) [2]) mNil)))))
def F__law_lowest : MF LS := mDef 3 1 (m__law_lowest)
def m__law_cut : MS LS := (mSeq (mSet 2 (mLc (mItems (mVar 0)) (tgN 8) mYes (mOpN oSum (mCons (mLc (mZip2 (mVar 1) (mVar 8)) (tgT [9, 10]) mYes (mOp2 oMul (mVar 9) (mVar 10)) [9, 10]) mNil)) [8]))
    (mSeq (mIfS (mTest (mOp2 oLe (mOpN oMaxA (mCons (mVar 2) mNil)) (mC (.int 0)))) (mRet (mVar 0)) mPass)
    (mSeq (mSet 3 (mLst mNil))
    (mSeq (mFor (mRange1 (mOpN oLen (mCons (mVar 0) mNil))) (tgN 4) (mSeq (mSet 5 (mOp2 oIx (mVar 2) (mOp2 oSub (mVar 4) (mC (.int 1)))))
    (mSeq (mSet 6 (mOp2 oIx (mVar 2) (mVar 4)))
    (mSeq (mIfS (mTest (mOp2 oLt (mOp2 oMul (mVar 5) (mVar 6)) (mC (.int 0)))) (mApp 3 (mCall F__law_lowest (mCons (mLc (mZip2 (mOp2 oIx (mVar 0) (mOp2 oSub (mVar 4) (mC (.int 1)))) (mOp2 oIx (mVar 0) (mVar 4))) (tgT [9, 10]) mYes (mOp2 oAdd (mOp2 oMul (mOpN oAbs (mCons (mVar 6) mNil)) (mVar 9)) (mOp2 oMul (mOpN oAbs (mCons (mVar 5) mNil)) (mVar 10))) [9, 10]) mNil))) mPass)
    (mIfS (mTest (mOp2 oGe (mVar 6) (mC (.int 0)))) (mApp 3 (mOp2 oIx (mVar 0) (mVar 4))) mPass)))))
    (mSeq (mSet 7 (mLm oIndex (mVar 3) (mOpN oMinT (mCons (mVar 3) mNil))))
    (mRet (mOpN oTuple (mCons (mOp2 oAdd (mCut (mVar 3) (some (mVar 7)) none) (mCut (mVar 3) none (some (mVar 7)))) mNil))))))))
def F__law_cut : MF LS := mDef 11 2 (m__law_cut)
def m__law_shape : MS LS := (mSeq (mSet 1 (mCall F__law_draw (mCons (mVar 0) (mCons (mC (.int 8)) mNil))))
    (mSeq (mSet 2 (mCall F__law_draw (mCons (mVar 0) (mCons (mC (.int 7)) mNil))))
    (mSeq (mSet 3 (mOp2 oIx (mLst (mCons (mC (.int 25)) (mCons (mC (.int 7)) (mCons (mC (.int 3)) (mCons (mOp2 oPow (mC (.int 10)) (mC (.int 12))) mNil))))) (mCall F__law_draw (mCons (mVar 0) (mCons (mC (.int 4)) mNil)))))
    (mSeq (mSet 4 (mTup (mCons (mTup (mCons (mC (.int 0)) (mCons (mC (.int 0)) (mCons (mC (.int 1)) mNil)))) (mCons (mTup (mCons (mC (.int 1)) (mCons (mC (.int 0)) (mCons (mC (.int 0)) mNil)))) (mCons (mTup (mCons (mC (.int 0)) (mCons (mC (.int 1)) (mCons (mC (.int 0)) mNil)))) mNil)))))
    (mSeq (mIfS (mTest (mOp2 oEq (mVar 1) (mC (.int 5)))) (mRet (mCall F__law_ring (mCons (mVar 0) mNil))) mPass)
    (mSeq (mIfS (mTest (mOp2 oGt (mVar 3) (mC (.int 25)))) (mSet 2 (mOpN oMin2 (mCons (mC (.int 2)) (mCons (mVar 2) mNil)))) mPass)
    (mSeq (mFor (mRange1 (mVar 2)) (tgN 5) (mSet 4 (mCall F__law_cut (mCons (mVar 4) (mCons (mOpN oTuple (mCons (mLc (mRange1 (mC (.int 3))) (tgN 6) mYes (mOp2 oSub (mCall F__law_draw (mCons (mVar 0) (mCons (mVar 3) mNil))) (mOp2 oDiv (mVar 3) (mC (.int 2)))) [6]) mNil)) mNil)))))
    (mRet (mVar 4)))))))))
def F__law_shape : MF LS := mDef 7 1 (m__law_shape)
def m__law_same (F : MF LS) : MS LS := (mSeq (mIfS (mTest (mOp1 (oIs .tuple) (mVar 1))) (mSeq (mIfS (mOr (mNot (mTest (mOp1 (oIs .tuple) (mVar 0)))) (mTest (mOp2 oNe (mOpN oLen (mCons (mVar 0) mNil)) (mOpN oLen (mCons (mVar 1) mNil))))) (mRet (mC (.bl false))) mPass)
    (mRet (mOpN oAll (mCons (mLc (mZip2 (mVar 0) (mVar 1)) (tgT [2, 3]) mYes (mCall F (mCons (mVar 2) (mCons (mVar 3) mNil))) [2, 3]) mNil)))) mPass)
    (mSeq (mIfS (mTest (mOp1 oIsN (mVar 1))) (mRet (mOp1 oIsN (mVar 0))) mPass)
    (mSeq (mIfS (mTest (mOp1 (oIs .str) (mVar 1))) (mRet (mAndV (mOp1 (oIs .str) (mVar 0)) (mOp2 oEq (mVar 0) (mVar 1)))) mPass)
    (mRet (mAndV (mOp1 (oIs .int) (mVar 0)) (mAndV (mOp2 oEq (mOp1 (oIs .bool) (mVar 0)) (mOp1 (oIs .bool) (mVar 1))) (mOp2 oEq (mVar 0) (mVar 1))))))))
def F__law_same : Nat → MF LS
  | 0 => fun _ _ => .no
  | n + 1 => mDef 4 2 (m__law_same (F__law_same n))
def m_shared : MS LS := (mSeq (mSet 0 (mOpN oAbs (mCons (mVar 0) mNil)))
    (mSeq (mSet 1 (mOpN oAbs (mCons (mVar 1) mNil)))
    (mSeq (mWhile (mTest (mOp2 oGt (mVar 1) (mC (.int 0)))) (mPar 0 1 (mVar 1) (mOp2 oMod (mVar 0) (mVar 1))) 100000)
    (mRet (mVar 0)))))
def F_shared : MF LS := mDef 2 2 (m_shared)
def m_lowest : MS LS := (mSeq (mSet 1 (mC (.int 0)))
    (mSeq (mFor (mItems (mVar 0)) (tgN 2) (mSet 1 (mCall F_shared (mCons (mVar 1) (mCons (mVar 2) mNil)))))
    (mRet (mOpN oTuple (mCons (mLc (mItems (mVar 0)) (tgN 2) mYes (mOp2 oDiv (mVar 2) (mVar 1)) [2]) mNil)))))
def F_lowest : MF LS := mDef 3 1 (m_lowest)
def m_fraction_of : MS LS := (mSeq (mIfS (mTest (mOp2 oEq (mVar 1) (mC (.int 0)))) mNev mPass)
    (mSeq (mIfS (mTest (mOp2 oLt (mVar 1) (mC (.int 0)))) (mRet (mCall F_lowest (mCons (mTup (mCons (mOp1 oNeg (mVar 0)) (mCons (mOp1 oNeg (mVar 1)) mNil))) mNil))) mPass)
    (mRet (mCall F_lowest (mCons (mTup (mCons (mVar 0) (mCons (mVar 1) mNil))) mNil)))))
def F_fraction_of : MF LS := mDef 2 2 (m_fraction_of)
def m_by_one : MS LS := (mSeq (mIfS (mTest (mOp2 oEq (mOp2 oIx (mVar 0) (mC (.int 0))) (mC (.int 0)))) mNev mPass)
    (mRet (mTup (mCons (mCall F_fraction_of (mCons (mOp2 oIx (mVar 0) (mC (.int 1))) (mCons (mOp2 oIx (mVar 0) (mC (.int 0))) mNil))) (mCons (mCall F_fraction_of (mCons (mOp2 oIx (mVar 0) (mC (.int 2))) (mCons (mOp2 oIx (mVar 0) (mC (.int 0))) mNil))) mNil)))))
def F_by_one : MF LS := mDef 1 1 (m_by_one)
def m_corners_by_one : MS LS := (mSeq (mSet 1 (mOpN oTuple (mCons (mLc (mItems (mVar 0)) (tgN 3) (mTest (mOp2 oGt (mOp2 oIx (mVar 3) (mC (.int 0))) (mC (.int 0)))) (mCall F_by_one (mCons (mVar 3) mNil)) [3]) mNil)))
    (mSeq (mSet 2 (mOpN oTuple (mCons (mLc (mItems (mVar 0)) (tgN 3) (mTest (mOp2 oEq (mOp2 oIx (mVar 3) (mC (.int 0))) (mC (.int 0)))) (mCut (mVar 3) (some (mC (.int 1))) none) [3]) mNil)))
    (mRet (mTup (mCons (mVar 1) (mCons (mVar 2) mNil))))))
def F_corners_by_one : MF LS := mDef 4 1 (m_corners_by_one)
def m__law_due : MS LS := (mSeq (mSet 1 (mLst mNil))
    (mSeq (mSet 2 (mLst mNil))
    (mSeq (mFor (mItems (mVar 0)) (tgT [3, 4, 5]) (mIfS (mTest (mOp2 oEq (mVar 3) (mC (.int 0)))) (mApp 2 (mTup (mCons (mVar 4) (mCons (mVar 5) mNil)))) (mApp 1 (mTup (mCons (mCall F__law_lowest (mCons (mLst (mCons (mVar 4) (mCons (mVar 3) mNil))) mNil)) (mCons (mCall F__law_lowest (mCons (mLst (mCons (mVar 5) (mCons (mVar 3) mNil))) mNil)) mNil))))))
    (mRet (mTup (mCons (mOpN oTuple (mCons (mVar 1) mNil)) (mCons (mOpN oTuple (mCons (mVar 2) mNil)) mNil)))))))
def F__law_due : MF LS := mDef 6 1 (m__law_due)
def m_law : MS LS := (mSeq (mSet 2 (mCall F__law_shape (mCons (mVar 1) mNil)))
    (mSeq (mSet 3 (mCall F__law_shape (mCons (mVar 1) mNil)))
    (mSeq (mFor (mItems (mTup (mCons (mVar 2) (mCons (mVar 3) (mCons (mVar 2) mNil))))) (tgN 4) (mIfS (mNot (mTest (mCall (F__law_same 10) (mCons (mCall F_corners_by_one (mCons (mVar 4) mNil)) (mCons (mCall F__law_due (mCons (mVar 4) mNil)) mNil))))) (mRet (mC (.bl false))) mPass))
    (mRet (mCall (F__law_same 10) (mCons (mCall F_corners_by_one (mCons (mC (.tup [(.tup [(.int 0), (.int 0), (.int 1)]), (.tup [(.int 1), (.int 0), (.int 0)]), (.tup [(.int 0), (.int 1), (.int 0)])])) mNil)) (mCons (mTup (mCons (mTup (mCons (mTup (mCons (mTup (mCons (mC (.int 0)) (mCons (mC (.int 1)) mNil))) (mCons (mTup (mCons (mC (.int 0)) (mCons (mC (.int 1)) mNil))) mNil))) mNil)) (mCons (mTup (mCons (mTup (mCons (mC (.int 0)) (mCons (mC (.int 1)) mNil))) (mCons (mTup (mCons (mC (.int 1)) (mCons (mC (.int 0)) mNil))) mNil))) mNil))) mNil)))))))
end G_k60

set_option Elab.async false
set_option linter.all false
set_option maxRecDepth 10000
set_option exponentiation.threshold 2000
set_option maxHeartbeats 4000000
namespace G_k60
open PB
theorem e_draw : F__law_draw = drawF := rfl
theorem e_lowest : F__law_lowest = lowestF := rfl
theorem e_lowest2 : F_lowest = lowestF := rfl
theorem e_frac : F_fraction_of = fracN := rfl
theorem e_same (n : Nat) : F__law_same n = dueF n := by
  induction n with
  | zero => rfl
  | succ n ih =>
    show mDef 4 2 (m__law_same (F__law_same n)) = mDef 4 2 (dueM (dueF n))
    rw [ih]
    rfl
def shp (vs : List V3) : D := .tup (vs.map vd)
def cutW (w : V3) (vs : List V3) : List V3 := if (vs.all fun v => decide (dot w v ≤ 0)) = true then vs else rotV (kept w vs)
structure Shp (n k : Nat) (vs : List V3) : Prop where
  ne : 0 < vs.length
  le : vs.length ≤ k
  pr : ∀ v ∈ vs, Prc v ∧ Lt3 n v
theorem lmax_le : ∀ (xs : List Int) (m : Int), decide (lmax m xs ≤ 0) = (decide (m ≤ 0) && xs.all fun x => decide (x ≤ 0))
  | [], m => by
    rw [List.all_nil, Bool.and_true]
    rfl
  | x :: xs, m => by
    show decide (lmax (if x > m then x else m) xs ≤ 0) = _
    rw [lmax_le xs]
    have e : decide ((if x > m then x else m) ≤ 0) = (decide (m ≤ 0) && decide (x ≤ 0)) := by
      rw [← Bool.decide_and]
      refine decide_eq_decide.mpr ?_
      by_cases h : x > m
      · rw [if_pos h]; omega
      · rw [if_neg h]; omega
    rw [e, List.all_cons, Bool.and_assoc]
theorem dInts_map {α : Type} (f : α → Int) : ∀ ls : List α, dInts (ls.map fun x => D.int (f x)) = some (ls.map f)
  | [] => rfl
  | x :: xs => by
    show (dInts (xs.map fun x => D.int (f x))).map (f x :: ·) = _
    rw [dInts_map f xs]
    rfl
theorem kept_len (w : V3) (vs : List V3) : (kept w vs).length ≤ 2 * vs.length := by
  unfold kept
  rw [List.length_flatMap]
  have key : ∀ (l : List Nat), (l.map fun k => (piece w vs k).length).sum ≤ 2 * l.length := by
    intro l
    induction l with
    | nil => simp
    | cons k l ih =>
      rw [List.map_cons, List.sum_cons, List.length_cons]
      have : (piece w vs k).length ≤ 2 := by
        unfold piece
        rw [List.length_append]
        split <;> split <;> simp
      omega
  have := key (List.range vs.length)
  rw [List.length_range] at this
  exact this
theorem kept_ok {n k m : Nat} {w : V3} {vs : List V3} (h : Shp n k vs) (hw : Lt3 m w) : ∀ v ∈ kept w vs, Prc v ∧ Lt3 (m + n + n + 3) v := by
  intro v hv
  unfold kept at hv
  obtain ⟨j, hj, hv⟩ := List.mem_flatMap.mp hv
  have hj := List.mem_range.mp hj
  have h1 := h.pr _ (prev_mem hj)
  have h2 := h.pr _ (getD_memV hj)
  unfold piece at hv
  rcases List.mem_append.mp hv with hv | hv
  · split at hv
    · rename_i hlt
      rw [List.mem_singleton.mp hv]
      exact ⟨mid_prc h1.1 h2.1 hlt, mid_lt hw h1.2 h2.2⟩
    · cases hv
  · split at hv
    · rw [List.mem_singleton.mp hv]
      exact ⟨h2.1, h2.2.up (by omega)⟩
    · cases hv
theorem kept_ne {w : V3} {vs : List V3} (h : (vs.all fun v => decide (dot w v ≤ 0)) = false) : 0 < (kept w vs).length := by
  rw [List.all_eq_false] at h
  obtain ⟨v, hv, h⟩ := h
  have h : ¬ dot w v ≤ 0 := fun z => h (decide_eq_true z)
  obtain ⟨j, hj, rfl⟩ := List.getElem_of_mem hv
  refine List.length_pos_iff.mpr fun z => ?_
  have : vs[j] ∈ kept w vs := by
    refine List.mem_flatMap.mpr ⟨j, List.mem_range.mpr hj, List.mem_append.mpr (.inr ?_)⟩
    rw [List.getD_eq_getElem?_getD, List.getElem?_eq_getElem hj]
    show _ ∈ if 0 ≤ dot w vs[j] then [vs[j]] else []
    rw [if_pos (by omega)]
    exact List.mem_singleton.mpr rfl
  rw [z] at this
  cases this
theorem rotV_mem (vs : List V3) (v : V3) : v ∈ rotV vs ↔ v ∈ vs := by
  cases vs with
  | nil => exact Iff.rfl
  | cons x xs =>
    unfold rotV
    generalize (x :: xs).findIdx (fun y => decide (y = minV x xs)) = j
    rw [List.mem_append, or_comm, ← List.mem_append, List.take_append_drop]
theorem rotV_len (vs : List V3) : (rotV vs).length = vs.length := by
  cases vs with
  | nil => rfl
  | cons x xs =>
    unfold rotV
    generalize (x :: xs).findIdx (fun y => decide (y = minV x xs)) = j
    rw [List.length_append, Nat.add_comm, ← List.length_append, List.take_append_drop]
theorem cutW_ok {n k m : Nat} {w : V3} {vs : List V3} (h : Shp n k vs) (hw : Lt3 m w) : Shp (m + n + n + 3) (2 * k) (cutW w vs) := by
  unfold cutW
  have hle := h.le
  cases hc : vs.all fun v => decide (dot w v ≤ 0) with
  | true =>
    rw [if_pos rfl]
    exact ⟨h.ne, by omega, fun v hv => ⟨(h.pr v hv).1, (h.pr v hv).2.up (by omega)⟩⟩
  | false =>
    rw [if_neg Bool.false_ne_true]
    refine ⟨by rw [rotV_len]; exact kept_ne hc, by rw [rotV_len]; have := kept_len w vs; omega, fun v hv => ?_⟩
    exact kept_ok h hw v ((rotV_mem _ _).mp hv)
section
variable {s : LS} {Q : Rv → LS → Prop}
theorem low_eqL {n : Nat} {v : V3} (h : Prc v) (hb : Lt3 n v) (hn : n ≤ 1000) : lowestF [.lst [.int v.1, .int v.2.1, .int v.2.2]] s = .ok (.dat (vd (lowV v))) s :=
  low3_eq (.inr rfl) h.n (ltUp hb.x hn) (ltUp hb.y hn) (ltUp hb.z hn)
theorem cut_eq {n m k : Nat} {w : V3} {vs : List V3} (h : Shp n k vs) (hw : Lt3 m w) (hn : m + n + n + 3 ≤ 1000) (hk : k ≤ 1000) : F__law_cut [shp vs, vd w] s = .ok (.dat (shp (cutW w vs))) s := Sat.eq fun Q q => by
  have hvl := h.le
  unfold F__law_cut
  rw [S_def (k := 2) (ds := [shp vs, vd w]) rfl]
  show Sat (m__law_cut [.dat (shp vs), .dat (vd w), .un, .un, .un, .un, .un, .un, .un, .un, .un] s) _
  unfold m__law_cut
  rw [e_lowest]
  simp only [S_var, S_C, S_op1, k1_, S_op2, k2_, k2b_, S_nil, S_cons, kc_, kcb_, S_opN, kN_, S_tup, S_lst, kT_u, kL_u, stoL_nil, stoL_dat, stoL_own, consO_some, SatO_some, S_call, kCall_u, S_if, S_ifS, kI_true, kI_false, S_andV, S_orV, kAndV_true, kAndV_false, kOrV_true, kOrV_false, S_test, kTest_, S_tru, kTru_, S_and, S_or, S_not, kAnd_true, kAnd_false, kOr_true, kOr_false, kNot_, S_seq, kS_nx, kS_rt, kS_bk, kS_ct, S_pass, S_set, kSet_dat, kSet_own, S_par, kP_, kPb_, S_ret', kR_, S_retN, S_break, S_cont, S_for, kF_, S_forNil, kFb_nx, kFb_ct, kFb_bk, kFb_rt, S_items, kItems_tup, kItems_lst, kItems_own, S_lc, kLc_, S_lcNil, S_yes, kD_rt, kD_nx, Rv.ret, gt, st, kVar_dat, kVar_own, o_add, o_sub, o_eq, o_ne, o_lt, o_le, o_gt, o_ge, o_eqB, o_neB, o_is2, o_isnot2, o_abs, o_ix, o_ixO, o_ixB, o_ixL, o_tupO, o_isBool, map_some', wp, tgN_, List.length_cons, List.length_nil, Nat.reduceAdd, Nat.reduceLeDiff, true_and, decide_true, decide_false, Bool.not_true, Bool.not_false, o_mul_u, o_div_u, o_mod_u, o_pow_u, o_eqS, o_neS, o_intB, o_lenS, o_lenO, o_lenB, o_iaddI, S_s1, kS1_, kS1b_, S_lm, kLm_bor, kLm_own, kLmb_, S_tab, o_ixT, o_ixS, S_put, kPut_, kPutK_, S_zip2, kZip_, kZipb_tup, o_sum, o_sumB, o_tupB, o_tupL, o_lenT, S_range1, kRng_3, S_tgtL, kTgtL_, List.nil_append, List.cons_append, Nat.reduceLT, SZ, forall_const, true_implies, shp]
  refine S_lcA vs vd (fun v => .int (dot w v)) (by show _ ≤ 16777216; omega) (fun v hv => ⟨_, rfl, ?_⟩) ?_
  · rw [S_yes]
    refine ⟨rfl, rfl, ?_⟩
    exact Sat_is (dot_eq (n := m) (m := n) (u := w) (v := v) rfl rfl (by show 9 < 11; decide) (by show 10 < 11; decide) (by decide) hw (h.pr v hv).2 (by omega)) ⟨rfl, rfl⟩
  · obtain ⟨v0, vr, rfl⟩ : ∃ v0 vr, vs = v0 :: vr := by
      cases vs with
      | nil => exact absurd h.ne (by simp)
      | cons a b => exact ⟨a, b, rfl⟩
    have em : oMaxA [.bor ((v0 :: vr).map fun v => D.int (dot w v))] = some (.dat (.int (lmax (dot w v0) (vr.map (dot w))))) := by
      show (match dInts ((v0 :: vr).map fun v => D.int (dot w v)) with | some (n :: ns) => some (Rv.dat (.int (lmax n ns))) | _ => none) = _
      rw [dInts_map]
      rfl
    simp only [S_var, S_C, S_op1, k1_, S_op2, k2_, k2b_, S_nil, S_cons, kc_, kcb_, S_opN, kN_, S_tup, S_lst, kT_u, kL_u, stoL_nil, stoL_dat, stoL_own, consO_some, SatO_some, S_call, kCall_u, S_if, S_ifS, kI_true, kI_false, S_andV, S_orV, kAndV_true, kAndV_false, kOrV_true, kOrV_false, S_test, kTest_, S_tru, kTru_, S_and, S_or, S_not, kAnd_true, kAnd_false, kOr_true, kOr_false, kNot_, S_seq, kS_nx, kS_rt, kS_bk, kS_ct, S_pass, S_set, kSet_dat, kSet_own, S_par, kP_, kPb_, S_ret', kR_, S_retN, S_break, S_cont, S_for, kF_, S_forNil, kFb_nx, kFb_ct, kFb_bk, kFb_rt, S_items, kItems_tup, kItems_lst, kItems_own, S_lc, kLc_, S_lcNil, S_yes, kD_rt, kD_nx, Rv.ret, gt, st, kVar_dat, kVar_own, o_add, o_sub, o_eq, o_ne, o_lt, o_le, o_gt, o_ge, o_eqB, o_neB, o_is2, o_isnot2, o_abs, o_ix, o_ixO, o_ixB, o_ixL, o_tupO, o_isBool, map_some', wp, tgN_, List.length_cons, List.length_nil, Nat.reduceAdd, Nat.reduceLeDiff, true_and, decide_true, decide_false, Bool.not_true, Bool.not_false, o_mul_u, o_div_u, o_mod_u, o_pow_u, o_eqS, o_neS, o_intB, o_lenS, o_lenO, o_lenB, o_iaddI, S_s1, kS1_, kS1b_, S_lm, kLm_bor, kLm_own, kLmb_, S_tab, o_ixT, o_ixS, S_put, kPut_, kPutK_, S_zip2, kZip_, kZipb_tup, o_sum, o_sumB, o_tupB, o_tupL, o_lenT, S_range1, kRng_3, S_tgtL, kTgtL_, List.nil_append, List.cons_append, Nat.reduceLT, SZ, forall_const, true_implies, em]
    rw [lmax_le]
    have ea : (decide (dot w v0 ≤ 0) && (vr.map (dot w)).all fun x => decide (x ≤ 0)) = ((v0 :: vr).all fun v => decide (dot w v ≤ 0)) := by
      rw [List.all_cons, List.all_map]
      rfl
    rw [ea]
    generalize hvs : v0 :: vr = vs at *
    cases hc : vs.all fun v => decide (dot w v ≤ 0) with
    | true =>
      simp only [S_var, S_C, S_op1, k1_, S_op2, k2_, k2b_, S_nil, S_cons, kc_, kcb_, S_opN, kN_, S_tup, S_lst, kT_u, kL_u, stoL_nil, stoL_dat, stoL_own, consO_some, SatO_some, S_call, kCall_u, S_if, S_ifS, kI_true, kI_false, S_andV, S_orV, kAndV_true, kAndV_false, kOrV_true, kOrV_false, S_test, kTest_, S_tru, kTru_, S_and, S_or, S_not, kAnd_true, kAnd_false, kOr_true, kOr_false, kNot_, S_seq, kS_nx, kS_rt, kS_bk, kS_ct, S_pass, S_set, kSet_dat, kSet_own, S_par, kP_, kPb_, S_ret', kR_, S_retN, S_break, S_cont, S_for, kF_, S_forNil, kFb_nx, kFb_ct, kFb_bk, kFb_rt, S_items, kItems_tup, kItems_lst, kItems_own, S_lc, kLc_, S_lcNil, S_yes, kD_rt, kD_nx, Rv.ret, gt, st, kVar_dat, kVar_own, o_add, o_sub, o_eq, o_ne, o_lt, o_le, o_gt, o_ge, o_eqB, o_neB, o_is2, o_isnot2, o_abs, o_ix, o_ixO, o_ixB, o_ixL, o_tupO, o_isBool, map_some', wp, tgN_, List.length_cons, List.length_nil, Nat.reduceAdd, Nat.reduceLeDiff, true_and, decide_true, decide_false, Bool.not_true, Bool.not_false, o_mul_u, o_div_u, o_mod_u, o_pow_u, o_eqS, o_neS, o_intB, o_lenS, o_lenO, o_lenB, o_iaddI, S_s1, kS1_, kS1b_, S_lm, kLm_bor, kLm_own, kLmb_, S_tab, o_ixT, o_ixS, S_put, kPut_, kPutK_, S_zip2, kZip_, kZipb_tup, o_sum, o_sumB, o_tupB, o_tupL, o_lenT, S_range1, kRng_3, S_tgtL, kTgtL_, List.nil_append, List.cons_append, Nat.reduceLT, SZ, forall_const, true_implies]
      unfold cutW at q
      rw [if_pos hc] at q
      exact q
    | false =>
      unfold cutW at q
      rw [if_neg (by rw [hc]; exact Bool.false_ne_true)] at q
      simp only [S_var, S_C, S_op1, k1_, S_op2, k2_, k2b_, S_nil, S_cons, kc_, kcb_, S_opN, kN_, S_tup, S_lst, kT_u, kL_u, stoL_nil, stoL_dat, stoL_own, consO_some, SatO_some, S_call, kCall_u, S_if, S_ifS, kI_true, kI_false, S_andV, S_orV, kAndV_true, kAndV_false, kOrV_true, kOrV_false, S_test, kTest_, S_tru, kTru_, S_and, S_or, S_not, kAnd_true, kAnd_false, kOr_true, kOr_false, kNot_, S_seq, kS_nx, kS_rt, kS_bk, kS_ct, S_pass, S_set, kSet_dat, kSet_own, S_par, kP_, kPb_, S_ret', kR_, S_retN, S_break, S_cont, S_for, kF_, S_forNil, kFb_nx, kFb_ct, kFb_bk, kFb_rt, S_items, kItems_tup, kItems_lst, kItems_own, S_lc, kLc_, S_lcNil, S_yes, kD_rt, kD_nx, Rv.ret, gt, st, kVar_dat, kVar_own, o_add, o_sub, o_eq, o_ne, o_lt, o_le, o_gt, o_ge, o_eqB, o_neB, o_is2, o_isnot2, o_abs, o_ix, o_ixO, o_ixB, o_ixL, o_tupO, o_isBool, map_some', wp, tgN_, List.length_cons, List.length_nil, Nat.reduceAdd, Nat.reduceLeDiff, true_and, decide_true, decide_false, Bool.not_true, Bool.not_false, o_mul_u, o_div_u, o_mod_u, o_pow_u, o_eqS, o_neS, o_intB, o_lenS, o_lenO, o_lenB, o_iaddI, S_s1, kS1_, kS1b_, S_lm, kLm_bor, kLm_own, kLmb_, S_tab, o_ixT, o_ixS, S_put, kPut_, kPutK_, S_zip2, kZip_, kZipb_tup, o_sum, o_sumB, o_tupB, o_tupL, o_lenT, S_range1, kRng_3, S_tgtL, kTgtL_, List.nil_append, List.cons_append, Nat.reduceLT, SZ, forall_const, true_implies, kRng_, o_lenT, List.length_map]
      refine ⟨rng_ok (by omega), ?_⟩
      rw [Int.toNat_natCast, rng_map]
      refine S_forA (List.range vs.length) (fun k => D.int (0 + (k : Nat))) (fun pre post e g => ∃ x4 x5 x6 : Sl, e = [.dat (.tup (vs.map vd)), .dat (vd w), .own (vs.map fun v => .int (dot w v)), .own ((pre.flatMap (piece w vs)).map vd), x4, x5, x6, .un, .un, .un, .un] ∧ g = s) ⟨_, _, _, rfl, rfl⟩ ?_ ?_
      · rintro pre j post e g hr ⟨x4, x5, x6, rfl, rfl⟩
        refine ⟨_, rfl, ?_⟩
        have hj : j < vs.length := List.mem_range.mp (by rw [hr]; simp)
        have hpl : (pre.flatMap (piece w vs)).length ≤ 2 * vs.length := by
          have e1 : (pre.flatMap (piece w vs)).length ≤ (kept w vs).length := by
            unfold kept
            rw [hr, List.flatMap_append, List.length_append]
            omega
          exact Nat.le_trans e1 (kept_len w vs)
        have hA := h.pr _ (prev_mem hj)
        have hB := h.pr _ (getD_memV hj)
        have dA := dot_lt hw hA.2
        have dB := dot_lt hw hB.2
        simp only [Int.zero_add]
        simp only [S_var, S_C, S_op1, k1_, S_op2, k2_, k2b_, S_nil, S_cons, kc_, kcb_, S_opN, kN_, S_tup, S_lst, kT_u, kL_u, stoL_nil, stoL_dat, stoL_own, consO_some, SatO_some, S_call, kCall_u, S_if, S_ifS, kI_true, kI_false, S_andV, S_orV, kAndV_true, kAndV_false, kOrV_true, kOrV_false, S_test, kTest_, S_tru, kTru_, S_and, S_or, S_not, kAnd_true, kAnd_false, kOr_true, kOr_false, kNot_, S_seq, kS_nx, kS_rt, kS_bk, kS_ct, S_pass, S_set, kSet_dat, kSet_own, S_par, kP_, kPb_, S_ret', kR_, S_retN, S_break, S_cont, S_for, kF_, S_forNil, kFb_nx, kFb_ct, kFb_bk, kFb_rt, S_items, kItems_tup, kItems_lst, kItems_own, S_lc, kLc_, S_lcNil, S_yes, kD_rt, kD_nx, Rv.ret, gt, st, kVar_dat, kVar_own, o_add, o_sub, o_eq, o_ne, o_lt, o_le, o_gt, o_ge, o_eqB, o_neB, o_is2, o_isnot2, o_abs, o_ix, o_ixO, o_ixB, o_ixL, o_tupO, o_isBool, map_some', wp, tgN_, List.length_cons, List.length_nil, Nat.reduceAdd, Nat.reduceLeDiff, true_and, decide_true, decide_false, Bool.not_true, Bool.not_false, o_mul_u, o_div_u, o_mod_u, o_pow_u, o_eqS, o_neS, o_intB, o_lenS, o_lenO, o_lenB, o_iaddI, S_s1, kS1_, kS1b_, S_lm, kLm_bor, kLm_own, kLmb_, S_tab, o_ixT, o_ixS, S_put, kPut_, kPutK_, S_zip2, kZip_, kZipb_tup, o_sum, o_sumB, o_tupB, o_tupL, o_lenT, S_range1, kRng_3, S_tgtL, kTgtL_, List.nil_append, List.cons_append, Nat.reduceLT, SZ, forall_const, true_implies, (at_worth hj).1, (at_worth hj).2]
        refine ⟨mulOkP dA dB (by omega), ?_⟩
        have ep : (pre ++ [j]).flatMap (piece w vs) = pre.flatMap (piece w vs) ++ piece w vs j := by
          rw [List.flatMap_append, List.flatMap_cons, List.flatMap_nil, List.append_nil]
        have hal : ∀ M : List V3, M.length ≤ 2 * vs.length + 1 → (M.map vd).length < 16777216 := fun M hM => by rw [List.length_map]; omega
        -- the second half
        have half : ∀ (M : List V3), M.length ≤ 2 * vs.length + 1 → M ++ (if 0 ≤ dot w (vs.getD j (0, 0, 0)) then [vs.getD j (0, 0, 0)] else []) = (pre ++ [j]).flatMap (piece w vs) →
            Sat (mIfS (mTest (mOp2 oGe (mVar 6) (mC (.int 0)))) (mApp 3 (mOp2 oIx (mVar 0) (mVar 4))) mPass [.dat (.tup (vs.map vd)), .dat (vd w), .own (vs.map fun v => .int (dot w v)), .own (M.map vd), .dat (.int (j : Nat)), .dat (.int (dot w (prevV vs j))), .dat (.int (dot w (vs.getD j (0, 0, 0)))), .un, .un, .un, .un] g)
              (fun f g' => match f with
                | .nx e => ∃ x4 x5 x6 : Sl, e = [.dat (.tup (vs.map vd)), .dat (vd w), .own (vs.map fun v => .int (dot w v)), .own (((pre ++ [j]).flatMap (piece w vs)).map vd), x4, x5, x6, .un, .un, .un, .un] ∧ g' = g
                | _ => False) := by
          intro M hM eM
          simp only [S_var, S_C, S_op1, k1_, S_op2, k2_, k2b_, S_nil, S_cons, kc_, kcb_, S_opN, kN_, S_tup, S_lst, kT_u, kL_u, stoL_nil, stoL_dat, stoL_own, consO_some, SatO_some, S_call, kCall_u, S_if, S_ifS, kI_true, kI_false, S_andV, S_orV, kAndV_true, kAndV_false, kOrV_true, kOrV_false, S_test, kTest_, S_tru, kTru_, S_and, S_or, S_not, kAnd_true, kAnd_false, kOr_true, kOr_false, kNot_, S_seq, kS_nx, kS_rt, kS_bk, kS_ct, S_pass, S_set, kSet_dat, kSet_own, S_par, kP_, kPb_, S_ret', kR_, S_retN, S_break, S_cont, S_for, kF_, S_forNil, kFb_nx, kFb_ct, kFb_bk, kFb_rt, S_items, kItems_tup, kItems_lst, kItems_own, S_lc, kLc_, S_lcNil, S_yes, kD_rt, kD_nx, Rv.ret, gt, st, kVar_dat, kVar_own, o_add, o_sub, o_eq, o_ne, o_lt, o_le, o_gt, o_ge, o_eqB, o_neB, o_is2, o_isnot2, o_abs, o_ix, o_ixO, o_ixB, o_ixL, o_tupO, o_isBool, map_some', wp, tgN_, List.length_cons, List.length_nil, Nat.reduceAdd, Nat.reduceLeDiff, true_and, decide_true, decide_false, Bool.not_true, Bool.not_false, o_mul_u, o_div_u, o_mod_u, o_pow_u, o_eqS, o_neS, o_intB, o_lenS, o_lenO, o_lenB, o_iaddI, S_s1, kS1_, kS1b_, S_lm, kLm_bor, kLm_own, kLmb_, S_tab, o_ixT, o_ixS, S_put, kPut_, kPutK_, S_zip2, kZip_, kZipb_tup, o_sum, o_sumB, o_tupB, o_tupL, o_lenT, S_range1, kRng_3, S_tgtL, kTgtL_, List.nil_append, List.cons_append, Nat.reduceLT, SZ, forall_const, true_implies]
          refine kI_d (fun c1 => ?_) (fun c1 => ?_)
          · rw [S_app rfl]
            simp only [S_var, S_C, S_op1, k1_, S_op2, k2_, k2b_, S_nil, S_cons, kc_, kcb_, S_opN, kN_, S_tup, S_lst, kT_u, kL_u, stoL_nil, stoL_dat, stoL_own, consO_some, SatO_some, S_call, kCall_u, S_if, S_ifS, kI_true, kI_false, S_andV, S_orV, kAndV_true, kAndV_false, kOrV_true, kOrV_false, S_test, kTest_, S_tru, kTru_, S_and, S_or, S_not, kAnd_true, kAnd_false, kOr_true, kOr_false, kNot_, S_seq, kS_nx, kS_rt, kS_bk, kS_ct, S_pass, S_set, kSet_dat, kSet_own, S_par, kP_, kPb_, S_ret', kR_, S_retN, S_break, S_cont, S_for, kF_, S_forNil, kFb_nx, kFb_ct, kFb_bk, kFb_rt, S_items, kItems_tup, kItems_lst, kItems_own, S_lc, kLc_, S_lcNil, S_yes, kD_rt, kD_nx, Rv.ret, gt, st, kVar_dat, kVar_own, o_add, o_sub, o_eq, o_ne, o_lt, o_le, o_gt, o_ge, o_eqB, o_neB, o_is2, o_isnot2, o_abs, o_ix, o_ixO, o_ixB, o_ixL, o_tupO, o_isBool, map_some', wp, tgN_, List.length_cons, List.length_nil, Nat.reduceAdd, Nat.reduceLeDiff, true_and, decide_true, decide_false, Bool.not_true, Bool.not_false, o_mul_u, o_div_u, o_mod_u, o_pow_u, o_eqS, o_neS, o_intB, o_lenS, o_lenO, o_lenB, o_iaddI, S_s1, kS1_, kS1b_, S_lm, kLm_bor, kLm_own, kLmb_, S_tab, o_ixT, o_ixS, S_put, kPut_, kPutK_, S_zip2, kZip_, kZipb_tup, o_sum, o_sumB, o_tupB, o_tupL, o_lenT, S_range1, kRng_3, S_tgtL, kTgtL_, List.nil_append, List.cons_append, Nat.reduceLT, SZ, forall_const, true_implies, at_vd hj, kA_dat]
            rw [if_pos c1] at eM
            rw [← eM, List.map_append]
            exact ⟨hal M hM, _, _, _, rfl, trivial⟩
          · rw [if_neg c1, List.append_nil] at eM
            rw [← eM]
            exact ⟨_, _, _, rfl, rfl⟩
        by_cases c1 : dot w (prevV vs j) * dot w (vs.getD j (0, 0, 0)) < 0
        · rw [decide_eq_true c1, kI_true, S_app rfl]
          simp only [S_call, S_cons, S_nil]
          refine S_zipV (u := prevV vs j) (v := vs.getD j (0, 0, 0)) (fun x y => iabs (dot w (vs.getD j (0, 0, 0))) * x + iabs (dot w (prevV vs j)) * y) ?_ ?_ (fun x y h3 => ?_) ?_
          · exact Sat.eq fun Q q => by
              simp only [S_var, S_C, S_op1, k1_, S_op2, k2_, k2b_, S_nil, S_cons, kc_, kcb_, S_opN, kN_, S_tup, S_lst, kT_u, kL_u, stoL_nil, stoL_dat, stoL_own, consO_some, SatO_some, S_call, kCall_u, S_if, S_ifS, kI_true, kI_false, S_andV, S_orV, kAndV_true, kAndV_false, kOrV_true, kOrV_false, S_test, kTest_, S_tru, kTru_, S_and, S_or, S_not, kAnd_true, kAnd_false, kOr_true, kOr_false, kNot_, S_seq, kS_nx, kS_rt, kS_bk, kS_ct, S_pass, S_set, kSet_dat, kSet_own, S_par, kP_, kPb_, S_ret', kR_, S_retN, S_break, S_cont, S_for, kF_, S_forNil, kFb_nx, kFb_ct, kFb_bk, kFb_rt, S_items, kItems_tup, kItems_lst, kItems_own, S_lc, kLc_, S_lcNil, S_yes, kD_rt, kD_nx, Rv.ret, gt, st, kVar_dat, kVar_own, o_add, o_sub, o_eq, o_ne, o_lt, o_le, o_gt, o_ge, o_eqB, o_neB, o_is2, o_isnot2, o_abs, o_ix, o_ixO, o_ixB, o_ixL, o_tupO, o_isBool, map_some', wp, tgN_, List.length_cons, List.length_nil, Nat.reduceAdd, Nat.reduceLeDiff, true_and, decide_true, decide_false, Bool.not_true, Bool.not_false, o_mul_u, o_div_u, o_mod_u, o_pow_u, o_eqS, o_neS, o_intB, o_lenS, o_lenO, o_lenB, o_iaddI, S_s1, kS1_, kS1b_, S_lm, kLm_bor, kLm_own, kLmb_, S_tab, o_ixT, o_ixS, S_put, kPut_, kPutK_, S_zip2, kZip_, kZipb_tup, o_sum, o_sumB, o_tupB, o_tupL, o_lenT, S_range1, kRng_3, S_tgtL, kTgtL_, List.nil_append, List.cons_append, Nat.reduceLT, SZ, forall_const, true_implies, at_prev hj]
              exact q
          · exact Sat.eq fun Q q => by
              simp only [S_var, S_C, S_op1, k1_, S_op2, k2_, k2b_, S_nil, S_cons, kc_, kcb_, S_opN, kN_, S_tup, S_lst, kT_u, kL_u, stoL_nil, stoL_dat, stoL_own, consO_some, SatO_some, S_call, kCall_u, S_if, S_ifS, kI_true, kI_false, S_andV, S_orV, kAndV_true, kAndV_false, kOrV_true, kOrV_false, S_test, kTest_, S_tru, kTru_, S_and, S_or, S_not, kAnd_true, kAnd_false, kOr_true, kOr_false, kNot_, S_seq, kS_nx, kS_rt, kS_bk, kS_ct, S_pass, S_set, kSet_dat, kSet_own, S_par, kP_, kPb_, S_ret', kR_, S_retN, S_break, S_cont, S_for, kF_, S_forNil, kFb_nx, kFb_ct, kFb_bk, kFb_rt, S_items, kItems_tup, kItems_lst, kItems_own, S_lc, kLc_, S_lcNil, S_yes, kD_rt, kD_nx, Rv.ret, gt, st, kVar_dat, kVar_own, o_add, o_sub, o_eq, o_ne, o_lt, o_le, o_gt, o_ge, o_eqB, o_neB, o_is2, o_isnot2, o_abs, o_ix, o_ixO, o_ixB, o_ixL, o_tupO, o_isBool, map_some', wp, tgN_, List.length_cons, List.length_nil, Nat.reduceAdd, Nat.reduceLeDiff, true_and, decide_true, decide_false, Bool.not_true, Bool.not_false, o_mul_u, o_div_u, o_mod_u, o_pow_u, o_eqS, o_neS, o_intB, o_lenS, o_lenO, o_lenB, o_iaddI, S_s1, kS1_, kS1b_, S_lm, kLm_bor, kLm_own, kLmb_, S_tab, o_ixT, o_ixS, S_put, kPut_, kPutK_, S_zip2, kZip_, kZipb_tup, o_sum, o_sumB, o_tupB, o_tupL, o_lenT, S_range1, kRng_3, S_tgtL, kTgtL_, List.nil_append, List.cons_append, Nat.reduceLT, SZ, forall_const, true_implies, at_vd hj]
              exact q
          · have hx : x.natAbs < 2 ^ n ∧ y.natAbs < 2 ^ n := by
              rcases h3 with ⟨rfl, rfl⟩ | ⟨rfl, rfl⟩ | ⟨rfl, rfl⟩
              · exact ⟨hA.2.x, hB.2.x⟩
              · exact ⟨hA.2.y, hB.2.y⟩
              · exact ⟨hA.2.z, hB.2.z⟩
            have ab : ∀ z : Int, (if z < 0 then -z else z) = iabs z := fun z => rfl
            have ia : ∀ z : Int, (iabs z).natAbs = z.natAbs := fun z => by rw [iabs_nat]; omega
            exact Sat.eq fun Q q => by
              simp only [S_var, S_C, S_op1, k1_, S_op2, k2_, k2b_, S_nil, S_cons, kc_, kcb_, S_opN, kN_, S_tup, S_lst, kT_u, kL_u, stoL_nil, stoL_dat, stoL_own, consO_some, SatO_some, S_call, kCall_u, S_if, S_ifS, kI_true, kI_false, S_andV, S_orV, kAndV_true, kAndV_false, kOrV_true, kOrV_false, S_test, kTest_, S_tru, kTru_, S_and, S_or, S_not, kAnd_true, kAnd_false, kOr_true, kOr_false, kNot_, S_seq, kS_nx, kS_rt, kS_bk, kS_ct, S_pass, S_set, kSet_dat, kSet_own, S_par, kP_, kPb_, S_ret', kR_, S_retN, S_break, S_cont, S_for, kF_, S_forNil, kFb_nx, kFb_ct, kFb_bk, kFb_rt, S_items, kItems_tup, kItems_lst, kItems_own, S_lc, kLc_, S_lcNil, S_yes, kD_rt, kD_nx, Rv.ret, gt, st, kVar_dat, kVar_own, o_add, o_sub, o_eq, o_ne, o_lt, o_le, o_gt, o_ge, o_eqB, o_neB, o_is2, o_isnot2, o_abs, o_ix, o_ixO, o_ixB, o_ixL, o_tupO, o_isBool, map_some', wp, tgN_, List.length_cons, List.length_nil, Nat.reduceAdd, Nat.reduceLeDiff, true_and, decide_true, decide_false, Bool.not_true, Bool.not_false, o_mul_u, o_div_u, o_mod_u, o_pow_u, o_eqS, o_neS, o_intB, o_lenS, o_lenO, o_lenB, o_iaddI, S_s1, kS1_, kS1b_, S_lm, kLm_bor, kLm_own, kLmb_, S_tab, o_ixT, o_ixS, S_put, kPut_, kPutK_, S_zip2, kZip_, kZipb_tup, o_sum, o_sumB, o_tupB, o_tupL, o_lenT, S_range1, kRng_3, S_tgtL, kTgtL_, List.nil_append, List.cons_append, Nat.reduceLT, SZ, forall_const, true_implies, ab]
              exact ⟨mulOkP (by rw [ia]; exact dB) hx.1 (by omega), mulOkP (by rw [ia]; exact dA) hx.2 (by omega), q⟩
          · simp only [S_var, S_C, S_op1, k1_, S_op2, k2_, k2b_, S_nil, S_cons, kc_, kcb_, S_opN, kN_, S_tup, S_lst, kT_u, kL_u, stoL_nil, stoL_dat, stoL_own, consO_some, SatO_some, S_call, kCall_u, S_if, S_ifS, kI_true, kI_false, S_andV, S_orV, kAndV_true, kAndV_false, kOrV_true, kOrV_false, S_test, kTest_, S_tru, kTru_, S_and, S_or, S_not, kAnd_true, kAnd_false, kOr_true, kOr_false, kNot_, S_seq, kS_nx, kS_rt, kS_bk, kS_ct, S_pass, S_set, kSet_dat, kSet_own, S_par, kP_, kPb_, S_ret', kR_, S_retN, S_break, S_cont, S_for, kF_, S_forNil, kFb_nx, kFb_ct, kFb_bk, kFb_rt, S_items, kItems_tup, kItems_lst, kItems_own, S_lc, kLc_, S_lcNil, S_yes, kD_rt, kD_nx, Rv.ret, gt, st, kVar_dat, kVar_own, o_add, o_sub, o_eq, o_ne, o_lt, o_le, o_gt, o_ge, o_eqB, o_neB, o_is2, o_isnot2, o_abs, o_ix, o_ixO, o_ixB, o_ixL, o_tupO, o_isBool, map_some', wp, tgN_, List.length_cons, List.length_nil, Nat.reduceAdd, Nat.reduceLeDiff, true_and, decide_true, decide_false, Bool.not_true, Bool.not_false, o_mul_u, o_div_u, o_mod_u, o_pow_u, o_eqS, o_neS, o_intB, o_lenS, o_lenO, o_lenB, o_iaddI, S_s1, kS1_, kS1b_, S_lm, kLm_bor, kLm_own, kLmb_, S_tab, o_ixT, o_ixS, S_put, kPut_, kPutK_, S_zip2, kZip_, kZipb_tup, o_sum, o_sumB, o_tupB, o_tupL, o_lenT, S_range1, kRng_3, S_tgtL, kTgtL_, List.nil_append, List.cons_append, Nat.reduceLT, SZ, forall_const, true_implies]
            have hm := mid_sum (w := w) hA.1 hB.1 c1
            have hl := low_eqL (s := g) (n := m + n + n + 3) hm (mid_ltS hw hA.2 hB.2) hn
            simp only [addV, mulV] at hl
            rw [hl, Sat_ok]
            simp only [kA_dat, kS_nx, st]
            refine ⟨hal _ (by omega), ?_⟩
            have h2 := half (pre.flatMap (piece w vs) ++ [mid w (prevV vs j) (vs.getD j (0, 0, 0))]) (by rw [List.length_append, List.length_singleton]; omega) (by
              rw [ep]
              unfold piece
              rw [if_pos c1, List.append_assoc])
            rw [List.map_append] at h2
            refine h2.mono fun f g' hf => ?_
            cases f with
            | nx e => exact hf
            | rt r => exact hf.elim
            | bk e => exact hf.elim
            | ct e => exact hf.elim
        · rw [decide_eq_false c1, kI_false, S_pass, kS_nx]
          refine (half _ (by omega) ?_).mono fun f g' hf => ?_
          · rw [ep]
            congr 1
            unfold piece
            rw [if_neg c1, List.nil_append]
          · cases f with
            | nx e => exact hf
            | rt r => exact hf.elim
            | bk e => exact hf.elim
            | ct e => exact hf.elim
      · rintro e g ⟨x4, x5, x6, rfl, rfl⟩
        rw [show (List.range vs.length).flatMap (piece w vs) = kept w vs from rfl]
        have hkl := kept_len w vs
        have hne := kept_ne hc
        obtain ⟨a, b, hab⟩ : ∃ a b, kept w vs = a :: b := by
          cases hq : kept w vs with
          | nil => rw [hq] at hne; exact absurd hne (by simp)
          | cons a b => exact ⟨a, b, rfl⟩
        rw [hab] at q hkl ⊢
        rw [kS_nx, S_seq, S_set]
        refine Sat_is (idxMin_eq (v := a) (vs := b) rfl) ?_
        simp only [kSet_dat, kS_nx, st, S_ret']
        refine Sat_is (rot_eq (L := (a :: b).map vd) rfl rfl (by rw [List.length_map]; omega)) ?_
        rw [kR_, kD_rt]
        unfold rotV shp at q
        rw [List.map_append, List.map_drop, List.map_take] at q
        exact q
/-! ### a ring -/
theorem ring_eq {a b : Nat} (h : Bud a (b + 41) s) (q : ∀ (vs : List V3) (s' : LS), Shp 20 39 vs → Bud a b s' → Q (.dat (shp vs)) s') : Sat (F__law_ring [.ref a] s) Q := by
  unfold F__law_ring
  rw [S_def (k := 1) (ds := [.ref a]) rfl]
  show Sat (m__law_ring [.dat (.ref a), .un, .un, .un] s) _
  unfold m__law_ring
  rw [e_draw]
  simp only [S_var, S_C, S_op1, k1_, S_op2, k2_, k2b_, S_nil, S_cons, kc_, kcb_, S_opN, kN_, S_tup, S_lst, kT_u, kL_u, stoL_nil, stoL_dat, stoL_own, consO_some, SatO_some, S_call, kCall_u, S_if, S_ifS, kI_true, kI_false, S_andV, S_orV, kAndV_true, kAndV_false, kOrV_true, kOrV_false, S_test, kTest_, S_tru, kTru_, S_and, S_or, S_not, kAnd_true, kAnd_false, kOr_true, kOr_false, kNot_, S_seq, kS_nx, kS_rt, kS_bk, kS_ct, S_pass, S_set, kSet_dat, kSet_own, S_par, kP_, kPb_, S_ret', kR_, S_retN, S_break, S_cont, S_for, kF_, S_forNil, kFb_nx, kFb_ct, kFb_bk, kFb_rt, S_items, kItems_tup, kItems_lst, kItems_own, S_lc, kLc_, S_lcNil, S_yes, kD_rt, kD_nx, Rv.ret, gt, st, kVar_dat, kVar_own, o_add, o_sub, o_eq, o_ne, o_lt, o_le, o_gt, o_ge, o_eqB, o_neB, o_is2, o_isnot2, o_abs, o_ix, o_ixO, o_ixB, o_ixL, o_tupO, o_isBool, map_some', wp, tgN_, List.length_cons, List.length_nil, Nat.reduceAdd, Nat.reduceLeDiff, true_and, decide_true, decide_false, Bool.not_true, Bool.not_false, o_mul_u, o_div_u, o_mod_u, o_pow_u, o_eqS, o_neS, o_intB, o_lenS, o_lenO, o_lenB, o_iaddI, S_s1, kS1_, kS1b_, S_lm, kLm_bor, kLm_own, kLmb_, S_tab, o_ixT, o_ixS, S_put, kPut_, kPutK_, S_zip2, kZip_, kZipb_tup, o_sum, o_sumB, o_tupB, o_tupL, o_lenT, S_range1, kRng_3, S_tgtL, kTgtL_, List.nil_append, List.cons_append, Nat.reduceLT, SZ, forall_const, true_implies]
  refine S_draw (b := b + 40) h (by decide) (by decide) fun at0 s1 a0 a1 h1 => ?_
  simp only [S_var, S_C, S_op1, k1_, S_op2, k2_, k2b_, S_nil, S_cons, kc_, kcb_, S_opN, kN_, S_tup, S_lst, kT_u, kL_u, stoL_nil, stoL_dat, stoL_own, consO_some, SatO_some, S_call, kCall_u, S_if, S_ifS, kI_true, kI_false, S_andV, S_orV, kAndV_true, kAndV_false, kOrV_true, kOrV_false, S_test, kTest_, S_tru, kTru_, S_and, S_or, S_not, kAnd_true, kAnd_false, kOr_true, kOr_false, kNot_, S_seq, kS_nx, kS_rt, kS_bk, kS_ct, S_pass, S_set, kSet_dat, kSet_own, S_par, kP_, kPb_, S_ret', kR_, S_retN, S_break, S_cont, S_for, kF_, S_forNil, kFb_nx, kFb_ct, kFb_bk, kFb_rt, S_items, kItems_tup, kItems_lst, kItems_own, S_lc, kLc_, S_lcNil, S_yes, kD_rt, kD_nx, Rv.ret, gt, st, kVar_dat, kVar_own, o_add, o_sub, o_eq, o_ne, o_lt, o_le, o_gt, o_ge, o_eqB, o_neB, o_is2, o_isnot2, o_abs, o_ix, o_ixO, o_ixB, o_ixL, o_tupO, o_isBool, map_some', wp, tgN_, List.length_cons, List.length_nil, Nat.reduceAdd, Nat.reduceLeDiff, true_and, decide_true, decide_false, Bool.not_true, Bool.not_false, o_mul_u, o_div_u, o_mod_u, o_pow_u, o_eqS, o_neS, o_intB, o_lenS, o_lenO, o_lenB, o_iaddI, S_s1, kS1_, kS1b_, S_lm, kLm_bor, kLm_own, kLmb_, S_tab, o_ixT, o_ixS, S_put, kPut_, kPutK_, S_zip2, kZip_, kZipb_tup, o_sum, o_sumB, o_tupB, o_tupL, o_lenT, S_range1, kRng_3, S_tgtL, kTgtL_, List.nil_append, List.cons_append, Nat.reduceLT, SZ, forall_const, true_implies]
  refine S_draw (b := b + 39) h1 (by decide) (by decide) fun n s2 n0 n1 h2 => ?_
  simp only [S_var, S_C, S_op1, k1_, S_op2, k2_, k2b_, S_nil, S_cons, kc_, kcb_, S_opN, kN_, S_tup, S_lst, kT_u, kL_u, stoL_nil, stoL_dat, stoL_own, consO_some, SatO_some, S_call, kCall_u, S_if, S_ifS, kI_true, kI_false, S_andV, S_orV, kAndV_true, kAndV_false, kOrV_true, kOrV_false, S_test, kTest_, S_tru, kTru_, S_and, S_or, S_not, kAnd_true, kAnd_false, kOr_true, kOr_false, kNot_, S_seq, kS_nx, kS_rt, kS_bk, kS_ct, S_pass, S_set, kSet_dat, kSet_own, S_par, kP_, kPb_, S_ret', kR_, S_retN, S_break, S_cont, S_for, kF_, S_forNil, kFb_nx, kFb_ct, kFb_bk, kFb_rt, S_items, kItems_tup, kItems_lst, kItems_own, S_lc, kLc_, S_lcNil, S_yes, kD_rt, kD_nx, Rv.ret, gt, st, kVar_dat, kVar_own, o_add, o_sub, o_eq, o_ne, o_lt, o_le, o_gt, o_ge, o_eqB, o_neB, o_is2, o_isnot2, o_abs, o_ix, o_ixO, o_ixB, o_ixL, o_tupO, o_isBool, map_some', wp, tgN_, List.length_cons, List.length_nil, Nat.reduceAdd, Nat.reduceLeDiff, true_and, decide_true, decide_false, Bool.not_true, Bool.not_false, o_mul_u, o_div_u, o_mod_u, o_pow_u, o_eqS, o_neS, o_intB, o_lenS, o_lenO, o_lenB, o_iaddI, S_s1, kS1_, kS1b_, S_lm, kLm_bor, kLm_own, kLmb_, S_tab, o_ixT, o_ixS, S_put, kPut_, kPutK_, S_zip2, kZip_, kZipb_tup, o_sum, o_sumB, o_tupB, o_tupL, o_lenT, S_range1, kRng_3, S_tgtL, kTgtL_, List.nil_append, List.cons_append, Nat.reduceLT, SZ, forall_const, true_implies, kRng_]
  obtain ⟨m, hm⟩ : ∃ m : Nat, 3 + n = (m : Nat) := ⟨(3 + n).toNat, by omega⟩
  rw [hm]
  have hm1 : 3 ≤ m ∧ m ≤ 39 := by omega
  refine ⟨rng_ok (by omega), ?_⟩
  rw [Int.toNat_natCast, rng_map]
  refine S_forA (List.range m) (fun k => D.int (0 + (k : Nat))) (fun pre post e g => ∃ (vs : List V3) (at1 : Int) (x3 : Sl), e = [.dat (.ref a), .own (vs.map vd), .dat (.int at1), x3] ∧ vs.length = pre.length ∧ 0 ≤ at1 ∧ at1 ≤ 3 + 3 * pre.length ∧ (∀ v ∈ vs, Prc v ∧ Lt3 20 v) ∧ Bud a (b + post.length) g) ⟨[], at0, _, rfl, rfl, a0, by omega, fun v h => (by cases h), h2.le (by rw [List.length_range]; omega)⟩ ?_ ?_
  · rintro pre k post e g hr ⟨vs, at1, x3, rfl, hl, p0, p1, hv, hB⟩
    refine ⟨_, rfl, ?_⟩
    have hpl : pre.length + 1 ≤ m := by
      have := congrArg List.length hr
      rw [List.length_range, List.length_append, List.length_cons] at this
      omega
    have at2 : at1.natAbs < 2 ^ 8 := by
      have : (2 : Nat) ^ 8 = 256 := by decide
      omega
    have ha : Lt3 20 ((1, at1, at1 * at1) : V3) := ⟨by show (1 : Int).natAbs < 2 ^ 20; decide, ltUp at2 (by decide), ltUp (mulLt at2 at2) (by decide)⟩
    simp only [st]
    rw [S_seq, S_app rfl]
    simp only [S_var, S_C, S_op1, k1_, S_op2, k2_, k2b_, S_nil, S_cons, kc_, kcb_, S_opN, kN_, S_tup, S_lst, kT_u, kL_u, stoL_nil, stoL_dat, stoL_own, consO_some, SatO_some, S_call, kCall_u, S_if, S_ifS, kI_true, kI_false, S_andV, S_orV, kAndV_true, kAndV_false, kOrV_true, kOrV_false, S_test, kTest_, S_tru, kTru_, S_and, S_or, S_not, kAnd_true, kAnd_false, kOr_true, kOr_false, kNot_, S_seq, kS_nx, kS_rt, kS_bk, kS_ct, S_pass, S_set, kSet_dat, kSet_own, S_par, kP_, kPb_, S_ret', kR_, S_retN, S_break, S_cont, S_for, kF_, S_forNil, kFb_nx, kFb_ct, kFb_bk, kFb_rt, S_items, kItems_tup, kItems_lst, kItems_own, S_lc, kLc_, S_lcNil, S_yes, kD_rt, kD_nx, Rv.ret, gt, st, kVar_dat, kVar_own, o_add, o_sub, o_eq, o_ne, o_lt, o_le, o_gt, o_ge, o_eqB, o_neB, o_is2, o_isnot2, o_abs, o_ix, o_ixO, o_ixB, o_ixL, o_tupO, o_isBool, map_some', wp, tgN_, List.length_cons, List.length_nil, Nat.reduceAdd, Nat.reduceLeDiff, true_and, decide_true, decide_false, Bool.not_true, Bool.not_false, o_mul_u, o_div_u, o_mod_u, o_pow_u, o_eqS, o_neS, o_intB, o_lenS, o_lenO, o_lenB, o_iaddI, S_s1, kS1_, kS1b_, S_lm, kLm_bor, kLm_own, kLmb_, S_tab, o_ixT, o_ixS, S_put, kPut_, kPutK_, S_zip2, kZip_, kZipb_tup, o_sum, o_sumB, o_tupB, o_tupL, o_lenT, S_range1, kRng_3, S_tgtL, kTgtL_, List.nil_append, List.cons_append, Nat.reduceLT, SZ, forall_const, true_implies, kA_dat]
    refine ⟨mulOkP at2 at2 (by decide), by rw [List.length_map]; omega, ?_⟩
    rw [S_aug (d := .int at1) rfl]
    simp only [S_var, S_C, S_op1, k1_, S_op2, k2_, k2b_, S_nil, S_cons, kc_, kcb_, S_opN, kN_, S_tup, S_lst, kT_u, kL_u, stoL_nil, stoL_dat, stoL_own, consO_some, SatO_some, S_call, kCall_u, S_if, S_ifS, kI_true, kI_false, S_andV, S_orV, kAndV_true, kAndV_false, kOrV_true, kOrV_false, S_test, kTest_, S_tru, kTru_, S_and, S_or, S_not, kAnd_true, kAnd_false, kOr_true, kOr_false, kNot_, S_seq, kS_nx, kS_rt, kS_bk, kS_ct, S_pass, S_set, kSet_dat, kSet_own, S_par, kP_, kPb_, S_ret', kR_, S_retN, S_break, S_cont, S_for, kF_, S_forNil, kFb_nx, kFb_ct, kFb_bk, kFb_rt, S_items, kItems_tup, kItems_lst, kItems_own, S_lc, kLc_, S_lcNil, S_yes, kD_rt, kD_nx, Rv.ret, gt, st, kVar_dat, kVar_own, o_add, o_sub, o_eq, o_ne, o_lt, o_le, o_gt, o_ge, o_eqB, o_neB, o_is2, o_isnot2, o_abs, o_ix, o_ixO, o_ixB, o_ixL, o_tupO, o_isBool, map_some', wp, tgN_, List.length_cons, List.length_nil, Nat.reduceAdd, Nat.reduceLeDiff, true_and, decide_true, decide_false, Bool.not_true, Bool.not_false, o_mul_u, o_div_u, o_mod_u, o_pow_u, o_eqS, o_neS, o_intB, o_lenS, o_lenO, o_lenB, o_iaddI, S_s1, kS1_, kS1b_, S_lm, kLm_bor, kLm_own, kLmb_, S_tab, o_ixT, o_ixS, S_put, kPut_, kPutK_, S_zip2, kZip_, kZipb_tup, o_sum, o_sumB, o_tupB, o_tupL, o_lenT, S_range1, kRng_3, S_tgtL, kTgtL_, List.nil_append, List.cons_append, Nat.reduceLT, SZ, forall_const, true_implies, kAug_]
    refine S_draw (b := b + post.length) (hB.le (by rw [List.length_cons]; omega)) (by decide) (by decide) fun d s3 d0 d1 h3 => ?_
    simp only [S_var, S_C, S_op1, k1_, S_op2, k2_, k2b_, S_nil, S_cons, kc_, kcb_, S_opN, kN_, S_tup, S_lst, kT_u, kL_u, stoL_nil, stoL_dat, stoL_own, consO_some, SatO_some, S_call, kCall_u, S_if, S_ifS, kI_true, kI_false, S_andV, S_orV, kAndV_true, kAndV_false, kOrV_true, kOrV_false, S_test, kTest_, S_tru, kTru_, S_and, S_or, S_not, kAnd_true, kAnd_false, kOr_true, kOr_false, kNot_, S_seq, kS_nx, kS_rt, kS_bk, kS_ct, S_pass, S_set, kSet_dat, kSet_own, S_par, kP_, kPb_, S_ret', kR_, S_retN, S_break, S_cont, S_for, kF_, S_forNil, kFb_nx, kFb_ct, kFb_bk, kFb_rt, S_items, kItems_tup, kItems_lst, kItems_own, S_lc, kLc_, S_lcNil, S_yes, kD_rt, kD_nx, Rv.ret, gt, st, kVar_dat, kVar_own, o_add, o_sub, o_eq, o_ne, o_lt, o_le, o_gt, o_ge, o_eqB, o_neB, o_is2, o_isnot2, o_abs, o_ix, o_ixO, o_ixB, o_ixL, o_tupO, o_isBool, map_some', wp, tgN_, List.length_cons, List.length_nil, Nat.reduceAdd, Nat.reduceLeDiff, true_and, decide_true, decide_false, Bool.not_true, Bool.not_false, o_mul_u, o_div_u, o_mod_u, o_pow_u, o_eqS, o_neS, o_intB, o_lenS, o_lenO, o_lenB, o_iaddI, S_s1, kS1_, kS1b_, S_lm, kLm_bor, kLm_own, kLmb_, S_tab, o_ixT, o_ixS, S_put, kPut_, kPutK_, S_zip2, kZip_, kZipb_tup, o_sum, o_sumB, o_tupB, o_tupL, o_lenT, S_range1, kRng_3, S_tgtL, kTgtL_, List.nil_append, List.cons_append, Nat.reduceLT, SZ, forall_const, true_implies, kAug_, o_iaddI]
    refine ⟨vs ++ [((1, at1, at1 * at1) : V3)], at1 + (1 + d), _, by rw [List.map_append]; rfl, by rw [List.length_append, List.length_append, hl]; rfl, by omega, by rw [List.length_append, List.length_singleton]; omega, fun v hv' => ?_, h3⟩
    rcases List.mem_append.mp hv' with hv' | hv'
    · exact hv v hv'
    · rw [List.mem_singleton.mp hv']
      exact ⟨⟨by show (0 : Int) ≤ 1; decide, p0, Int.mul_nonneg p0 p0, .inl (by show (1 : Int) ≠ 0; decide)⟩, ha⟩
  · rintro e g ⟨vs, at1, x3, rfl, hl, p0, p1, hv, hB⟩
    rw [List.length_range] at hl
    simp only [S_var, S_C, S_op1, k1_, S_op2, k2_, k2b_, S_nil, S_cons, kc_, kcb_, S_opN, kN_, S_tup, S_lst, kT_u, kL_u, stoL_nil, stoL_dat, stoL_own, consO_some, SatO_some, S_call, kCall_u, S_if, S_ifS, kI_true, kI_false, S_andV, S_orV, kAndV_true, kAndV_false, kOrV_true, kOrV_false, S_test, kTest_, S_tru, kTru_, S_and, S_or, S_not, kAnd_true, kAnd_false, kOr_true, kOr_false, kNot_, S_seq, kS_nx, kS_rt, kS_bk, kS_ct, S_pass, S_set, kSet_dat, kSet_own, S_par, kP_, kPb_, S_ret', kR_, S_retN, S_break, S_cont, S_for, kF_, S_forNil, kFb_nx, kFb_ct, kFb_bk, kFb_rt, S_items, kItems_tup, kItems_lst, kItems_own, S_lc, kLc_, S_lcNil, S_yes, kD_rt, kD_nx, Rv.ret, gt, st, kVar_dat, kVar_own, o_add, o_sub, o_eq, o_ne, o_lt, o_le, o_gt, o_ge, o_eqB, o_neB, o_is2, o_isnot2, o_abs, o_ix, o_ixO, o_ixB, o_ixL, o_tupO, o_isBool, map_some', wp, tgN_, List.length_cons, List.length_nil, Nat.reduceAdd, Nat.reduceLeDiff, true_and, decide_true, decide_false, Bool.not_true, Bool.not_false, o_mul_u, o_div_u, o_mod_u, o_pow_u, o_eqS, o_neS, o_intB, o_lenS, o_lenO, o_lenB, o_iaddI, S_s1, kS1_, kS1b_, S_lm, kLm_bor, kLm_own, kLmb_, S_tab, o_ixT, o_ixS, S_put, kPut_, kPutK_, S_zip2, kZip_, kZipb_tup, o_sum, o_sumB, o_tupB, o_tupL, o_lenT, S_range1, kRng_3, S_tgtL, kTgtL_, List.nil_append, List.cons_append, Nat.reduceLT, SZ, forall_const, true_implies]
    exact q vs g ⟨by omega, by omega, hv⟩ (hB.le (by simp))
/-! ### a shape -/
theorem three {P : D → Prop} {ys : List D} (hl : ys.length = 3) (h : ∀ y ∈ ys, P y) : ∃ a b c, ys = [a, b, c] ∧ P a ∧ P b ∧ P c := by
  match ys, hl with
  | [a, b, c], _ => exact ⟨a, b, c, rfl, h a (by simp), h b (by simp), h c (by simp)⟩
/-- (draw - size // 2) three times -/
theorem S_side {a b m : Nat} {sz : Int} {e : Env} (h0 : gt e 0 = .dat (.ref a)) (h3 : gt e 3 = .dat (.int sz)) (hl : 6 < e.length) (s0 : 0 < sz) (s1 : sz ≤ 10 ^ 90) (hm : ∀ d, 0 ≤ d → d < sz → (d - sz / 2).natAbs < 2 ^ m) (h : Bud a (b + 3) s)
    (q : ∀ (w : V3) (s' : LS), Lt3 m w → Bud a b s' → Q (.dat (vd w)) s') :
    Sat (mOpN oTuple (mCons (mLc (mRange1 (mC (.int 3))) (tgN 6) mYes (mOp2 oSub (mCall drawF (mCons (mVar 0) (mCons (mVar 3) mNil))) (mOp2 oDiv (mVar 3) (mC (.int 2)))) [6]) mNil) e s) Q := by
  have e0 : ∀ d : D, gt (st (wp e [6]) 6 (.dat d)) 0 = .dat (.ref a) := fun d => by
    simp only [wp]
    rw [gt_stE, if_neg (by simp), gt_stE, if_neg (by simp), h0]
  have e3 : ∀ d : D, gt (st (wp e [6]) 6 (.dat d)) 3 = .dat (.int sz) := fun d => by
    simp only [wp]
    rw [gt_stE, if_neg (by simp), gt_stE, if_neg (by simp), h3]
  simp only [S_opN, S_cons, S_lc, S_range1, S_C, kRng_3, kLc_]
  refine S_lcD (by decide) (fun y => ∃ d : Int, y = .int d ∧ d.natAbs < 2 ^ m) (fun k g => Bud a (b + k) g) h (fun d hd k g hB => ⟨_, rfl, ?_⟩) (fun ys g hy hp hB => ?_)
  · rw [S_yes]
    refine ⟨rfl, ?_⟩
    simp only [S_op2, S_call, S_cons, S_nil, S_var, e0, e3, kVar_dat, kc_, kcb_, kCall_u, stoL_dat, stoL_nil, consO_some, SatO_some]
    refine S_draw (b := b + k) hB s0 s1 fun d s1 d0 d1 h1 => ?_
    simp only [k2_, S_op2, S_var, e3, kVar_dat, S_C, k2b_, o_div_u, o_sub, SatO_some]
    exact ⟨divOk (b := 2) (by decide) (by decide) (by decide) (by decide), _, rfl, ⟨_, rfl, hm d d0 d1⟩, h1⟩
  · obtain ⟨x, y, z, rfl, ⟨x', rfl, hx⟩, ⟨y', rfl, hy'⟩, ⟨z', rfl, hz⟩⟩ := three hy hp
    simp only [S_var, S_C, S_op1, k1_, S_op2, k2_, k2b_, S_nil, S_cons, kc_, kcb_, S_opN, kN_, S_tup, S_lst, kT_u, kL_u, stoL_nil, stoL_dat, stoL_own, consO_some, SatO_some, S_call, kCall_u, S_if, S_ifS, kI_true, kI_false, S_andV, S_orV, kAndV_true, kAndV_false, kOrV_true, kOrV_false, S_test, kTest_, S_tru, kTru_, S_and, S_or, S_not, kAnd_true, kAnd_false, kOr_true, kOr_false, kNot_, S_seq, kS_nx, kS_rt, kS_bk, kS_ct, S_pass, S_set, kSet_dat, kSet_own, S_par, kP_, kPb_, S_ret', kR_, S_retN, S_break, S_cont, S_for, kF_, S_forNil, kFb_nx, kFb_ct, kFb_bk, kFb_rt, S_items, kItems_tup, kItems_lst, kItems_own, S_lc, kLc_, S_lcNil, S_yes, kD_rt, kD_nx, Rv.ret, gt, st, kVar_dat, kVar_own, o_add, o_sub, o_eq, o_ne, o_lt, o_le, o_gt, o_ge, o_eqB, o_neB, o_is2, o_isnot2, o_abs, o_ix, o_ixO, o_ixB, o_ixL, o_tupO, o_isBool, map_some', wp, tgN_, List.length_cons, List.length_nil, Nat.reduceAdd, Nat.reduceLeDiff, true_and, decide_true, decide_false, Bool.not_true, Bool.not_false, o_mul_u, o_div_u, o_mod_u, o_pow_u, o_eqS, o_neS, o_intB, o_lenS, o_lenO, o_lenB, o_iaddI, S_s1, kS1_, kS1b_, S_lm, kLm_bor, kLm_own, kLmb_, S_tab, o_ixT, o_ixS, S_put, kPut_, kPutK_, S_zip2, kZip_, kZipb_tup, o_sum, o_sumB, o_tupB, o_tupL, o_lenT, S_range1, kRng_3, S_tgtL, kTgtL_, List.nil_append, List.cons_append, Nat.reduceLT, SZ, forall_const, true_implies]
    exact q (x', y', z') g ⟨hx, hy', hz⟩ hB
theorem shp_up {n n' k k' : Nat} {vs : List V3} (h : Shp n k vs) (hn : n ≤ n') (hk : k ≤ k') : Shp n' k' vs := ⟨h.ne, Nat.le_trans h.le hk, fun v hv => ⟨(h.pr v hv).1, (h.pr v hv).2.up hn⟩⟩
theorem S_cuts {a b m C M : Nat} {sz : Int} {x1 : Sl} {many : Int} {QS : Fl → LS → Prop} (s0 : 0 < sz) (s1 : sz ≤ 10 ^ 90) (hm : ∀ d, 0 ≤ d → d < sz → (d - sz / 2).natAbs < 2 ^ m) (hM : M ≤ C) (hC : C ≤ 6) (hc1 : (m + 4) * 2 ^ C ≤ 600) (h : Bud a (b + 3 * M) s)
    (q : ∀ (vs : List V3) (s' : LS) (x5 x6 : Sl), Shp 600 200 vs → Bud a b s' → QS (.nx [.dat (.ref a), x1, .dat (.int many), .dat (.int sz), .dat (shp vs), x5, x6]) s') :
    Sat (forL (tgN 5) (mSet 4 (mCall F__law_cut (mCons (mVar 4) (mCons (mOpN oTuple (mCons (mLc (mRange1 (mC (.int 3))) (tgN 6) mYes (mOp2 oSub (mCall drawF (mCons (mVar 0) (mCons (mVar 3) mNil))) (mOp2 oDiv (mVar 3) (mC (.int 2)))) [6]) mNil)) mNil)))) ((List.range M).map fun k => D.int (0 + (k : Nat)))
      [.dat (.ref a), x1, .dat (.int many), .dat (.int sz), .dat (shp [(0, 0, 1), (1, 0, 0), (0, 1, 0)]), .un, .un] s) QS := by
  have p2 : ∀ i, i ≤ C → (m + 4) * 2 ^ i ≤ 600 := fun i hi => Nat.le_trans (Nat.mul_le_mul_left _ (Nat.pow_le_pow_right (by decide) hi)) hc1
  have p3 : ∀ i, i ≤ C → 3 * 2 ^ i ≤ 192 := fun i hi => Nat.mul_le_mul_left 3 (Nat.pow_le_pow_right (n := 2) (i := i) (j := 6) (by decide) (by omega))
  refine S_forA (List.range M) (fun k => D.int (0 + (k : Nat))) (fun pre post e g => ∃ (vs : List V3) (x5 x6 : Sl), e = [.dat (.ref a), x1, .dat (.int many), .dat (.int sz), .dat (shp vs), x5, x6] ∧ Shp ((m + 4) * 2 ^ pre.length - (m + 3)) (3 * 2 ^ pre.length) vs ∧ Bud a (b + 3 * post.length) g) ⟨_, _, _, rfl, ?_, by rw [List.length_range]; exact h⟩ ?_ ?_
  · refine ⟨by decide, by decide, fun v hv => ?_⟩
    have e1 : (m + 4) * 2 ^ ([] : List Nat).length - (m + 3) = 1 := by show (m + 4) * 1 - (m + 3) = 1; omega
    rw [e1]
    simp only [List.mem_cons, List.not_mem_nil, or_false] at hv
    rcases hv with rfl | rfl | rfl
    · exact ⟨⟨by decide, by decide, by decide, by decide⟩, ⟨by decide, by decide, by decide⟩⟩
    · exact ⟨⟨by decide, by decide, by decide, by decide⟩, ⟨by decide, by decide, by decide⟩⟩
    · exact ⟨⟨by decide, by decide, by decide, by decide⟩, ⟨by decide, by decide, by decide⟩⟩
  · rintro pre k post e g hr ⟨vs, x5, x6, rfl, hs, hB⟩
    refine ⟨_, rfl, ?_⟩
    have hpl : pre.length + 1 ≤ M := by
      have := congrArg List.length hr
      rw [List.length_range, List.length_append, List.length_cons] at this
      omega
    have p2' := p2 (pre.length + 1) (by omega)
    have p3' := p3 (pre.length + 1) (by omega)
    have e2 : (m + 4) * 2 ^ (pre.length + 1) = 2 * ((m + 4) * 2 ^ pre.length) := by rw [Nat.pow_succ]; rw [← Nat.mul_assoc, Nat.mul_comm]
    have e3 : 3 * 2 ^ (pre.length + 1) = 2 * (3 * 2 ^ pre.length) := by rw [Nat.pow_succ]; omega
    have one : 1 ≤ 2 ^ pre.length := Nat.one_le_two_pow
    have ge : m + 4 ≤ (m + 4) * 2 ^ pre.length := Nat.le_mul_of_pos_right _ one
    simp only [st, S_set, S_call, S_cons, S_var, gt, kVar_dat, kc_]
    refine S_side (b := b + 3 * post.length) rfl rfl (Nat.lt_of_sub_pos (by simp)) s0 s1 hm (hB.le (by rw [List.length_cons]; omega)) fun w s' hw h' => ?_
    simp only [S_var, S_C, S_op1, k1_, S_op2, k2_, k2b_, S_nil, S_cons, kc_, kcb_, S_opN, kN_, S_tup, S_lst, kT_u, kL_u, stoL_nil, stoL_dat, stoL_own, consO_some, SatO_some, S_call, kCall_u, S_if, S_ifS, kI_true, kI_false, S_andV, S_orV, kAndV_true, kAndV_false, kOrV_true, kOrV_false, S_test, kTest_, S_tru, kTru_, S_and, S_or, S_not, kAnd_true, kAnd_false, kOr_true, kOr_false, kNot_, S_seq, kS_nx, kS_rt, kS_bk, kS_ct, S_pass, S_set, kSet_dat, kSet_own, S_par, kP_, kPb_, S_ret', kR_, S_retN, S_break, S_cont, S_for, kF_, S_forNil, kFb_nx, kFb_ct, kFb_bk, kFb_rt, S_items, kItems_tup, kItems_lst, kItems_own, S_lc, kLc_, S_lcNil, S_yes, kD_rt, kD_nx, Rv.ret, gt, st, kVar_dat, kVar_own, o_add, o_sub, o_eq, o_ne, o_lt, o_le, o_gt, o_ge, o_eqB, o_neB, o_is2, o_isnot2, o_abs, o_ix, o_ixO, o_ixB, o_ixL, o_tupO, o_isBool, map_some', wp, tgN_, List.length_cons, List.length_nil, Nat.reduceAdd, Nat.reduceLeDiff, true_and, decide_true, decide_false, Bool.not_true, Bool.not_false, o_mul_u, o_div_u, o_mod_u, o_pow_u, o_eqS, o_neS, o_intB, o_lenS, o_lenO, o_lenB, o_iaddI, S_s1, kS1_, kS1b_, S_lm, kLm_bor, kLm_own, kLmb_, S_tab, o_ixT, o_ixS, S_put, kPut_, kPutK_, S_zip2, kZip_, kZipb_tup, o_sum, o_sumB, o_tupB, o_tupL, o_lenT, S_range1, kRng_3, S_tgtL, kTgtL_, List.nil_append, List.cons_append, Nat.reduceLT, SZ, forall_const, true_implies]
    refine Sat_is (cut_eq (n := (m + 4) * 2 ^ pre.length - (m + 3)) (k := 3 * 2 ^ pre.length) hs hw (by omega) (by omega)) ?_
    rw [kSet_dat]
    refine ⟨_, _, _, rfl, ?_, h'⟩
    rw [List.length_append, List.length_singleton]
    exact shp_up (cutW_ok hs hw) (by omega) (by omega)
  · rintro e g ⟨vs, x5, x6, rfl, hs, hB⟩
    rw [List.length_range] at hs
    have p2' := p2 M hM
    have p3' := p3 M hM
    exact q vs g _ _ (shp_up hs (by omega) (by omega)) hB
theorem S_shape {a b : Nat} (h : Bud a (b + 50) s) (q : ∀ (vs : List V3) (s' : LS), Shp 600 200 vs → Bud a b s' → Q (.dat (shp vs)) s') : Sat (F__law_shape [.ref a] s) Q := by
  unfold F__law_shape
  rw [S_def (k := 1) (ds := [.ref a]) rfl]
  show Sat (m__law_shape [.dat (.ref a), .un, .un, .un, .un, .un, .un] s) _
  unfold m__law_shape
  rw [e_draw]
  simp only [S_var, S_C, S_op1, k1_, S_op2, k2_, k2b_, S_nil, S_cons, kc_, kcb_, S_opN, kN_, S_tup, S_lst, kT_u, kL_u, stoL_nil, stoL_dat, stoL_own, consO_some, SatO_some, S_call, kCall_u, S_if, S_ifS, kI_true, kI_false, S_andV, S_orV, kAndV_true, kAndV_false, kOrV_true, kOrV_false, S_test, kTest_, S_tru, kTru_, S_and, S_or, S_not, kAnd_true, kAnd_false, kOr_true, kOr_false, kNot_, S_seq, kS_nx, kS_rt, kS_bk, kS_ct, S_pass, S_set, kSet_dat, kSet_own, S_par, kP_, kPb_, S_ret', kR_, S_retN, S_break, S_cont, S_for, kF_, S_forNil, kFb_nx, kFb_ct, kFb_bk, kFb_rt, S_items, kItems_tup, kItems_lst, kItems_own, S_lc, kLc_, S_lcNil, S_yes, kD_rt, kD_nx, Rv.ret, gt, st, kVar_dat, kVar_own, o_add, o_sub, o_eq, o_ne, o_lt, o_le, o_gt, o_ge, o_eqB, o_neB, o_is2, o_isnot2, o_abs, o_ix, o_ixO, o_ixB, o_ixL, o_tupO, o_isBool, map_some', wp, tgN_, List.length_cons, List.length_nil, Nat.reduceAdd, Nat.reduceLeDiff, true_and, decide_true, decide_false, Bool.not_true, Bool.not_false, o_mul_u, o_div_u, o_mod_u, o_pow_u, o_eqS, o_neS, o_intB, o_lenS, o_lenO, o_lenB, o_iaddI, S_s1, kS1_, kS1b_, S_lm, kLm_bor, kLm_own, kLmb_, S_tab, o_ixT, o_ixS, S_put, kPut_, kPutK_, S_zip2, kZip_, kZipb_tup, o_sum, o_sumB, o_tupB, o_tupL, o_lenT, S_range1, kRng_3, S_tgtL, kTgtL_, List.nil_append, List.cons_append, Nat.reduceLT, SZ, forall_const, true_implies]
  refine S_draw (b := b + 49) h (by decide) (by decide) fun bent s1 t0 t1 h1 => ?_
  simp only [S_var, S_C, S_op1, k1_, S_op2, k2_, k2b_, S_nil, S_cons, kc_, kcb_, S_opN, kN_, S_tup, S_lst, kT_u, kL_u, stoL_nil, stoL_dat, stoL_own, consO_some, SatO_some, S_call, kCall_u, S_if, S_ifS, kI_true, kI_false, S_andV, S_orV, kAndV_true, kAndV_false, kOrV_true, kOrV_false, S_test, kTest_, S_tru, kTru_, S_and, S_or, S_not, kAnd_true, kAnd_false, kOr_true, kOr_false, kNot_, S_seq, kS_nx, kS_rt, kS_bk, kS_ct, S_pass, S_set, kSet_dat, kSet_own, S_par, kP_, kPb_, S_ret', kR_, S_retN, S_break, S_cont, S_for, kF_, S_forNil, kFb_nx, kFb_ct, kFb_bk, kFb_rt, S_items, kItems_tup, kItems_lst, kItems_own, S_lc, kLc_, S_lcNil, S_yes, kD_rt, kD_nx, Rv.ret, gt, st, kVar_dat, kVar_own, o_add, o_sub, o_eq, o_ne, o_lt, o_le, o_gt, o_ge, o_eqB, o_neB, o_is2, o_isnot2, o_abs, o_ix, o_ixO, o_ixB, o_ixL, o_tupO, o_isBool, map_some', wp, tgN_, List.length_cons, List.length_nil, Nat.reduceAdd, Nat.reduceLeDiff, true_and, decide_true, decide_false, Bool.not_true, Bool.not_false, o_mul_u, o_div_u, o_mod_u, o_pow_u, o_eqS, o_neS, o_intB, o_lenS, o_lenO, o_lenB, o_iaddI, S_s1, kS1_, kS1b_, S_lm, kLm_bor, kLm_own, kLmb_, S_tab, o_ixT, o_ixS, S_put, kPut_, kPutK_, S_zip2, kZip_, kZipb_tup, o_sum, o_sumB, o_tupB, o_tupL, o_lenT, S_range1, kRng_3, S_tgtL, kTgtL_, List.nil_append, List.cons_append, Nat.reduceLT, SZ, forall_const, true_implies]
  refine S_draw (b := b + 48) h1 (by decide) (by decide) fun many s2 m0 m1 h2 => ?_
  simp only [S_var, S_C, S_op1, k1_, S_op2, k2_, k2b_, S_nil, S_cons, kc_, kcb_, S_opN, kN_, S_tup, S_lst, kT_u, kL_u, stoL_nil, stoL_dat, stoL_own, consO_some, SatO_some, S_call, kCall_u, S_if, S_ifS, kI_true, kI_false, S_andV, S_orV, kAndV_true, kAndV_false, kOrV_true, kOrV_false, S_test, kTest_, S_tru, kTru_, S_and, S_or, S_not, kAnd_true, kAnd_false, kOr_true, kOr_false, kNot_, S_seq, kS_nx, kS_rt, kS_bk, kS_ct, S_pass, S_set, kSet_dat, kSet_own, S_par, kP_, kPb_, S_ret', kR_, S_retN, S_break, S_cont, S_for, kF_, S_forNil, kFb_nx, kFb_ct, kFb_bk, kFb_rt, S_items, kItems_tup, kItems_lst, kItems_own, S_lc, kLc_, S_lcNil, S_yes, kD_rt, kD_nx, Rv.ret, gt, st, kVar_dat, kVar_own, o_add, o_sub, o_eq, o_ne, o_lt, o_le, o_gt, o_ge, o_eqB, o_neB, o_is2, o_isnot2, o_abs, o_ix, o_ixO, o_ixB, o_ixL, o_tupO, o_isBool, map_some', wp, tgN_, List.length_cons, List.length_nil, Nat.reduceAdd, Nat.reduceLeDiff, true_and, decide_true, decide_false, Bool.not_true, Bool.not_false, o_mul_u, o_div_u, o_mod_u, o_pow_u, o_eqS, o_neS, o_intB, o_lenS, o_lenO, o_lenB, o_iaddI, S_s1, kS1_, kS1b_, S_lm, kLm_bor, kLm_own, kLmb_, S_tab, o_ixT, o_ixS, S_put, kPut_, kPutK_, S_zip2, kZip_, kZipb_tup, o_sum, o_sumB, o_tupB, o_tupL, o_lenT, S_range1, kRng_3, S_tgtL, kTgtL_, List.nil_append, List.cons_append, Nat.reduceLT, SZ, forall_const, true_implies]
  refine ⟨by decide, ?_⟩
  refine S_draw (b := b + 47) h2 (by decide) (by decide) fun z s3 z0 z1 h3 => ?_
  obtain ⟨sz, hz, ez⟩ := atI_nat (xs := [D.int 25, .int 7, .int 3, .int (10 ^ (12 : Int).toNat)]) z0 z1
  simp only [S_var, S_C, S_op1, k1_, S_op2, k2_, k2b_, S_nil, S_cons, kc_, kcb_, S_opN, kN_, S_tup, S_lst, kT_u, kL_u, stoL_nil, stoL_dat, stoL_own, consO_some, SatO_some, S_call, kCall_u, S_if, S_ifS, kI_true, kI_false, S_andV, S_orV, kAndV_true, kAndV_false, kOrV_true, kOrV_false, S_test, kTest_, S_tru, kTru_, S_and, S_or, S_not, kAnd_true, kAnd_false, kOr_true, kOr_false, kNot_, S_seq, kS_nx, kS_rt, kS_bk, kS_ct, S_pass, S_set, kSet_dat, kSet_own, S_par, kP_, kPb_, S_ret', kR_, S_retN, S_break, S_cont, S_for, kF_, S_forNil, kFb_nx, kFb_ct, kFb_bk, kFb_rt, S_items, kItems_tup, kItems_lst, kItems_own, S_lc, kLc_, S_lcNil, S_yes, kD_rt, kD_nx, Rv.ret, gt, st, kVar_dat, kVar_own, o_add, o_sub, o_eq, o_ne, o_lt, o_le, o_gt, o_ge, o_eqB, o_neB, o_is2, o_isnot2, o_abs, o_ix, o_ixO, o_ixB, o_ixL, o_tupO, o_isBool, map_some', wp, tgN_, List.length_cons, List.length_nil, Nat.reduceAdd, Nat.reduceLeDiff, true_and, decide_true, decide_false, Bool.not_true, Bool.not_false, o_mul_u, o_div_u, o_mod_u, o_pow_u, o_eqS, o_neS, o_intB, o_lenS, o_lenO, o_lenB, o_iaddI, S_s1, kS1_, kS1b_, S_lm, kLm_bor, kLm_own, kLmb_, S_tab, o_ixT, o_ixS, S_put, kPut_, kPutK_, S_zip2, kZip_, kZipb_tup, o_sum, o_sumB, o_tupB, o_tupL, o_lenT, S_range1, kRng_3, S_tgtL, kTgtL_, List.nil_append, List.cons_append, Nat.reduceLT, SZ, forall_const, true_implies, ez]
  by_cases c5 : bent = 5
  · rw [decide_eq_true c5]
    simp only [S_var, S_C, S_op1, k1_, S_op2, k2_, k2b_, S_nil, S_cons, kc_, kcb_, S_opN, kN_, S_tup, S_lst, kT_u, kL_u, stoL_nil, stoL_dat, stoL_own, consO_some, SatO_some, S_call, kCall_u, S_if, S_ifS, kI_true, kI_false, S_andV, S_orV, kAndV_true, kAndV_false, kOrV_true, kOrV_false, S_test, kTest_, S_tru, kTru_, S_and, S_or, S_not, kAnd_true, kAnd_false, kOr_true, kOr_false, kNot_, S_seq, kS_nx, kS_rt, kS_bk, kS_ct, S_pass, S_set, kSet_dat, kSet_own, S_par, kP_, kPb_, S_ret', kR_, S_retN, S_break, S_cont, S_for, kF_, S_forNil, kFb_nx, kFb_ct, kFb_bk, kFb_rt, S_items, kItems_tup, kItems_lst, kItems_own, S_lc, kLc_, S_lcNil, S_yes, kD_rt, kD_nx, Rv.ret, gt, st, kVar_dat, kVar_own, o_add, o_sub, o_eq, o_ne, o_lt, o_le, o_gt, o_ge, o_eqB, o_neB, o_is2, o_isnot2, o_abs, o_ix, o_ixO, o_ixB, o_ixL, o_tupO, o_isBool, map_some', wp, tgN_, List.length_cons, List.length_nil, Nat.reduceAdd, Nat.reduceLeDiff, true_and, decide_true, decide_false, Bool.not_true, Bool.not_false, o_mul_u, o_div_u, o_mod_u, o_pow_u, o_eqS, o_neS, o_intB, o_lenS, o_lenO, o_lenB, o_iaddI, S_s1, kS1_, kS1b_, S_lm, kLm_bor, kLm_own, kLmb_, S_tab, o_ixT, o_ixS, S_put, kPut_, kPutK_, S_zip2, kZip_, kZipb_tup, o_sum, o_sumB, o_tupB, o_tupL, o_lenT, S_range1, kRng_3, S_tgtL, kTgtL_, List.nil_append, List.cons_append, Nat.reduceLT, SZ, forall_const, true_implies]
    refine ring_eq (b := b) (h3.le (by omega)) fun vs s' hv h' => ?_
    simp only [S_var, S_C, S_op1, k1_, S_op2, k2_, k2b_, S_nil, S_cons, kc_, kcb_, S_opN, kN_, S_tup, S_lst, kT_u, kL_u, stoL_nil, stoL_dat, stoL_own, consO_some, SatO_some, S_call, kCall_u, S_if, S_ifS, kI_true, kI_false, S_andV, S_orV, kAndV_true, kAndV_false, kOrV_true, kOrV_false, S_test, kTest_, S_tru, kTru_, S_and, S_or, S_not, kAnd_true, kAnd_false, kOr_true, kOr_false, kNot_, S_seq, kS_nx, kS_rt, kS_bk, kS_ct, S_pass, S_set, kSet_dat, kSet_own, S_par, kP_, kPb_, S_ret', kR_, S_retN, S_break, S_cont, S_for, kF_, S_forNil, kFb_nx, kFb_ct, kFb_bk, kFb_rt, S_items, kItems_tup, kItems_lst, kItems_own, S_lc, kLc_, S_lcNil, S_yes, kD_rt, kD_nx, Rv.ret, gt, st, kVar_dat, kVar_own, o_add, o_sub, o_eq, o_ne, o_lt, o_le, o_gt, o_ge, o_eqB, o_neB, o_is2, o_isnot2, o_abs, o_ix, o_ixO, o_ixB, o_ixL, o_tupO, o_isBool, map_some', wp, tgN_, List.length_cons, List.length_nil, Nat.reduceAdd, Nat.reduceLeDiff, true_and, decide_true, decide_false, Bool.not_true, Bool.not_false, o_mul_u, o_div_u, o_mod_u, o_pow_u, o_eqS, o_neS, o_intB, o_lenS, o_lenO, o_lenB, o_iaddI, S_s1, kS1_, kS1b_, S_lm, kLm_bor, kLm_own, kLmb_, S_tab, o_ixT, o_ixS, S_put, kPut_, kPutK_, S_zip2, kZip_, kZipb_tup, o_sum, o_sumB, o_tupB, o_tupL, o_lenT, S_range1, kRng_3, S_tgtL, kTgtL_, List.nil_append, List.cons_append, Nat.reduceLT, SZ, forall_const, true_implies]
    exact q vs s' (shp_up hv (by decide) (by decide)) h'
  · rw [decide_eq_false c5]
    simp only [S_var, S_C, S_op1, k1_, S_op2, k2_, k2b_, S_nil, S_cons, kc_, kcb_, S_opN, kN_, S_tup, S_lst, kT_u, kL_u, stoL_nil, stoL_dat, stoL_own, consO_some, SatO_some, S_call, kCall_u, S_if, S_ifS, kI_true, kI_false, S_andV, S_orV, kAndV_true, kAndV_false, kOrV_true, kOrV_false, S_test, kTest_, S_tru, kTru_, S_and, S_or, S_not, kAnd_true, kAnd_false, kOr_true, kOr_false, kNot_, S_seq, kS_nx, kS_rt, kS_bk, kS_ct, S_pass, S_set, kSet_dat, kSet_own, S_par, kP_, kPb_, S_ret', kR_, S_retN, S_break, S_cont, S_for, kF_, S_forNil, kFb_nx, kFb_ct, kFb_bk, kFb_rt, S_items, kItems_tup, kItems_lst, kItems_own, S_lc, kLc_, S_lcNil, S_yes, kD_rt, kD_nx, Rv.ret, gt, st, kVar_dat, kVar_own, o_add, o_sub, o_eq, o_ne, o_lt, o_le, o_gt, o_ge, o_eqB, o_neB, o_is2, o_isnot2, o_abs, o_ix, o_ixO, o_ixB, o_ixL, o_tupO, o_isBool, map_some', wp, tgN_, List.length_cons, List.length_nil, Nat.reduceAdd, Nat.reduceLeDiff, true_and, decide_true, decide_false, Bool.not_true, Bool.not_false, o_mul_u, o_div_u, o_mod_u, o_pow_u, o_eqS, o_neS, o_intB, o_lenS, o_lenO, o_lenB, o_iaddI, S_s1, kS1_, kS1b_, S_lm, kLm_bor, kLm_own, kLmb_, S_tab, o_ixT, o_ixS, S_put, kPut_, kPutK_, S_zip2, kZip_, kZipb_tup, o_sum, o_sumB, o_tupB, o_tupL, o_lenT, S_range1, kRng_3, S_tgtL, kTgtL_, List.nil_append, List.cons_append, Nat.reduceLT, SZ, forall_const, true_implies]
    have small : ∀ k : Int, sz = .int k → k = 25 ∨ k = 7 ∨ k = 3 ∨ k = 10 ^ 12 := by
      intro k hk
      rw [hk] at hz
      simp only [List.mem_cons, List.not_mem_nil, or_false, D.int.injEq] at hz
      exact hz
    obtain ⟨k, rfl⟩ : ∃ k, sz = .int k := by
      simp only [List.mem_cons, List.not_mem_nil, or_false] at hz
      rcases hz with rfl | rfl | rfl | rfl <;> exact ⟨_, rfl⟩
    have hk := small k rfl
    have p12 : (10 : Int) ^ 12 = 1000000000000 := by decide
    have k90 : k ≤ 10 ^ 90 := by
      have : (10 : Int) ^ 12 ≤ 10 ^ 90 := by decide
      omega
    simp only [S_var, S_C, S_op1, k1_, S_op2, k2_, k2b_, S_nil, S_cons, kc_, kcb_, S_opN, kN_, S_tup, S_lst, kT_u, kL_u, stoL_nil, stoL_dat, stoL_own, consO_some, SatO_some, S_call, kCall_u, S_if, S_ifS, kI_true, kI_false, S_andV, S_orV, kAndV_true, kAndV_false, kOrV_true, kOrV_false, S_test, kTest_, S_tru, kTru_, S_and, S_or, S_not, kAnd_true, kAnd_false, kOr_true, kOr_false, kNot_, S_seq, kS_nx, kS_rt, kS_bk, kS_ct, S_pass, S_set, kSet_dat, kSet_own, S_par, kP_, kPb_, S_ret', kR_, S_retN, S_break, S_cont, S_for, kF_, S_forNil, kFb_nx, kFb_ct, kFb_bk, kFb_rt, S_items, kItems_tup, kItems_lst, kItems_own, S_lc, kLc_, S_lcNil, S_yes, kD_rt, kD_nx, Rv.ret, gt, st, kVar_dat, kVar_own, o_add, o_sub, o_eq, o_ne, o_lt, o_le, o_gt, o_ge, o_eqB, o_neB, o_is2, o_isnot2, o_abs, o_ix, o_ixO, o_ixB, o_ixL, o_tupO, o_isBool, map_some', wp, tgN_, List.length_cons, List.length_nil, Nat.reduceAdd, Nat.reduceLeDiff, true_and, decide_true, decide_false, Bool.not_true, Bool.not_false, o_mul_u, o_div_u, o_mod_u, o_pow_u, o_eqS, o_neS, o_intB, o_lenS, o_lenO, o_lenB, o_iaddI, S_s1, kS1_, kS1b_, S_lm, kLm_bor, kLm_own, kLmb_, S_tab, o_ixT, o_ixS, S_put, kPut_, kPutK_, S_zip2, kZip_, kZipb_tup, o_sum, o_sumB, o_tupB, o_tupL, o_lenT, S_range1, kRng_3, S_tgtL, kTgtL_, List.nil_append, List.cons_append, Nat.reduceLT, SZ, forall_const, true_implies]
    by_cases c25 : 25 < k
    · rw [decide_eq_true c25]
      obtain ⟨M, hM, eM⟩ : ∃ M : Nat, M ≤ 2 ∧ oMin2 [.dat (.int 2), .dat (.int many)] = some (.dat (.int (M : Nat))) := by
        refine ⟨(if many < 2 then many else 2).toNat, by split <;> omega, ?_⟩
        show some (Rv.dat (.int (if many < 2 then many else 2))) = _
        congr 3
        split <;> omega
      simp only [S_var, S_C, S_op1, k1_, S_op2, k2_, k2b_, S_nil, S_cons, kc_, kcb_, S_opN, kN_, S_tup, S_lst, kT_u, kL_u, stoL_nil, stoL_dat, stoL_own, consO_some, SatO_some, S_call, kCall_u, S_if, S_ifS, kI_true, kI_false, S_andV, S_orV, kAndV_true, kAndV_false, kOrV_true, kOrV_false, S_test, kTest_, S_tru, kTru_, S_and, S_or, S_not, kAnd_true, kAnd_false, kOr_true, kOr_false, kNot_, S_seq, kS_nx, kS_rt, kS_bk, kS_ct, S_pass, S_set, kSet_dat, kSet_own, S_par, kP_, kPb_, S_ret', kR_, S_retN, S_break, S_cont, S_for, kF_, S_forNil, kFb_nx, kFb_ct, kFb_bk, kFb_rt, S_items, kItems_tup, kItems_lst, kItems_own, S_lc, kLc_, S_lcNil, S_yes, kD_rt, kD_nx, Rv.ret, gt, st, kVar_dat, kVar_own, o_add, o_sub, o_eq, o_ne, o_lt, o_le, o_gt, o_ge, o_eqB, o_neB, o_is2, o_isnot2, o_abs, o_ix, o_ixO, o_ixB, o_ixL, o_tupO, o_isBool, map_some', wp, tgN_, List.length_cons, List.length_nil, Nat.reduceAdd, Nat.reduceLeDiff, true_and, decide_true, decide_false, Bool.not_true, Bool.not_false, o_mul_u, o_div_u, o_mod_u, o_pow_u, o_eqS, o_neS, o_intB, o_lenS, o_lenO, o_lenB, o_iaddI, S_s1, kS1_, kS1b_, S_lm, kLm_bor, kLm_own, kLmb_, S_tab, o_ixT, o_ixS, S_put, kPut_, kPutK_, S_zip2, kZip_, kZipb_tup, o_sum, o_sumB, o_tupB, o_tupL, o_lenT, S_range1, kRng_3, S_tgtL, kTgtL_, List.nil_append, List.cons_append, Nat.reduceLT, SZ, forall_const, true_implies, eM, kRng_]
      refine ⟨rng_ok (by omega), ?_⟩
      rw [Int.toNat_natCast, rng_map]
      refine S_cuts (b := b) (m := 40) (C := 2) (M := M) (by omega) k90 (fun d d0 d1 => by
        have : (2 : Nat) ^ 40 = 1099511627776 := by decide
        omega) hM (by decide) (by decide) (h3.le (by omega)) fun vs s' x5 x6 hv h' => ?_
      simp only [S_var, S_C, S_op1, k1_, S_op2, k2_, k2b_, S_nil, S_cons, kc_, kcb_, S_opN, kN_, S_tup, S_lst, kT_u, kL_u, stoL_nil, stoL_dat, stoL_own, consO_some, SatO_some, S_call, kCall_u, S_if, S_ifS, kI_true, kI_false, S_andV, S_orV, kAndV_true, kAndV_false, kOrV_true, kOrV_false, S_test, kTest_, S_tru, kTru_, S_and, S_or, S_not, kAnd_true, kAnd_false, kOr_true, kOr_false, kNot_, S_seq, kS_nx, kS_rt, kS_bk, kS_ct, S_pass, S_set, kSet_dat, kSet_own, S_par, kP_, kPb_, S_ret', kR_, S_retN, S_break, S_cont, S_for, kF_, S_forNil, kFb_nx, kFb_ct, kFb_bk, kFb_rt, S_items, kItems_tup, kItems_lst, kItems_own, S_lc, kLc_, S_lcNil, S_yes, kD_rt, kD_nx, Rv.ret, gt, st, kVar_dat, kVar_own, o_add, o_sub, o_eq, o_ne, o_lt, o_le, o_gt, o_ge, o_eqB, o_neB, o_is2, o_isnot2, o_abs, o_ix, o_ixO, o_ixB, o_ixL, o_tupO, o_isBool, map_some', wp, tgN_, List.length_cons, List.length_nil, Nat.reduceAdd, Nat.reduceLeDiff, true_and, decide_true, decide_false, Bool.not_true, Bool.not_false, o_mul_u, o_div_u, o_mod_u, o_pow_u, o_eqS, o_neS, o_intB, o_lenS, o_lenO, o_lenB, o_iaddI, S_s1, kS1_, kS1b_, S_lm, kLm_bor, kLm_own, kLmb_, S_tab, o_ixT, o_ixS, S_put, kPut_, kPutK_, S_zip2, kZip_, kZipb_tup, o_sum, o_sumB, o_tupB, o_tupL, o_lenT, S_range1, kRng_3, S_tgtL, kTgtL_, List.nil_append, List.cons_append, Nat.reduceLT, SZ, forall_const, true_implies]
      exact q vs s' hv h'
    · rw [decide_eq_false c25]
      obtain ⟨M, hM⟩ : ∃ M : Nat, many = (M : Nat) := ⟨many.toNat, by omega⟩
      subst hM
      simp only [S_var, S_C, S_op1, k1_, S_op2, k2_, k2b_, S_nil, S_cons, kc_, kcb_, S_opN, kN_, S_tup, S_lst, kT_u, kL_u, stoL_nil, stoL_dat, stoL_own, consO_some, SatO_some, S_call, kCall_u, S_if, S_ifS, kI_true, kI_false, S_andV, S_orV, kAndV_true, kAndV_false, kOrV_true, kOrV_false, S_test, kTest_, S_tru, kTru_, S_and, S_or, S_not, kAnd_true, kAnd_false, kOr_true, kOr_false, kNot_, S_seq, kS_nx, kS_rt, kS_bk, kS_ct, S_pass, S_set, kSet_dat, kSet_own, S_par, kP_, kPb_, S_ret', kR_, S_retN, S_break, S_cont, S_for, kF_, S_forNil, kFb_nx, kFb_ct, kFb_bk, kFb_rt, S_items, kItems_tup, kItems_lst, kItems_own, S_lc, kLc_, S_lcNil, S_yes, kD_rt, kD_nx, Rv.ret, gt, st, kVar_dat, kVar_own, o_add, o_sub, o_eq, o_ne, o_lt, o_le, o_gt, o_ge, o_eqB, o_neB, o_is2, o_isnot2, o_abs, o_ix, o_ixO, o_ixB, o_ixL, o_tupO, o_isBool, map_some', wp, tgN_, List.length_cons, List.length_nil, Nat.reduceAdd, Nat.reduceLeDiff, true_and, decide_true, decide_false, Bool.not_true, Bool.not_false, o_mul_u, o_div_u, o_mod_u, o_pow_u, o_eqS, o_neS, o_intB, o_lenS, o_lenO, o_lenB, o_iaddI, S_s1, kS1_, kS1b_, S_lm, kLm_bor, kLm_own, kLmb_, S_tab, o_ixT, o_ixS, S_put, kPut_, kPutK_, S_zip2, kZip_, kZipb_tup, o_sum, o_sumB, o_tupB, o_tupL, o_lenT, S_range1, kRng_3, S_tgtL, kTgtL_, List.nil_append, List.cons_append, Nat.reduceLT, SZ, forall_const, true_implies, kRng_]
      refine ⟨rng_ok (by omega), ?_⟩
      rw [Int.toNat_natCast, rng_map]
      refine S_cuts (b := b) (m := 5) (C := 6) (M := M) (by omega) k90 (fun d d0 d1 => by
        have : (2 : Nat) ^ 5 = 32 := by decide
        omega) (by omega) (by decide) (by decide) (h3.le (by omega)) fun vs s' x5 x6 hv h' => ?_
      simp only [S_var, S_C, S_op1, k1_, S_op2, k2_, k2b_, S_nil, S_cons, kc_, kcb_, S_opN, kN_, S_tup, S_lst, kT_u, kL_u, stoL_nil, stoL_dat, stoL_own, consO_some, SatO_some, S_call, kCall_u, S_if, S_ifS, kI_true, kI_false, S_andV, S_orV, kAndV_true, kAndV_false, kOrV_true, kOrV_false, S_test, kTest_, S_tru, kTru_, S_and, S_or, S_not, kAnd_true, kAnd_false, kOr_true, kOr_false, kNot_, S_seq, kS_nx, kS_rt, kS_bk, kS_ct, S_pass, S_set, kSet_dat, kSet_own, S_par, kP_, kPb_, S_ret', kR_, S_retN, S_break, S_cont, S_for, kF_, S_forNil, kFb_nx, kFb_ct, kFb_bk, kFb_rt, S_items, kItems_tup, kItems_lst, kItems_own, S_lc, kLc_, S_lcNil, S_yes, kD_rt, kD_nx, Rv.ret, gt, st, kVar_dat, kVar_own, o_add, o_sub, o_eq, o_ne, o_lt, o_le, o_gt, o_ge, o_eqB, o_neB, o_is2, o_isnot2, o_abs, o_ix, o_ixO, o_ixB, o_ixL, o_tupO, o_isBool, map_some', wp, tgN_, List.length_cons, List.length_nil, Nat.reduceAdd, Nat.reduceLeDiff, true_and, decide_true, decide_false, Bool.not_true, Bool.not_false, o_mul_u, o_div_u, o_mod_u, o_pow_u, o_eqS, o_neS, o_intB, o_lenS, o_lenO, o_lenB, o_iaddI, S_s1, kS1_, kS1b_, S_lm, kLm_bor, kLm_own, kLmb_, S_tab, o_ixT, o_ixS, S_put, kPut_, kPutK_, S_zip2, kZip_, kZipb_tup, o_sum, o_sumB, o_tupB, o_tupL, o_lenT, S_range1, kRng_3, S_tgtL, kTgtL_, List.nil_append, List.cons_append, Nat.reduceLT, SZ, forall_const, true_implies]
      exact q vs s' hv h'
/-! ### what is told, what is due -/
def ptD (v : V3) : D := .tup [fr (frac v.2.1 v.1).1 (frac v.2.1 v.1).2, fr (frac v.2.2 v.1).1 (frac v.2.2 v.1).2]
def wyD (v : V3) : D := .tup [.int v.2.1, .int v.2.2]
def dueD (vs : List V3) : D := .tup [.tup ((vs.filter fun v => decide (0 < v.1)).map ptD), .tup ((vs.filter fun v => !decide (0 < v.1)).map wyD)]
theorem byOne_eq {v : V3} (h : Prc v ∧ Lt3 600 v) (ho : 0 < v.1) : F_by_one [vd v] s = .ok (.dat (ptD v)) s := Sat.eq fun Q q => by
  unfold F_by_one
  rw [S_def (k := 1) (ds := [vd v]) rfl]
  show Sat (m_by_one [.dat (.tup [.int v.1, .int v.2.1, .int v.2.2])] s) _
  unfold m_by_one
  rw [e_frac]
  have a0 : atI [D.int v.1, .int v.2.1, .int v.2.2] 0 = some (.int v.1) := rfl
  have a1 : atI [D.int v.1, .int v.2.1, .int v.2.2] 1 = some (.int v.2.1) := rfl
  have a2 : atI [D.int v.1, .int v.2.1, .int v.2.2] 2 = some (.int v.2.2) := rfl
  simp only [S_var, S_C, S_op1, k1_, S_op2, k2_, k2b_, S_nil, S_cons, kc_, kcb_, S_opN, kN_, S_tup, S_lst, kT_u, kL_u, stoL_nil, stoL_dat, stoL_own, consO_some, SatO_some, S_call, kCall_u, S_if, S_ifS, kI_true, kI_false, S_andV, S_orV, kAndV_true, kAndV_false, kOrV_true, kOrV_false, S_test, kTest_, S_tru, kTru_, S_and, S_or, S_not, kAnd_true, kAnd_false, kOr_true, kOr_false, kNot_, S_seq, kS_nx, kS_rt, kS_bk, kS_ct, S_pass, S_set, kSet_dat, kSet_own, S_par, kP_, kPb_, S_ret', kR_, S_retN, S_break, S_cont, S_for, kF_, S_forNil, kFb_nx, kFb_ct, kFb_bk, kFb_rt, S_items, kItems_tup, kItems_lst, kItems_own, S_lc, kLc_, S_lcNil, S_yes, kD_rt, kD_nx, Rv.ret, gt, st, kVar_dat, kVar_own, o_add, o_sub, o_eq, o_ne, o_lt, o_le, o_gt, o_ge, o_eqB, o_neB, o_is2, o_isnot2, o_abs, o_ix, o_ixO, o_ixB, o_ixL, o_tupO, o_isBool, map_some', wp, tgN_, List.length_cons, List.length_nil, Nat.reduceAdd, Nat.reduceLeDiff, true_and, decide_true, decide_false, Bool.not_true, Bool.not_false, o_mul_u, o_div_u, o_mod_u, o_pow_u, o_eqS, o_neS, o_intB, o_lenS, o_lenO, o_lenB, o_iaddI, S_s1, kS1_, kS1b_, S_lm, kLm_bor, kLm_own, kLmb_, S_tab, o_ixT, o_ixS, S_put, kPut_, kPutK_, S_zip2, kZip_, kZipb_tup, o_sum, o_sumB, o_tupB, o_tupL, o_lenT, S_range1, kRng_3, S_tgtL, kTgtL_, List.nil_append, List.cons_append, Nat.reduceLT, SZ, forall_const, true_implies, a0, a1, a2]
  rw [decide_eq_false (by omega)]
  simp only [S_var, S_C, S_op1, k1_, S_op2, k2_, k2b_, S_nil, S_cons, kc_, kcb_, S_opN, kN_, S_tup, S_lst, kT_u, kL_u, stoL_nil, stoL_dat, stoL_own, consO_some, SatO_some, S_call, kCall_u, S_if, S_ifS, kI_true, kI_false, S_andV, S_orV, kAndV_true, kAndV_false, kOrV_true, kOrV_false, S_test, kTest_, S_tru, kTru_, S_and, S_or, S_not, kAnd_true, kAnd_false, kOr_true, kOr_false, kNot_, S_seq, kS_nx, kS_rt, kS_bk, kS_ct, S_pass, S_set, kSet_dat, kSet_own, S_par, kP_, kPb_, S_ret', kR_, S_retN, S_break, S_cont, S_for, kF_, S_forNil, kFb_nx, kFb_ct, kFb_bk, kFb_rt, S_items, kItems_tup, kItems_lst, kItems_own, S_lc, kLc_, S_lcNil, S_yes, kD_rt, kD_nx, Rv.ret, gt, st, kVar_dat, kVar_own, o_add, o_sub, o_eq, o_ne, o_lt, o_le, o_gt, o_ge, o_eqB, o_neB, o_is2, o_isnot2, o_abs, o_ix, o_ixO, o_ixB, o_ixL, o_tupO, o_isBool, map_some', wp, tgN_, List.length_cons, List.length_nil, Nat.reduceAdd, Nat.reduceLeDiff, true_and, decide_true, decide_false, Bool.not_true, Bool.not_false, o_mul_u, o_div_u, o_mod_u, o_pow_u, o_eqS, o_neS, o_intB, o_lenS, o_lenO, o_lenB, o_iaddI, S_s1, kS1_, kS1b_, S_lm, kLm_bor, kLm_own, kLmb_, S_tab, o_ixT, o_ixS, S_put, kPut_, kPutK_, S_zip2, kZip_, kZipb_tup, o_sum, o_sumB, o_tupB, o_tupL, o_lenT, S_range1, kRng_3, S_tgtL, kTgtL_, List.nil_append, List.cons_append, Nat.reduceLT, SZ, forall_const, true_implies, a0, a1, a2]
  rw [fracN_ok (by omega) (ltUp h.2.y (by decide)) (ltUp h.2.x (by decide)), Sat_ok]
  simp only [S_var, S_C, S_op1, k1_, S_op2, k2_, k2b_, S_nil, S_cons, kc_, kcb_, S_opN, kN_, S_tup, S_lst, kT_u, kL_u, stoL_nil, stoL_dat, stoL_own, consO_some, SatO_some, S_call, kCall_u, S_if, S_ifS, kI_true, kI_false, S_andV, S_orV, kAndV_true, kAndV_false, kOrV_true, kOrV_false, S_test, kTest_, S_tru, kTru_, S_and, S_or, S_not, kAnd_true, kAnd_false, kOr_true, kOr_false, kNot_, S_seq, kS_nx, kS_rt, kS_bk, kS_ct, S_pass, S_set, kSet_dat, kSet_own, S_par, kP_, kPb_, S_ret', kR_, S_retN, S_break, S_cont, S_for, kF_, S_forNil, kFb_nx, kFb_ct, kFb_bk, kFb_rt, S_items, kItems_tup, kItems_lst, kItems_own, S_lc, kLc_, S_lcNil, S_yes, kD_rt, kD_nx, Rv.ret, gt, st, kVar_dat, kVar_own, o_add, o_sub, o_eq, o_ne, o_lt, o_le, o_gt, o_ge, o_eqB, o_neB, o_is2, o_isnot2, o_abs, o_ix, o_ixO, o_ixB, o_ixL, o_tupO, o_isBool, map_some', wp, tgN_, List.length_cons, List.length_nil, Nat.reduceAdd, Nat.reduceLeDiff, true_and, decide_true, decide_false, Bool.not_true, Bool.not_false, o_mul_u, o_div_u, o_mod_u, o_pow_u, o_eqS, o_neS, o_intB, o_lenS, o_lenO, o_lenB, o_iaddI, S_s1, kS1_, kS1b_, S_lm, kLm_bor, kLm_own, kLmb_, S_tab, o_ixT, o_ixS, S_put, kPut_, kPutK_, S_zip2, kZip_, kZipb_tup, o_sum, o_sumB, o_tupB, o_tupL, o_lenT, S_range1, kRng_3, S_tgtL, kTgtL_, List.nil_append, List.cons_append, Nat.reduceLT, SZ, forall_const, true_implies, a0, a1, a2]
  rw [fracN_ok (by omega) (ltUp h.2.z (by decide)) (ltUp h.2.x (by decide)), Sat_ok]
  simp only [S_var, S_C, S_op1, k1_, S_op2, k2_, k2b_, S_nil, S_cons, kc_, kcb_, S_opN, kN_, S_tup, S_lst, kT_u, kL_u, stoL_nil, stoL_dat, stoL_own, consO_some, SatO_some, S_call, kCall_u, S_if, S_ifS, kI_true, kI_false, S_andV, S_orV, kAndV_true, kAndV_false, kOrV_true, kOrV_false, S_test, kTest_, S_tru, kTru_, S_and, S_or, S_not, kAnd_true, kAnd_false, kOr_true, kOr_false, kNot_, S_seq, kS_nx, kS_rt, kS_bk, kS_ct, S_pass, S_set, kSet_dat, kSet_own, S_par, kP_, kPb_, S_ret', kR_, S_retN, S_break, S_cont, S_for, kF_, S_forNil, kFb_nx, kFb_ct, kFb_bk, kFb_rt, S_items, kItems_tup, kItems_lst, kItems_own, S_lc, kLc_, S_lcNil, S_yes, kD_rt, kD_nx, Rv.ret, gt, st, kVar_dat, kVar_own, o_add, o_sub, o_eq, o_ne, o_lt, o_le, o_gt, o_ge, o_eqB, o_neB, o_is2, o_isnot2, o_abs, o_ix, o_ixO, o_ixB, o_ixL, o_tupO, o_isBool, map_some', wp, tgN_, List.length_cons, List.length_nil, Nat.reduceAdd, Nat.reduceLeDiff, true_and, decide_true, decide_false, Bool.not_true, Bool.not_false, o_mul_u, o_div_u, o_mod_u, o_pow_u, o_eqS, o_neS, o_intB, o_lenS, o_lenO, o_lenB, o_iaddI, S_s1, kS1_, kS1b_, S_lm, kLm_bor, kLm_own, kLmb_, S_tab, o_ixT, o_ixS, S_put, kPut_, kPutK_, S_zip2, kZip_, kZipb_tup, o_sum, o_sumB, o_tupB, o_tupL, o_lenT, S_range1, kRng_3, S_tgtL, kTgtL_, List.nil_append, List.cons_append, Nat.reduceLT, SZ, forall_const, true_implies]
  exact q
theorem told_eq {n : Nat} {vs : List V3} (h : Shp 600 n vs) (hn : n ≤ 1000) : F_corners_by_one [shp vs] s = .ok (.dat (dueD vs)) s := Sat.eq fun Q q => by
  have hl := h.le
  unfold F_corners_by_one
  rw [S_def (k := 1) (ds := [shp vs]) rfl]
  show Sat (m_corners_by_one [.dat (.tup (vs.map vd)), .un, .un, .un] s) _
  unfold m_corners_by_one
  have a0 : ∀ v : V3, atI [D.int v.1, .int v.2.1, .int v.2.2] 0 = some (.int v.1) := fun v => rfl
  simp only [S_var, S_C, S_op1, k1_, S_op2, k2_, k2b_, S_nil, S_cons, kc_, kcb_, S_opN, kN_, S_tup, S_lst, kT_u, kL_u, stoL_nil, stoL_dat, stoL_own, consO_some, SatO_some, S_call, kCall_u, S_if, S_ifS, kI_true, kI_false, S_andV, S_orV, kAndV_true, kAndV_false, kOrV_true, kOrV_false, S_test, kTest_, S_tru, kTru_, S_and, S_or, S_not, kAnd_true, kAnd_false, kOr_true, kOr_false, kNot_, S_seq, kS_nx, kS_rt, kS_bk, kS_ct, S_pass, S_set, kSet_dat, kSet_own, S_par, kP_, kPb_, S_ret', kR_, S_retN, S_break, S_cont, S_for, kF_, S_forNil, kFb_nx, kFb_ct, kFb_bk, kFb_rt, S_items, kItems_tup, kItems_lst, kItems_own, S_lc, kLc_, S_lcNil, S_yes, kD_rt, kD_nx, Rv.ret, gt, st, kVar_dat, kVar_own, o_add, o_sub, o_eq, o_ne, o_lt, o_le, o_gt, o_ge, o_eqB, o_neB, o_is2, o_isnot2, o_abs, o_ix, o_ixO, o_ixB, o_ixL, o_tupO, o_isBool, map_some', wp, tgN_, List.length_cons, List.length_nil, Nat.reduceAdd, Nat.reduceLeDiff, true_and, decide_true, decide_false, Bool.not_true, Bool.not_false, o_mul_u, o_div_u, o_mod_u, o_pow_u, o_eqS, o_neS, o_intB, o_lenS, o_lenO, o_lenB, o_iaddI, S_s1, kS1_, kS1b_, S_lm, kLm_bor, kLm_own, kLmb_, S_tab, o_ixT, o_ixS, S_put, kPut_, kPutK_, S_zip2, kZip_, kZipb_tup, o_sum, o_sumB, o_tupB, o_tupL, o_lenT, S_range1, kRng_3, S_tgtL, kTgtL_, List.nil_append, List.cons_append, Nat.reduceLT, SZ, forall_const, true_implies]
  refine S_lcF vs vd ptD (fun v => decide (0 < v.1)) (by show _ ≤ 16777216; omega) (fun v hv => ⟨_, rfl, ?_, fun c => ?_⟩) ?_
  · exact Sat.eq fun Q q => by
      simp only [S_var, S_C, S_op1, k1_, S_op2, k2_, k2b_, S_nil, S_cons, kc_, kcb_, S_opN, kN_, S_tup, S_lst, kT_u, kL_u, stoL_nil, stoL_dat, stoL_own, consO_some, SatO_some, S_call, kCall_u, S_if, S_ifS, kI_true, kI_false, S_andV, S_orV, kAndV_true, kAndV_false, kOrV_true, kOrV_false, S_test, kTest_, S_tru, kTru_, S_and, S_or, S_not, kAnd_true, kAnd_false, kOr_true, kOr_false, kNot_, S_seq, kS_nx, kS_rt, kS_bk, kS_ct, S_pass, S_set, kSet_dat, kSet_own, S_par, kP_, kPb_, S_ret', kR_, S_retN, S_break, S_cont, S_for, kF_, S_forNil, kFb_nx, kFb_ct, kFb_bk, kFb_rt, S_items, kItems_tup, kItems_lst, kItems_own, S_lc, kLc_, S_lcNil, S_yes, kD_rt, kD_nx, Rv.ret, gt, st, kVar_dat, kVar_own, o_add, o_sub, o_eq, o_ne, o_lt, o_le, o_gt, o_ge, o_eqB, o_neB, o_is2, o_isnot2, o_abs, o_ix, o_ixO, o_ixB, o_ixL, o_tupO, o_isBool, map_some', wp, tgN_, List.length_cons, List.length_nil, Nat.reduceAdd, Nat.reduceLeDiff, true_and, decide_true, decide_false, Bool.not_true, Bool.not_false, o_mul_u, o_div_u, o_mod_u, o_pow_u, o_eqS, o_neS, o_intB, o_lenS, o_lenO, o_lenB, o_iaddI, S_s1, kS1_, kS1b_, S_lm, kLm_bor, kLm_own, kLmb_, S_tab, o_ixT, o_ixS, S_put, kPut_, kPutK_, S_zip2, kZip_, kZipb_tup, o_sum, o_sumB, o_tupB, o_tupL, o_lenT, S_range1, kRng_3, S_tgtL, kTgtL_, List.nil_append, List.cons_append, Nat.reduceLT, SZ, forall_const, true_implies, vd, a0]
      exact q
  · simp only [S_var, S_C, S_op1, k1_, S_op2, k2_, k2b_, S_nil, S_cons, kc_, kcb_, S_opN, kN_, S_tup, S_lst, kT_u, kL_u, stoL_nil, stoL_dat, stoL_own, consO_some, SatO_some, S_call, kCall_u, S_if, S_ifS, kI_true, kI_false, S_andV, S_orV, kAndV_true, kAndV_false, kOrV_true, kOrV_false, S_test, kTest_, S_tru, kTru_, S_and, S_or, S_not, kAnd_true, kAnd_false, kOr_true, kOr_false, kNot_, S_seq, kS_nx, kS_rt, kS_bk, kS_ct, S_pass, S_set, kSet_dat, kSet_own, S_par, kP_, kPb_, S_ret', kR_, S_retN, S_break, S_cont, S_for, kF_, S_forNil, kFb_nx, kFb_ct, kFb_bk, kFb_rt, S_items, kItems_tup, kItems_lst, kItems_own, S_lc, kLc_, S_lcNil, S_yes, kD_rt, kD_nx, Rv.ret, gt, st, kVar_dat, kVar_own, o_add, o_sub, o_eq, o_ne, o_lt, o_le, o_gt, o_ge, o_eqB, o_neB, o_is2, o_isnot2, o_abs, o_ix, o_ixO, o_ixB, o_ixL, o_tupO, o_isBool, map_some', wp, tgN_, List.length_cons, List.length_nil, Nat.reduceAdd, Nat.reduceLeDiff, true_and, decide_true, decide_false, Bool.not_true, Bool.not_false, o_mul_u, o_div_u, o_mod_u, o_pow_u, o_eqS, o_neS, o_intB, o_lenS, o_lenO, o_lenB, o_iaddI, S_s1, kS1_, kS1b_, S_lm, kLm_bor, kLm_own, kLmb_, S_tab, o_ixT, o_ixS, S_put, kPut_, kPutK_, S_zip2, kZip_, kZipb_tup, o_sum, o_sumB, o_tupB, o_tupL, o_lenT, S_range1, kRng_3, S_tgtL, kTgtL_, List.nil_append, List.cons_append, Nat.reduceLT, SZ, forall_const, true_implies]
    rw [byOne_eq (h.pr v hv) (of_decide_eq_true c), Sat_ok]
    exact ⟨rfl, rfl⟩
  · simp only [S_var, S_C, S_op1, k1_, S_op2, k2_, k2b_, S_nil, S_cons, kc_, kcb_, S_opN, kN_, S_tup, S_lst, kT_u, kL_u, stoL_nil, stoL_dat, stoL_own, consO_some, SatO_some, S_call, kCall_u, S_if, S_ifS, kI_true, kI_false, S_andV, S_orV, kAndV_true, kAndV_false, kOrV_true, kOrV_false, S_test, kTest_, S_tru, kTru_, S_and, S_or, S_not, kAnd_true, kAnd_false, kOr_true, kOr_false, kNot_, S_seq, kS_nx, kS_rt, kS_bk, kS_ct, S_pass, S_set, kSet_dat, kSet_own, S_par, kP_, kPb_, S_ret', kR_, S_retN, S_break, S_cont, S_for, kF_, S_forNil, kFb_nx, kFb_ct, kFb_bk, kFb_rt, S_items, kItems_tup, kItems_lst, kItems_own, S_lc, kLc_, S_lcNil, S_yes, kD_rt, kD_nx, Rv.ret, gt, st, kVar_dat, kVar_own, o_add, o_sub, o_eq, o_ne, o_lt, o_le, o_gt, o_ge, o_eqB, o_neB, o_is2, o_isnot2, o_abs, o_ix, o_ixO, o_ixB, o_ixL, o_tupO, o_isBool, map_some', wp, tgN_, List.length_cons, List.length_nil, Nat.reduceAdd, Nat.reduceLeDiff, true_and, decide_true, decide_false, Bool.not_true, Bool.not_false, o_mul_u, o_div_u, o_mod_u, o_pow_u, o_eqS, o_neS, o_intB, o_lenS, o_lenO, o_lenB, o_iaddI, S_s1, kS1_, kS1b_, S_lm, kLm_bor, kLm_own, kLmb_, S_tab, o_ixT, o_ixS, S_put, kPut_, kPutK_, S_zip2, kZip_, kZipb_tup, o_sum, o_sumB, o_tupB, o_tupL, o_lenT, S_range1, kRng_3, S_tgtL, kTgtL_, List.nil_append, List.cons_append, Nat.reduceLT, SZ, forall_const, true_implies]
    refine S_lcF vs vd wyD (fun v => !decide (0 < v.1)) (by show _ ≤ 16777216; omega) (fun v hv => ⟨_, rfl, ?_, fun c => ?_⟩) ?_
    · have hp := (h.pr v hv).1.x
      have e1 : decide (v.1 = 0) = !decide (0 < v.1) := by
        by_cases c : v.1 = 0
        · rw [decide_eq_true c, decide_eq_false (by omega)]
          rfl
        · rw [decide_eq_false c, decide_eq_true (by omega)]
          rfl
      exact Sat.eq fun Q q => by
        simp only [S_var, S_C, S_op1, k1_, S_op2, k2_, k2b_, S_nil, S_cons, kc_, kcb_, S_opN, kN_, S_tup, S_lst, kT_u, kL_u, stoL_nil, stoL_dat, stoL_own, consO_some, SatO_some, S_call, kCall_u, S_if, S_ifS, kI_true, kI_false, S_andV, S_orV, kAndV_true, kAndV_false, kOrV_true, kOrV_false, S_test, kTest_, S_tru, kTru_, S_and, S_or, S_not, kAnd_true, kAnd_false, kOr_true, kOr_false, kNot_, S_seq, kS_nx, kS_rt, kS_bk, kS_ct, S_pass, S_set, kSet_dat, kSet_own, S_par, kP_, kPb_, S_ret', kR_, S_retN, S_break, S_cont, S_for, kF_, S_forNil, kFb_nx, kFb_ct, kFb_bk, kFb_rt, S_items, kItems_tup, kItems_lst, kItems_own, S_lc, kLc_, S_lcNil, S_yes, kD_rt, kD_nx, Rv.ret, gt, st, kVar_dat, kVar_own, o_add, o_sub, o_eq, o_ne, o_lt, o_le, o_gt, o_ge, o_eqB, o_neB, o_is2, o_isnot2, o_abs, o_ix, o_ixO, o_ixB, o_ixL, o_tupO, o_isBool, map_some', wp, tgN_, List.length_cons, List.length_nil, Nat.reduceAdd, Nat.reduceLeDiff, true_and, decide_true, decide_false, Bool.not_true, Bool.not_false, o_mul_u, o_div_u, o_mod_u, o_pow_u, o_eqS, o_neS, o_intB, o_lenS, o_lenO, o_lenB, o_iaddI, S_s1, kS1_, kS1b_, S_lm, kLm_bor, kLm_own, kLmb_, S_tab, o_ixT, o_ixS, S_put, kPut_, kPutK_, S_zip2, kZip_, kZipb_tup, o_sum, o_sumB, o_tupB, o_tupL, o_lenT, S_range1, kRng_3, S_tgtL, kTgtL_, List.nil_append, List.cons_append, Nat.reduceLT, SZ, forall_const, true_implies, vd, a0, e1]
        exact q
    · exact ⟨rfl, rfl⟩
    · simp only [S_var, S_C, S_op1, k1_, S_op2, k2_, k2b_, S_nil, S_cons, kc_, kcb_, S_opN, kN_, S_tup, S_lst, kT_u, kL_u, stoL_nil, stoL_dat, stoL_own, consO_some, SatO_some, S_call, kCall_u, S_if, S_ifS, kI_true, kI_false, S_andV, S_orV, kAndV_true, kAndV_false, kOrV_true, kOrV_false, S_test, kTest_, S_tru, kTru_, S_and, S_or, S_not, kAnd_true, kAnd_false, kOr_true, kOr_false, kNot_, S_seq, kS_nx, kS_rt, kS_bk, kS_ct, S_pass, S_set, kSet_dat, kSet_own, S_par, kP_, kPb_, S_ret', kR_, S_retN, S_break, S_cont, S_for, kF_, S_forNil, kFb_nx, kFb_ct, kFb_bk, kFb_rt, S_items, kItems_tup, kItems_lst, kItems_own, S_lc, kLc_, S_lcNil, S_yes, kD_rt, kD_nx, Rv.ret, gt, st, kVar_dat, kVar_own, o_add, o_sub, o_eq, o_ne, o_lt, o_le, o_gt, o_ge, o_eqB, o_neB, o_is2, o_isnot2, o_abs, o_ix, o_ixO, o_ixB, o_ixL, o_tupO, o_isBool, map_some', wp, tgN_, List.length_cons, List.length_nil, Nat.reduceAdd, Nat.reduceLeDiff, true_and, decide_true, decide_false, Bool.not_true, Bool.not_false, o_mul_u, o_div_u, o_mod_u, o_pow_u, o_eqS, o_neS, o_intB, o_lenS, o_lenO, o_lenB, o_iaddI, S_s1, kS1_, kS1b_, S_lm, kLm_bor, kLm_own, kLmb_, S_tab, o_ixT, o_ixS, S_put, kPut_, kPutK_, S_zip2, kZip_, kZipb_tup, o_sum, o_sumB, o_tupB, o_tupL, o_lenT, S_range1, kRng_3, S_tgtL, kTgtL_, List.nil_append, List.cons_append, Nat.reduceLT, SZ, forall_const, true_implies]
      exact q
theorem lowest2_eq {x o : Int} (ho : 0 < o) (hx : x.natAbs < 2 ^ 1000) (hb : o.natAbs < 2 ^ 1000) : lowestF [.lst [.int x, .int o]] s = .ok (.dat (fr (frac x o).1 (frac x o).2)) s := Sat.eq fun Q q => by
  have hg : gcdL [x, o] 0 = Nat.gcd x.natAbs o.natAbs := by
    show Nat.gcd (Nat.gcd 0 x.natAbs) o.natAbs = _
    rw [Nat.gcd_zero_left]
  refine S_lowestN (ns := [x, o]) (.inr rfl) (fun n hn => ?_) ?_ (by simp) ?_
  · simp only [List.mem_cons, List.not_mem_nil, or_false] at hn
    rcases hn with rfl | rfl <;> assumption
  · rw [hg]
    exact Nat.gcd_pos_of_pos_right _ (by omega)
  · rw [hg]
    unfold frac at q
    rw [if_neg (by omega)] at q
    exact q
theorem due_eq {n : Nat} {vs : List V3} (h : Shp 600 n vs) (hn : n ≤ 1000) : F__law_due [shp vs] s = .ok (.dat (dueD vs)) s := Sat.eq fun Q q => by
  have hl := h.le
  unfold F__law_due
  rw [S_def (k := 1) (ds := [shp vs]) rfl]
  show Sat (m__law_due [.dat (.tup (vs.map vd)), .un, .un, .un, .un, .un] s) _
  unfold m__law_due
  rw [e_lowest]
  simp only [S_var, S_C, S_op1, k1_, S_op2, k2_, k2b_, S_nil, S_cons, kc_, kcb_, S_opN, kN_, S_tup, S_lst, kT_u, kL_u, stoL_nil, stoL_dat, stoL_own, consO_some, SatO_some, S_call, kCall_u, S_if, S_ifS, kI_true, kI_false, S_andV, S_orV, kAndV_true, kAndV_false, kOrV_true, kOrV_false, S_test, kTest_, S_tru, kTru_, S_and, S_or, S_not, kAnd_true, kAnd_false, kOr_true, kOr_false, kNot_, S_seq, kS_nx, kS_rt, kS_bk, kS_ct, S_pass, S_set, kSet_dat, kSet_own, S_par, kP_, kPb_, S_ret', kR_, S_retN, S_break, S_cont, S_for, kF_, S_forNil, kFb_nx, kFb_ct, kFb_bk, kFb_rt, S_items, kItems_tup, kItems_lst, kItems_own, S_lc, kLc_, S_lcNil, S_yes, kD_rt, kD_nx, Rv.ret, gt, st, kVar_dat, kVar_own, o_add, o_sub, o_eq, o_ne, o_lt, o_le, o_gt, o_ge, o_eqB, o_neB, o_is2, o_isnot2, o_abs, o_ix, o_ixO, o_ixB, o_ixL, o_tupO, o_isBool, map_some', wp, tgN_, List.length_cons, List.length_nil, Nat.reduceAdd, Nat.reduceLeDiff, true_and, decide_true, decide_false, Bool.not_true, Bool.not_false, o_mul_u, o_div_u, o_mod_u, o_pow_u, o_eqS, o_neS, o_intB, o_lenS, o_lenO, o_lenB, o_iaddI, S_s1, kS1_, kS1b_, S_lm, kLm_bor, kLm_own, kLmb_, S_tab, o_ixT, o_ixS, S_put, kPut_, kPutK_, S_zip2, kZip_, kZipb_tup, o_sum, o_sumB, o_tupB, o_tupL, o_lenT, S_range1, kRng_3, S_tgtL, kTgtL_, List.nil_append, List.cons_append, Nat.reduceLT, SZ, forall_const, true_implies]
  refine S_forA vs vd (fun pre post e g => ∃ x3 x4 x5 : Sl, e = [.dat (.tup (vs.map vd)), .own ((pre.filter fun v => decide (0 < v.1)).map ptD), .own ((pre.filter fun v => !decide (0 < v.1)).map wyD), x3, x4, x5] ∧ g = s) ⟨_, _, _, rfl, rfl⟩ ?_ ?_
  · rintro pre v post e g hr ⟨x3, x4, x5, rfl, rfl⟩
    refine ⟨_, rfl, ?_⟩
    have hv := h.pr v (by rw [hr]; simp)
    have hp := hv.1.x
    have hpl : pre.length ≤ 1000 := by
      have := congrArg List.length hr
      rw [List.length_append, List.length_cons] at this
      omega
    have f1 : ∀ p : V3 → Bool, (pre.filter p).length ≤ 1000 := fun p => Nat.le_trans (List.length_filter_le _ _) hpl
    simp only [S_var, S_C, S_op1, k1_, S_op2, k2_, k2b_, S_nil, S_cons, kc_, kcb_, S_opN, kN_, S_tup, S_lst, kT_u, kL_u, stoL_nil, stoL_dat, stoL_own, consO_some, SatO_some, S_call, kCall_u, S_if, S_ifS, kI_true, kI_false, S_andV, S_orV, kAndV_true, kAndV_false, kOrV_true, kOrV_false, S_test, kTest_, S_tru, kTru_, S_and, S_or, S_not, kAnd_true, kAnd_false, kOr_true, kOr_false, kNot_, S_seq, kS_nx, kS_rt, kS_bk, kS_ct, S_pass, S_set, kSet_dat, kSet_own, S_par, kP_, kPb_, S_ret', kR_, S_retN, S_break, S_cont, S_for, kF_, S_forNil, kFb_nx, kFb_ct, kFb_bk, kFb_rt, S_items, kItems_tup, kItems_lst, kItems_own, S_lc, kLc_, S_lcNil, S_yes, kD_rt, kD_nx, Rv.ret, gt, st, kVar_dat, kVar_own, o_add, o_sub, o_eq, o_ne, o_lt, o_le, o_gt, o_ge, o_eqB, o_neB, o_is2, o_isnot2, o_abs, o_ix, o_ixO, o_ixB, o_ixL, o_tupO, o_isBool, map_some', wp, tgN_, List.length_cons, List.length_nil, Nat.reduceAdd, Nat.reduceLeDiff, true_and, decide_true, decide_false, Bool.not_true, Bool.not_false, o_mul_u, o_div_u, o_mod_u, o_pow_u, o_eqS, o_neS, o_intB, o_lenS, o_lenO, o_lenB, o_iaddI, S_s1, kS1_, kS1b_, S_lm, kLm_bor, kLm_own, kLmb_, S_tab, o_ixT, o_ixS, S_put, kPut_, kPutK_, S_zip2, kZip_, kZipb_tup, o_sum, o_sumB, o_tupB, o_tupL, o_lenT, S_range1, kRng_3, S_tgtL, kTgtL_, List.nil_append, List.cons_append, Nat.reduceLT, SZ, forall_const, true_implies]
    refine kI_d (fun c => ?_) (fun c => ?_)
    · rw [S_app rfl]
      simp only [S_var, S_C, S_op1, k1_, S_op2, k2_, k2b_, S_nil, S_cons, kc_, kcb_, S_opN, kN_, S_tup, S_lst, kT_u, kL_u, stoL_nil, stoL_dat, stoL_own, consO_some, SatO_some, S_call, kCall_u, S_if, S_ifS, kI_true, kI_false, S_andV, S_orV, kAndV_true, kAndV_false, kOrV_true, kOrV_false, S_test, kTest_, S_tru, kTru_, S_and, S_or, S_not, kAnd_true, kAnd_false, kOr_true, kOr_false, kNot_, S_seq, kS_nx, kS_rt, kS_bk, kS_ct, S_pass, S_set, kSet_dat, kSet_own, S_par, kP_, kPb_, S_ret', kR_, S_retN, S_break, S_cont, S_for, kF_, S_forNil, kFb_nx, kFb_ct, kFb_bk, kFb_rt, S_items, kItems_tup, kItems_lst, kItems_own, S_lc, kLc_, S_lcNil, S_yes, kD_rt, kD_nx, Rv.ret, gt, st, kVar_dat, kVar_own, o_add, o_sub, o_eq, o_ne, o_lt, o_le, o_gt, o_ge, o_eqB, o_neB, o_is2, o_isnot2, o_abs, o_ix, o_ixO, o_ixB, o_ixL, o_tupO, o_isBool, map_some', wp, tgN_, List.length_cons, List.length_nil, Nat.reduceAdd, Nat.reduceLeDiff, true_and, decide_true, decide_false, Bool.not_true, Bool.not_false, o_mul_u, o_div_u, o_mod_u, o_pow_u, o_eqS, o_neS, o_intB, o_lenS, o_lenO, o_lenB, o_iaddI, S_s1, kS1_, kS1b_, S_lm, kLm_bor, kLm_own, kLmb_, S_tab, o_ixT, o_ixS, S_put, kPut_, kPutK_, S_zip2, kZip_, kZipb_tup, o_sum, o_sumB, o_tupB, o_tupL, o_lenT, S_range1, kRng_3, S_tgtL, kTgtL_, List.nil_append, List.cons_append, Nat.reduceLT, SZ, forall_const, true_implies, kA_dat]
      refine ⟨by rw [List.length_map]; exact Nat.lt_of_le_of_lt (f1 _) (by decide), .dat (.int v.1), .dat (.int v.2.1), .dat (.int v.2.2), ?_, trivial⟩
      rw [List.filter_append, List.filter_append, List.filter_cons_of_neg (by simp; omega), List.filter_cons_of_pos (by simp; omega), List.filter_nil, List.append_nil, List.map_append]
      rfl
    · rw [S_app rfl]
      simp only [S_var, S_C, S_op1, k1_, S_op2, k2_, k2b_, S_nil, S_cons, kc_, kcb_, S_opN, kN_, S_tup, S_lst, kT_u, kL_u, stoL_nil, stoL_dat, stoL_own, consO_some, SatO_some, S_call, kCall_u, S_if, S_ifS, kI_true, kI_false, S_andV, S_orV, kAndV_true, kAndV_false, kOrV_true, kOrV_false, S_test, kTest_, S_tru, kTru_, S_and, S_or, S_not, kAnd_true, kAnd_false, kOr_true, kOr_false, kNot_, S_seq, kS_nx, kS_rt, kS_bk, kS_ct, S_pass, S_set, kSet_dat, kSet_own, S_par, kP_, kPb_, S_ret', kR_, S_retN, S_break, S_cont, S_for, kF_, S_forNil, kFb_nx, kFb_ct, kFb_bk, kFb_rt, S_items, kItems_tup, kItems_lst, kItems_own, S_lc, kLc_, S_lcNil, S_yes, kD_rt, kD_nx, Rv.ret, gt, st, kVar_dat, kVar_own, o_add, o_sub, o_eq, o_ne, o_lt, o_le, o_gt, o_ge, o_eqB, o_neB, o_is2, o_isnot2, o_abs, o_ix, o_ixO, o_ixB, o_ixL, o_tupO, o_isBool, map_some', wp, tgN_, List.length_cons, List.length_nil, Nat.reduceAdd, Nat.reduceLeDiff, true_and, decide_true, decide_false, Bool.not_true, Bool.not_false, o_mul_u, o_div_u, o_mod_u, o_pow_u, o_eqS, o_neS, o_intB, o_lenS, o_lenO, o_lenB, o_iaddI, S_s1, kS1_, kS1b_, S_lm, kLm_bor, kLm_own, kLmb_, S_tab, o_ixT, o_ixS, S_put, kPut_, kPutK_, S_zip2, kZip_, kZipb_tup, o_sum, o_sumB, o_tupB, o_tupL, o_lenT, S_range1, kRng_3, S_tgtL, kTgtL_, List.nil_append, List.cons_append, Nat.reduceLT, SZ, forall_const, true_implies]
      rw [lowest2_eq (by omega) (ltUp hv.2.y (by decide)) (ltUp hv.2.x (by decide)), Sat_ok]
      simp only [S_var, S_C, S_op1, k1_, S_op2, k2_, k2b_, S_nil, S_cons, kc_, kcb_, S_opN, kN_, S_tup, S_lst, kT_u, kL_u, stoL_nil, stoL_dat, stoL_own, consO_some, SatO_some, S_call, kCall_u, S_if, S_ifS, kI_true, kI_false, S_andV, S_orV, kAndV_true, kAndV_false, kOrV_true, kOrV_false, S_test, kTest_, S_tru, kTru_, S_and, S_or, S_not, kAnd_true, kAnd_false, kOr_true, kOr_false, kNot_, S_seq, kS_nx, kS_rt, kS_bk, kS_ct, S_pass, S_set, kSet_dat, kSet_own, S_par, kP_, kPb_, S_ret', kR_, S_retN, S_break, S_cont, S_for, kF_, S_forNil, kFb_nx, kFb_ct, kFb_bk, kFb_rt, S_items, kItems_tup, kItems_lst, kItems_own, S_lc, kLc_, S_lcNil, S_yes, kD_rt, kD_nx, Rv.ret, gt, st, kVar_dat, kVar_own, o_add, o_sub, o_eq, o_ne, o_lt, o_le, o_gt, o_ge, o_eqB, o_neB, o_is2, o_isnot2, o_abs, o_ix, o_ixO, o_ixB, o_ixL, o_tupO, o_isBool, map_some', wp, tgN_, List.length_cons, List.length_nil, Nat.reduceAdd, Nat.reduceLeDiff, true_and, decide_true, decide_false, Bool.not_true, Bool.not_false, o_mul_u, o_div_u, o_mod_u, o_pow_u, o_eqS, o_neS, o_intB, o_lenS, o_lenO, o_lenB, o_iaddI, S_s1, kS1_, kS1b_, S_lm, kLm_bor, kLm_own, kLmb_, S_tab, o_ixT, o_ixS, S_put, kPut_, kPutK_, S_zip2, kZip_, kZipb_tup, o_sum, o_sumB, o_tupB, o_tupL, o_lenT, S_range1, kRng_3, S_tgtL, kTgtL_, List.nil_append, List.cons_append, Nat.reduceLT, SZ, forall_const, true_implies]
      rw [lowest2_eq (by omega) (ltUp hv.2.z (by decide)) (ltUp hv.2.x (by decide)), Sat_ok]
      simp only [S_var, S_C, S_op1, k1_, S_op2, k2_, k2b_, S_nil, S_cons, kc_, kcb_, S_opN, kN_, S_tup, S_lst, kT_u, kL_u, stoL_nil, stoL_dat, stoL_own, consO_some, SatO_some, S_call, kCall_u, S_if, S_ifS, kI_true, kI_false, S_andV, S_orV, kAndV_true, kAndV_false, kOrV_true, kOrV_false, S_test, kTest_, S_tru, kTru_, S_and, S_or, S_not, kAnd_true, kAnd_false, kOr_true, kOr_false, kNot_, S_seq, kS_nx, kS_rt, kS_bk, kS_ct, S_pass, S_set, kSet_dat, kSet_own, S_par, kP_, kPb_, S_ret', kR_, S_retN, S_break, S_cont, S_for, kF_, S_forNil, kFb_nx, kFb_ct, kFb_bk, kFb_rt, S_items, kItems_tup, kItems_lst, kItems_own, S_lc, kLc_, S_lcNil, S_yes, kD_rt, kD_nx, Rv.ret, gt, st, kVar_dat, kVar_own, o_add, o_sub, o_eq, o_ne, o_lt, o_le, o_gt, o_ge, o_eqB, o_neB, o_is2, o_isnot2, o_abs, o_ix, o_ixO, o_ixB, o_ixL, o_tupO, o_isBool, map_some', wp, tgN_, List.length_cons, List.length_nil, Nat.reduceAdd, Nat.reduceLeDiff, true_and, decide_true, decide_false, Bool.not_true, Bool.not_false, o_mul_u, o_div_u, o_mod_u, o_pow_u, o_eqS, o_neS, o_intB, o_lenS, o_lenO, o_lenB, o_iaddI, S_s1, kS1_, kS1b_, S_lm, kLm_bor, kLm_own, kLmb_, S_tab, o_ixT, o_ixS, S_put, kPut_, kPutK_, S_zip2, kZip_, kZipb_tup, o_sum, o_sumB, o_tupB, o_tupL, o_lenT, S_range1, kRng_3, S_tgtL, kTgtL_, List.nil_append, List.cons_append, Nat.reduceLT, SZ, forall_const, true_implies, kA_dat]
      refine ⟨by rw [List.length_map]; exact Nat.lt_of_le_of_lt (f1 _) (by decide), .dat (.int v.1), .dat (.int v.2.1), .dat (.int v.2.2), ?_, trivial⟩
      rw [List.filter_append, List.filter_append, List.filter_cons_of_pos (by simp; omega), List.filter_cons_of_neg (by simp; omega), List.filter_nil, List.filter_nil, List.append_nil, List.map_append]
      rfl
  · rintro e g ⟨x3, x4, x5, rfl, rfl⟩
    simp only [S_var, S_C, S_op1, k1_, S_op2, k2_, k2b_, S_nil, S_cons, kc_, kcb_, S_opN, kN_, S_tup, S_lst, kT_u, kL_u, stoL_nil, stoL_dat, stoL_own, consO_some, SatO_some, S_call, kCall_u, S_if, S_ifS, kI_true, kI_false, S_andV, S_orV, kAndV_true, kAndV_false, kOrV_true, kOrV_false, S_test, kTest_, S_tru, kTru_, S_and, S_or, S_not, kAnd_true, kAnd_false, kOr_true, kOr_false, kNot_, S_seq, kS_nx, kS_rt, kS_bk, kS_ct, S_pass, S_set, kSet_dat, kSet_own, S_par, kP_, kPb_, S_ret', kR_, S_retN, S_break, S_cont, S_for, kF_, S_forNil, kFb_nx, kFb_ct, kFb_bk, kFb_rt, S_items, kItems_tup, kItems_lst, kItems_own, S_lc, kLc_, S_lcNil, S_yes, kD_rt, kD_nx, Rv.ret, gt, st, kVar_dat, kVar_own, o_add, o_sub, o_eq, o_ne, o_lt, o_le, o_gt, o_ge, o_eqB, o_neB, o_is2, o_isnot2, o_abs, o_ix, o_ixO, o_ixB, o_ixL, o_tupO, o_isBool, map_some', wp, tgN_, List.length_cons, List.length_nil, Nat.reduceAdd, Nat.reduceLeDiff, true_and, decide_true, decide_false, Bool.not_true, Bool.not_false, o_mul_u, o_div_u, o_mod_u, o_pow_u, o_eqS, o_neS, o_intB, o_lenS, o_lenO, o_lenB, o_iaddI, S_s1, kS1_, kS1b_, S_lm, kLm_bor, kLm_own, kLmb_, S_tab, o_ixT, o_ixS, S_put, kPut_, kPutK_, S_zip2, kZip_, kZipb_tup, o_sum, o_sumB, o_tupB, o_tupL, o_lenT, S_range1, kRng_3, S_tgtL, kTgtL_, List.nil_append, List.cons_append, Nat.reduceLT, SZ, forall_const, true_implies]
    exact q
theorem plain_all {n : Nat} : ∀ {ds : List D}, (∀ d ∈ ds, plainN n d = true) → plainL n ds = true
  | [], _ => rfl
  | d :: ds, h => by
    show (plainN n d && plainL n ds) = true
    rw [h d List.mem_cons_self, plain_all fun x hx => h x (List.mem_cons_of_mem _ hx)]
    rfl
theorem plain_tup {n : Nat} {ds : List D} (h : ∀ d ∈ ds, plainN n d = true) (hl : ds.length ≤ 1000) : plainN (n + 1) (.tup ds) = true := by
  show (plainL n ds && decide (ds.length ≤ SZ)) = true
  rw [plain_all h, decide_eq_true (by show _ ≤ 16777216; omega)]
  rfl
theorem due_plain {vs : List V3} (hl : vs.length ≤ 1000) : plainN 9 (dueD vs) = true := by
  have f1 : ∀ p : V3 → Bool, (vs.filter p).length ≤ 1000 := fun p => Nat.le_trans (List.length_filter_le _ _) hl
  refine plain_tup (n := 8) (fun d hd => ?_) (by simp)
  simp only [List.mem_cons, List.not_mem_nil, or_false] at hd
  rcases hd with rfl | rfl
  · refine plain_tup (n := 7) (fun d hd => ?_) (by rw [List.length_map]; exact f1 _)
    obtain ⟨v, _, rfl⟩ := List.mem_map.mp hd
    rfl
  · refine plain_tup (n := 7) (fun d hd => ?_) (by rw [List.length_map]; exact f1 _)
    obtain ⟨v, _, rfl⟩ := List.mem_map.mp hd
    rfl
theorem S_right {n : Nat} {vs : List V3} (h : Shp 600 n vs) (hn : n ≤ 1000) (q : Q (.dat (.bl true)) s) : Sat (F__law_same 10 [dueD vs, dueD vs] s) Q := by
  rw [e_same]
  exact S_due (n := 9) (due_plain (Nat.le_trans h.le hn)) q
end
theorem frac01 : frac 0 1 = (0, 1) := by simp [frac]
theorem dueW : dueD [(0, 0, 1), (1, 0, 0), (0, 1, 0)] = .tup [.tup [.tup [.tup [.int 0, .int 1], .tup [.int 0, .int 1]]], .tup [.tup [.int 0, .int 1], .tup [.int 1, .int 0]]] := by
  simp [dueD, ptD, wyD, frac01, fr]
theorem shpW : Shp 600 3 [(0, 0, 1), (1, 0, 0), (0, 1, 0)] := by
  refine ⟨by decide, by decide, fun v hv => ?_⟩
  simp only [List.mem_cons, List.not_mem_nil, or_false] at hv
  have one : (1 : Nat) < 2 ^ 600 := by decide
  have zer : (0 : Nat) < 2 ^ 600 := by decide
  rcases hv with rfl | rfl | rfl
  · exact ⟨⟨by decide, by decide, by decide, by decide⟩, ⟨zer, zer, one⟩⟩
  · exact ⟨⟨by decide, by decide, by decide, by decide⟩, ⟨one, zer, zer⟩⟩
  · exact ⟨⟨by decide, by decide, by decide, by decide⟩, ⟨zer, one, zer⟩⟩
theorem law_pure (s : LS) (hs : s.Ok) (hc : s.cnt = 0) : ∃ g', m_law (.un :: .dat (.ref s.a) :: List.replicate 3 .un) s = .ok (.rt (.dat (.bl true))) g' := by
  have fin : Sat (m_law (.un :: .dat (.ref s.a) :: List.replicate 3 .un) s) fun f _ => f = .rt (.dat (.bl true)) := by
    have h0 : Bud s.a 100 s := ⟨hs, rfl, by omega⟩
    generalize hA : s.a = a at *
    show Sat (m_law [.un, .dat (.ref a), .un, .un, .un] s) _
    unfold m_law
    simp only [S_var, S_C, S_op1, k1_, S_op2, k2_, k2b_, S_nil, S_cons, kc_, kcb_, S_opN, kN_, S_tup, S_lst, kT_u, kL_u, stoL_nil, stoL_dat, stoL_own, consO_some, SatO_some, S_call, kCall_u, S_if, S_ifS, kI_true, kI_false, S_andV, S_orV, kAndV_true, kAndV_false, kOrV_true, kOrV_false, S_test, kTest_, S_tru, kTru_, S_and, S_or, S_not, kAnd_true, kAnd_false, kOr_true, kOr_false, kNot_, S_seq, kS_nx, kS_rt, kS_bk, kS_ct, S_pass, S_set, kSet_dat, kSet_own, S_par, kP_, kPb_, S_ret', kR_, S_retN, S_break, S_cont, S_for, kF_, S_forNil, kFb_nx, kFb_ct, kFb_bk, kFb_rt, S_items, kItems_tup, kItems_lst, kItems_own, S_lc, kLc_, S_lcNil, S_yes, kD_rt, kD_nx, Rv.ret, gt, st, kVar_dat, kVar_own, o_add, o_sub, o_eq, o_ne, o_lt, o_le, o_gt, o_ge, o_eqB, o_neB, o_is2, o_isnot2, o_abs, o_ix, o_ixO, o_ixB, o_ixL, o_tupO, o_isBool, map_some', wp, tgN_, List.length_cons, List.length_nil, Nat.reduceAdd, Nat.reduceLeDiff, true_and, decide_true, decide_false, Bool.not_true, Bool.not_false, o_mul_u, o_div_u, o_mod_u, o_pow_u, o_eqS, o_neS, o_intB, o_lenS, o_lenO, o_lenB, o_iaddI, S_s1, kS1_, kS1b_, S_lm, kLm_bor, kLm_own, kLmb_, S_tab, o_ixT, o_ixS, S_put, kPut_, kPutK_, S_zip2, kZip_, kZipb_tup, o_sum, o_sumB, o_tupB, o_tupL, o_lenT, S_range1, kRng_3, S_tgtL, kTgtL_, List.nil_append, List.cons_append, Nat.reduceLT, SZ, forall_const, true_implies]
    refine S_shape (b := 50) h0 fun vs s1 hv h1 => ?_
    simp only [S_var, S_C, S_op1, k1_, S_op2, k2_, k2b_, S_nil, S_cons, kc_, kcb_, S_opN, kN_, S_tup, S_lst, kT_u, kL_u, stoL_nil, stoL_dat, stoL_own, consO_some, SatO_some, S_call, kCall_u, S_if, S_ifS, kI_true, kI_false, S_andV, S_orV, kAndV_true, kAndV_false, kOrV_true, kOrV_false, S_test, kTest_, S_tru, kTru_, S_and, S_or, S_not, kAnd_true, kAnd_false, kOr_true, kOr_false, kNot_, S_seq, kS_nx, kS_rt, kS_bk, kS_ct, S_pass, S_set, kSet_dat, kSet_own, S_par, kP_, kPb_, S_ret', kR_, S_retN, S_break, S_cont, S_for, kF_, S_forNil, kFb_nx, kFb_ct, kFb_bk, kFb_rt, S_items, kItems_tup, kItems_lst, kItems_own, S_lc, kLc_, S_lcNil, S_yes, kD_rt, kD_nx, Rv.ret, gt, st, kVar_dat, kVar_own, o_add, o_sub, o_eq, o_ne, o_lt, o_le, o_gt, o_ge, o_eqB, o_neB, o_is2, o_isnot2, o_abs, o_ix, o_ixO, o_ixB, o_ixL, o_tupO, o_isBool, map_some', wp, tgN_, List.length_cons, List.length_nil, Nat.reduceAdd, Nat.reduceLeDiff, true_and, decide_true, decide_false, Bool.not_true, Bool.not_false, o_mul_u, o_div_u, o_mod_u, o_pow_u, o_eqS, o_neS, o_intB, o_lenS, o_lenO, o_lenB, o_iaddI, S_s1, kS1_, kS1b_, S_lm, kLm_bor, kLm_own, kLmb_, S_tab, o_ixT, o_ixS, S_put, kPut_, kPutK_, S_zip2, kZip_, kZipb_tup, o_sum, o_sumB, o_tupB, o_tupL, o_lenT, S_range1, kRng_3, S_tgtL, kTgtL_, List.nil_append, List.cons_append, Nat.reduceLT, SZ, forall_const, true_implies]
    refine S_shape (b := 0) h1 fun us s2 hu h2 => ?_
    simp only [S_var, S_C, S_op1, k1_, S_op2, k2_, k2b_, S_nil, S_cons, kc_, kcb_, S_opN, kN_, S_tup, S_lst, kT_u, kL_u, stoL_nil, stoL_dat, stoL_own, consO_some, SatO_some, S_call, kCall_u, S_if, S_ifS, kI_true, kI_false, S_andV, S_orV, kAndV_true, kAndV_false, kOrV_true, kOrV_false, S_test, kTest_, S_tru, kTru_, S_and, S_or, S_not, kAnd_true, kAnd_false, kOr_true, kOr_false, kNot_, S_seq, kS_nx, kS_rt, kS_bk, kS_ct, S_pass, S_set, kSet_dat, kSet_own, S_par, kP_, kPb_, S_ret', kR_, S_retN, S_break, S_cont, S_for, kF_, S_forNil, kFb_nx, kFb_ct, kFb_bk, kFb_rt, S_items, kItems_tup, kItems_lst, kItems_own, S_lc, kLc_, S_lcNil, S_yes, kD_rt, kD_nx, Rv.ret, gt, st, kVar_dat, kVar_own, o_add, o_sub, o_eq, o_ne, o_lt, o_le, o_gt, o_ge, o_eqB, o_neB, o_is2, o_isnot2, o_abs, o_ix, o_ixO, o_ixB, o_ixL, o_tupO, o_isBool, map_some', wp, tgN_, List.length_cons, List.length_nil, Nat.reduceAdd, Nat.reduceLeDiff, true_and, decide_true, decide_false, Bool.not_true, Bool.not_false, o_mul_u, o_div_u, o_mod_u, o_pow_u, o_eqS, o_neS, o_intB, o_lenS, o_lenO, o_lenB, o_iaddI, S_s1, kS1_, kS1b_, S_lm, kLm_bor, kLm_own, kLmb_, S_tab, o_ixT, o_ixS, S_put, kPut_, kPutK_, S_zip2, kZip_, kZipb_tup, o_sum, o_sumB, o_tupB, o_tupL, o_lenT, S_range1, kRng_3, S_tgtL, kTgtL_, List.nil_append, List.cons_append, Nat.reduceLT, SZ, forall_const, true_implies]
    have e3 : [shp vs, shp us, shp vs] = [vs, us, vs].map shp := rfl
    rw [e3]
    refine S_forA [vs, us, vs] shp (fun pre post e g => ∃ x4 : Sl, e = [.un, .dat (.ref a), .dat (shp vs), .dat (shp us), x4]) ⟨_, rfl⟩ ?_ ?_
    · rintro pre ws post e g hr ⟨x4, rfl⟩
      refine ⟨_, rfl, ?_⟩
      have hw : Shp 600 200 ws := by
        have : ws ∈ [vs, us, vs] := by rw [hr]; simp
        simp only [List.mem_cons, List.not_mem_nil, or_false] at this
        rcases this with rfl | rfl | rfl <;> assumption
      simp only [S_var, S_C, S_op1, k1_, S_op2, k2_, k2b_, S_nil, S_cons, kc_, kcb_, S_opN, kN_, S_tup, S_lst, kT_u, kL_u, stoL_nil, stoL_dat, stoL_own, consO_some, SatO_some, S_call, kCall_u, S_if, S_ifS, kI_true, kI_false, S_andV, S_orV, kAndV_true, kAndV_false, kOrV_true, kOrV_false, S_test, kTest_, S_tru, kTru_, S_and, S_or, S_not, kAnd_true, kAnd_false, kOr_true, kOr_false, kNot_, S_seq, kS_nx, kS_rt, kS_bk, kS_ct, S_pass, S_set, kSet_dat, kSet_own, S_par, kP_, kPb_, S_ret', kR_, S_retN, S_break, S_cont, S_for, kF_, S_forNil, kFb_nx, kFb_ct, kFb_bk, kFb_rt, S_items, kItems_tup, kItems_lst, kItems_own, S_lc, kLc_, S_lcNil, S_yes, kD_rt, kD_nx, Rv.ret, gt, st, kVar_dat, kVar_own, o_add, o_sub, o_eq, o_ne, o_lt, o_le, o_gt, o_ge, o_eqB, o_neB, o_is2, o_isnot2, o_abs, o_ix, o_ixO, o_ixB, o_ixL, o_tupO, o_isBool, map_some', wp, tgN_, List.length_cons, List.length_nil, Nat.reduceAdd, Nat.reduceLeDiff, true_and, decide_true, decide_false, Bool.not_true, Bool.not_false, o_mul_u, o_div_u, o_mod_u, o_pow_u, o_eqS, o_neS, o_intB, o_lenS, o_lenO, o_lenB, o_iaddI, S_s1, kS1_, kS1b_, S_lm, kLm_bor, kLm_own, kLmb_, S_tab, o_ixT, o_ixS, S_put, kPut_, kPutK_, S_zip2, kZip_, kZipb_tup, o_sum, o_sumB, o_tupB, o_tupL, o_lenT, S_range1, kRng_3, S_tgtL, kTgtL_, List.nil_append, List.cons_append, Nat.reduceLT, SZ, forall_const, true_implies]
      rw [told_eq hw (by decide), Sat_ok]
      simp only [S_var, S_C, S_op1, k1_, S_op2, k2_, k2b_, S_nil, S_cons, kc_, kcb_, S_opN, kN_, S_tup, S_lst, kT_u, kL_u, stoL_nil, stoL_dat, stoL_own, consO_some, SatO_some, S_call, kCall_u, S_if, S_ifS, kI_true, kI_false, S_andV, S_orV, kAndV_true, kAndV_false, kOrV_true, kOrV_false, S_test, kTest_, S_tru, kTru_, S_and, S_or, S_not, kAnd_true, kAnd_false, kOr_true, kOr_false, kNot_, S_seq, kS_nx, kS_rt, kS_bk, kS_ct, S_pass, S_set, kSet_dat, kSet_own, S_par, kP_, kPb_, S_ret', kR_, S_retN, S_break, S_cont, S_for, kF_, S_forNil, kFb_nx, kFb_ct, kFb_bk, kFb_rt, S_items, kItems_tup, kItems_lst, kItems_own, S_lc, kLc_, S_lcNil, S_yes, kD_rt, kD_nx, Rv.ret, gt, st, kVar_dat, kVar_own, o_add, o_sub, o_eq, o_ne, o_lt, o_le, o_gt, o_ge, o_eqB, o_neB, o_is2, o_isnot2, o_abs, o_ix, o_ixO, o_ixB, o_ixL, o_tupO, o_isBool, map_some', wp, tgN_, List.length_cons, List.length_nil, Nat.reduceAdd, Nat.reduceLeDiff, true_and, decide_true, decide_false, Bool.not_true, Bool.not_false, o_mul_u, o_div_u, o_mod_u, o_pow_u, o_eqS, o_neS, o_intB, o_lenS, o_lenO, o_lenB, o_iaddI, S_s1, kS1_, kS1b_, S_lm, kLm_bor, kLm_own, kLmb_, S_tab, o_ixT, o_ixS, S_put, kPut_, kPutK_, S_zip2, kZip_, kZipb_tup, o_sum, o_sumB, o_tupB, o_tupL, o_lenT, S_range1, kRng_3, S_tgtL, kTgtL_, List.nil_append, List.cons_append, Nat.reduceLT, SZ, forall_const, true_implies]
      rw [due_eq hw (by decide), Sat_ok]
      simp only [S_var, S_C, S_op1, k1_, S_op2, k2_, k2b_, S_nil, S_cons, kc_, kcb_, S_opN, kN_, S_tup, S_lst, kT_u, kL_u, stoL_nil, stoL_dat, stoL_own, consO_some, SatO_some, S_call, kCall_u, S_if, S_ifS, kI_true, kI_false, S_andV, S_orV, kAndV_true, kAndV_false, kOrV_true, kOrV_false, S_test, kTest_, S_tru, kTru_, S_and, S_or, S_not, kAnd_true, kAnd_false, kOr_true, kOr_false, kNot_, S_seq, kS_nx, kS_rt, kS_bk, kS_ct, S_pass, S_set, kSet_dat, kSet_own, S_par, kP_, kPb_, S_ret', kR_, S_retN, S_break, S_cont, S_for, kF_, S_forNil, kFb_nx, kFb_ct, kFb_bk, kFb_rt, S_items, kItems_tup, kItems_lst, kItems_own, S_lc, kLc_, S_lcNil, S_yes, kD_rt, kD_nx, Rv.ret, gt, st, kVar_dat, kVar_own, o_add, o_sub, o_eq, o_ne, o_lt, o_le, o_gt, o_ge, o_eqB, o_neB, o_is2, o_isnot2, o_abs, o_ix, o_ixO, o_ixB, o_ixL, o_tupO, o_isBool, map_some', wp, tgN_, List.length_cons, List.length_nil, Nat.reduceAdd, Nat.reduceLeDiff, true_and, decide_true, decide_false, Bool.not_true, Bool.not_false, o_mul_u, o_div_u, o_mod_u, o_pow_u, o_eqS, o_neS, o_intB, o_lenS, o_lenO, o_lenB, o_iaddI, S_s1, kS1_, kS1b_, S_lm, kLm_bor, kLm_own, kLmb_, S_tab, o_ixT, o_ixS, S_put, kPut_, kPutK_, S_zip2, kZip_, kZipb_tup, o_sum, o_sumB, o_tupB, o_tupL, o_lenT, S_range1, kRng_3, S_tgtL, kTgtL_, List.nil_append, List.cons_append, Nat.reduceLT, SZ, forall_const, true_implies]
      refine S_right hw (by decide) ?_
      simp only [S_var, S_C, S_op1, k1_, S_op2, k2_, k2b_, S_nil, S_cons, kc_, kcb_, S_opN, kN_, S_tup, S_lst, kT_u, kL_u, stoL_nil, stoL_dat, stoL_own, consO_some, SatO_some, S_call, kCall_u, S_if, S_ifS, kI_true, kI_false, S_andV, S_orV, kAndV_true, kAndV_false, kOrV_true, kOrV_false, S_test, kTest_, S_tru, kTru_, S_and, S_or, S_not, kAnd_true, kAnd_false, kOr_true, kOr_false, kNot_, S_seq, kS_nx, kS_rt, kS_bk, kS_ct, S_pass, S_set, kSet_dat, kSet_own, S_par, kP_, kPb_, S_ret', kR_, S_retN, S_break, S_cont, S_for, kF_, S_forNil, kFb_nx, kFb_ct, kFb_bk, kFb_rt, S_items, kItems_tup, kItems_lst, kItems_own, S_lc, kLc_, S_lcNil, S_yes, kD_rt, kD_nx, Rv.ret, gt, st, kVar_dat, kVar_own, o_add, o_sub, o_eq, o_ne, o_lt, o_le, o_gt, o_ge, o_eqB, o_neB, o_is2, o_isnot2, o_abs, o_ix, o_ixO, o_ixB, o_ixL, o_tupO, o_isBool, map_some', wp, tgN_, List.length_cons, List.length_nil, Nat.reduceAdd, Nat.reduceLeDiff, true_and, decide_true, decide_false, Bool.not_true, Bool.not_false, o_mul_u, o_div_u, o_mod_u, o_pow_u, o_eqS, o_neS, o_intB, o_lenS, o_lenO, o_lenB, o_iaddI, S_s1, kS1_, kS1b_, S_lm, kLm_bor, kLm_own, kLmb_, S_tab, o_ixT, o_ixS, S_put, kPut_, kPutK_, S_zip2, kZip_, kZipb_tup, o_sum, o_sumB, o_tupB, o_tupL, o_lenT, S_range1, kRng_3, S_tgtL, kTgtL_, List.nil_append, List.cons_append, Nat.reduceLT, SZ, forall_const, true_implies]
      exact ⟨_, rfl⟩
    · rintro e g ⟨x4, rfl⟩
      simp only [S_var, S_C, S_op1, k1_, S_op2, k2_, k2b_, S_nil, S_cons, kc_, kcb_, S_opN, kN_, S_tup, S_lst, kT_u, kL_u, stoL_nil, stoL_dat, stoL_own, consO_some, SatO_some, S_call, kCall_u, S_if, S_ifS, kI_true, kI_false, S_andV, S_orV, kAndV_true, kAndV_false, kOrV_true, kOrV_false, S_test, kTest_, S_tru, kTru_, S_and, S_or, S_not, kAnd_true, kAnd_false, kOr_true, kOr_false, kNot_, S_seq, kS_nx, kS_rt, kS_bk, kS_ct, S_pass, S_set, kSet_dat, kSet_own, S_par, kP_, kPb_, S_ret', kR_, S_retN, S_break, S_cont, S_for, kF_, S_forNil, kFb_nx, kFb_ct, kFb_bk, kFb_rt, S_items, kItems_tup, kItems_lst, kItems_own, S_lc, kLc_, S_lcNil, S_yes, kD_rt, kD_nx, Rv.ret, gt, st, kVar_dat, kVar_own, o_add, o_sub, o_eq, o_ne, o_lt, o_le, o_gt, o_ge, o_eqB, o_neB, o_is2, o_isnot2, o_abs, o_ix, o_ixO, o_ixB, o_ixL, o_tupO, o_isBool, map_some', wp, tgN_, List.length_cons, List.length_nil, Nat.reduceAdd, Nat.reduceLeDiff, true_and, decide_true, decide_false, Bool.not_true, Bool.not_false, o_mul_u, o_div_u, o_mod_u, o_pow_u, o_eqS, o_neS, o_intB, o_lenS, o_lenO, o_lenB, o_iaddI, S_s1, kS1_, kS1b_, S_lm, kLm_bor, kLm_own, kLmb_, S_tab, o_ixT, o_ixS, S_put, kPut_, kPutK_, S_zip2, kZip_, kZipb_tup, o_sum, o_sumB, o_tupB, o_tupL, o_lenT, S_range1, kRng_3, S_tgtL, kTgtL_, List.nil_append, List.cons_append, Nat.reduceLT, SZ, forall_const, true_implies]
      have ew := told_eq (s := g) shpW (by decide)
      rw [show F_corners_by_one [.tup [.tup [.int 0, .int 0, .int 1], .tup [.int 1, .int 0, .int 0], .tup [.int 0, .int 1, .int 0]]] g = _ from ew, Sat_ok]
      simp only [S_var, S_C, S_op1, k1_, S_op2, k2_, k2b_, S_nil, S_cons, kc_, kcb_, S_opN, kN_, S_tup, S_lst, kT_u, kL_u, stoL_nil, stoL_dat, stoL_own, consO_some, SatO_some, S_call, kCall_u, S_if, S_ifS, kI_true, kI_false, S_andV, S_orV, kAndV_true, kAndV_false, kOrV_true, kOrV_false, S_test, kTest_, S_tru, kTru_, S_and, S_or, S_not, kAnd_true, kAnd_false, kOr_true, kOr_false, kNot_, S_seq, kS_nx, kS_rt, kS_bk, kS_ct, S_pass, S_set, kSet_dat, kSet_own, S_par, kP_, kPb_, S_ret', kR_, S_retN, S_break, S_cont, S_for, kF_, S_forNil, kFb_nx, kFb_ct, kFb_bk, kFb_rt, S_items, kItems_tup, kItems_lst, kItems_own, S_lc, kLc_, S_lcNil, S_yes, kD_rt, kD_nx, Rv.ret, gt, st, kVar_dat, kVar_own, o_add, o_sub, o_eq, o_ne, o_lt, o_le, o_gt, o_ge, o_eqB, o_neB, o_is2, o_isnot2, o_abs, o_ix, o_ixO, o_ixB, o_ixL, o_tupO, o_isBool, map_some', wp, tgN_, List.length_cons, List.length_nil, Nat.reduceAdd, Nat.reduceLeDiff, true_and, decide_true, decide_false, Bool.not_true, Bool.not_false, o_mul_u, o_div_u, o_mod_u, o_pow_u, o_eqS, o_neS, o_intB, o_lenS, o_lenO, o_lenB, o_iaddI, S_s1, kS1_, kS1b_, S_lm, kLm_bor, kLm_own, kLmb_, S_tab, o_ixT, o_ixS, S_put, kPut_, kPutK_, S_zip2, kZip_, kZipb_tup, o_sum, o_sumB, o_tupB, o_tupL, o_lenT, S_range1, kRng_3, S_tgtL, kTgtL_, List.nil_append, List.cons_append, Nat.reduceLT, SZ, forall_const, true_implies]
      rw [← dueW]
      exact S_right shpW (by decide) rfl
  obtain ⟨f, g, e, h⟩ := fin.get
  exact ⟨g, by rw [e, h]⟩
end G_k60

set_option Elab.async false
set_option linter.all false
set_option maxRecDepth 100000
set_option maxHeartbeats 0
namespace G_k60
open PySem PySem.Spec PyProof.Rows L2 PB
def topS (i : Nat) : Stmt := PySem.Challenge.pw_pricebend_k60_points_and_ways.main.body.getD i (.Pass ⟨0, 0, 0, 0⟩)
abbrev s__law_start : Stmt := topS 15
abbrev s__law_mix : Stmt := topS 17
abbrev s__law_draw : Stmt := topS 16
abbrev s__law_ring : Stmt := topS 22
abbrev s__law_shared : Stmt := topS 19
abbrev s__law_lowest : Stmt := topS 20
abbrev s__law_cut : Stmt := topS 21
abbrev s__law_shape : Stmt := topS 23
abbrev s__law_same : Stmt := topS 18
abbrev s_shared : Stmt := topS 5
abbrev s_lowest : Stmt := topS 6
abbrev s_fraction_of : Stmt := topS 8
abbrev s_by_one : Stmt := topS 10
abbrev s_corners_by_one : Stmt := topS 12
abbrev s__law_due : Stmt := topS 24
abbrev s_law : Stmt := topS 25
theorem sc__law_start : FnScope ["_law_script", "_law_great", "_law_cell"] ["_law_script"] (defScope s__law_start) := ⟨rfl, rfl, rfl, by decide +kernel, rfl, by decide +kernel, by decide +kernel⟩
theorem sc__law_mix : FnScope ["_law_state", "_law_count", "_law_cell", "_law_one"] ["_law_state"] (defScope s__law_mix) := ⟨rfl, rfl, rfl, by decide +kernel, rfl, by decide +kernel, by decide +kernel⟩
theorem sc__law_draw : FnScope ["_law_state", "_law_many", "_law_told", "_law_size"] ["_law_state", "_law_many"] (defScope s__law_draw) := ⟨rfl, rfl, rfl, by decide +kernel, rfl, by decide +kernel, by decide +kernel⟩
theorem sc__law_ring : FnScope ["_law_state", "_law_found", "_law_at", "_law_k"] ["_law_state"] (defScope s__law_ring) := ⟨rfl, rfl, rfl, by decide +kernel, rfl, by decide +kernel, by decide +kernel⟩
theorem sc__law_shared : FnScope ["_law_one", "_law_other"] ["_law_one", "_law_other"] (defScope s__law_shared) := ⟨rfl, rfl, rfl, by decide +kernel, rfl, by decide +kernel, by decide +kernel⟩
theorem sc__law_lowest : FnScope ["_law_numbers", "_law_by", "_law_number"] ["_law_numbers"] (defScope s__law_lowest) := ⟨rfl, rfl, rfl, by decide +kernel, rfl, by decide +kernel, by decide +kernel⟩
theorem sc__law_cut : FnScope ["_law_shape_here", "_law_side", "_law_worths", "_law_kept", "_law_k", "_law_one", "_law_two", "_law_at", "_law_corner", "_law_a", "_law_b"] ["_law_shape_here", "_law_side"] (defScope s__law_cut) := ⟨rfl, rfl, rfl, by decide +kernel, rfl, by decide +kernel, by decide +kernel⟩
theorem sc__law_shape : FnScope ["_law_state", "_law_bent", "_law_many", "_law_size", "_law_shape_here", "_law_k", "_law_j"] ["_law_state"] (defScope s__law_shape) := ⟨rfl, rfl, rfl, by decide +kernel, rfl, by decide +kernel, by decide +kernel⟩
theorem sc__law_same : FnScope ["_law_found", "_law_due_here", "_law_one", "_law_other"] ["_law_found", "_law_due_here"] (defScope s__law_same) := ⟨rfl, rfl, rfl, by decide +kernel, rfl, by decide +kernel, by decide +kernel⟩
theorem sc_shared : FnScope ["one", "other"] ["one", "other"] (defScope s_shared) := ⟨rfl, rfl, rfl, by decide +kernel, rfl, by decide +kernel, by decide +kernel⟩
theorem sc_lowest : FnScope ["numbers", "by", "number"] ["numbers"] (defScope s_lowest) := ⟨rfl, rfl, rfl, by decide +kernel, rfl, by decide +kernel, by decide +kernel⟩
theorem sc_fraction_of : FnScope ["top", "bottom"] ["top", "bottom"] (defScope s_fraction_of) := ⟨rfl, rfl, rfl, by decide +kernel, rfl, by decide +kernel, by decide +kernel⟩
theorem sc_by_one : FnScope ["p"] ["p"] (defScope s_by_one) := ⟨rfl, rfl, rfl, by decide +kernel, rfl, by decide +kernel, by decide +kernel⟩
theorem sc_corners_by_one : FnScope ["shape", "points", "ways", "corner"] ["shape"] (defScope s_corners_by_one) := ⟨rfl, rfl, rfl, by decide +kernel, rfl, by decide +kernel, by decide +kernel⟩
theorem sc__law_due : FnScope ["_law_shape_here", "_law_points", "_law_ways", "_law_o", "_law_s", "_law_t"] ["_law_shape_here"] (defScope s__law_due) := ⟨rfl, rfl, rfl, by decide +kernel, rfl, by decide +kernel, by decide +kernel⟩
theorem sc_law : FnScope ["_law_script", "_law_state", "_law_one", "_law_other", "_law_shape_here"] ["_law_script"] (defScope s_law) := ⟨rfl, rfl, rfl, by decide +kernel, rfl, by decide +kernel, by decide +kernel⟩
structure Txt (K : Frag) (mg : Str → Option Value) (w : World) where
  a__law_start : Addr
  d__law_start : FuncData
  c__law_start : Cal K mg "_law_start" s__law_start ["_law_script"] a__law_start d__law_start
  a__law_mix : Addr
  d__law_mix : FuncData
  c__law_mix : Cal K mg "_law_mix" s__law_mix ["_law_state"] a__law_mix d__law_mix
  a__law_draw : Addr
  d__law_draw : FuncData
  c__law_draw : Cal K mg "_law_draw" s__law_draw ["_law_state", "_law_many"] a__law_draw d__law_draw
  a__law_ring : Addr
  d__law_ring : FuncData
  c__law_ring : Cal K mg "_law_ring" s__law_ring ["_law_state"] a__law_ring d__law_ring
  a__law_shared : Addr
  d__law_shared : FuncData
  c__law_shared : Cal K mg "_law_shared" s__law_shared ["_law_one", "_law_other"] a__law_shared d__law_shared
  a__law_lowest : Addr
  d__law_lowest : FuncData
  c__law_lowest : Cal K mg "_law_lowest" s__law_lowest ["_law_numbers"] a__law_lowest d__law_lowest
  a__law_cut : Addr
  d__law_cut : FuncData
  c__law_cut : Cal K mg "_law_cut" s__law_cut ["_law_shape_here", "_law_side"] a__law_cut d__law_cut
  a__law_shape : Addr
  d__law_shape : FuncData
  c__law_shape : Cal K mg "_law_shape" s__law_shape ["_law_state"] a__law_shape d__law_shape
  a__law_same : Addr
  d__law_same : FuncData
  c__law_same : Cal K mg "_law_same" s__law_same ["_law_found", "_law_due_here"] a__law_same d__law_same
  a_shared : Addr
  d_shared : FuncData
  c_shared : Cal K mg "shared" s_shared ["one", "other"] a_shared d_shared
  a_lowest : Addr
  d_lowest : FuncData
  c_lowest : Cal K mg "lowest" s_lowest ["numbers"] a_lowest d_lowest
  a_fraction_of : Addr
  d_fraction_of : FuncData
  c_fraction_of : CalD K mg "fraction_of" s_fraction_of ["top", "bottom"] [.int 1] a_fraction_of d_fraction_of
  a_by_one : Addr
  d_by_one : FuncData
  c_by_one : Cal K mg "by_one" s_by_one ["p"] a_by_one d_by_one
  a_corners_by_one : Addr
  d_corners_by_one : FuncData
  c_corners_by_one : Cal K mg "corners_by_one" s_corners_by_one ["shape"] a_corners_by_one d_corners_by_one
  a__law_due : Addr
  d__law_due : FuncData
  c__law_due : Cal K mg "_law_due" s__law_due ["_law_shape_here"] a__law_due d__law_due
  z_abs : mg "abs" = none
  z_all : mg "all" = none
  z_bool : mg "bool" = none
  z_int : mg "int" = none
  z_isinstance : mg "isinstance" = none
  z_len : mg "len" = none
  z_max : mg "max" = none
  z_min : mg "min" = none
  z_range : mg "range" = none
  z_str : mg "str" = none
  z_sum : mg "sum" = none
  z_tuple : mg "tuple" = none
  z_zip : mg "zip" = none
  k_WHOLE : ConAt K mg "WHOLE" (.tup [(.tup [(.int 0), (.int 0), (.int 1)]), (.tup [(.int 1), (.int 0), (.int 0)]), (.tup [(.int 0), (.int 1), (.int 0)])])
section
variable {P : Program} {w : World} {K : Frag} {mg : Str → Option Value} {base : Heap}
abbrev xa0 : Addr × Value × Option Addr := (0, .none, none)
theorem ok__law_start (T : Txt K mg w) : FnOk P w K mg base CX0 1 T.a__law_start T.d__law_start ["_law_script"] (spStart K) := by
  refine T.c__law_start.F.fun.ok sc__law_start (fun vs H Q E h => ?_) (fun cdv A outer s H vs Q E hr h => ?_)
  · obtain ⟨a, ns, rfl, _⟩ := h
    rfl
  · obtain ⟨a, ns, rfl, hS, hl, q⟩ := h
    refine ⟨_, pss_cons (ps_setLc (i := 1) (own := [("_law_cell", 2)]) (g := gName 2) rfl sc__law_start.nd rfl rfl (sw_true rfl rfl rfl (by decide +kernel)) (pi_list (pv 0)) (blkOk_by (own := [("_law_cell", 2)]) (by rfl)) (fun _ _ _ _ _ => pg_name (i := 2) sc__law_start.nd rfl (Or.inl rfl)) (fun _ _ _ _ _ => pts_one (pt_cmpR or_ge (pv 2) (pe_op op_pow pe_int pe_int) (nomark _))) (fun _ _ _ _ _ => pv 2))
      (pss_one (ps_ret (pe_lst (pa_cons (pv 1) (pa_cons pe_int (pa_cons (pe_lc (own := [("_law_cell", 2)]) (g := gName 2) (tt := tYes) rfl sc__law_start.nd (pi_list (pv 0)) (blkOk_by (own := [("_law_cell", 2)]) (by rfl)) (fun _ _ _ _ _ => pg_name (i := 2) sc__law_start.nd rfl (Or.inl rfl)) (fun _ _ _ _ _ => pts_nil) (fun _ _ _ _ _ => pe_op op_mod (pv 2) pe_int)) (pa_cons pe_int pa_nil))))))), ?_⟩
    refine ⟨_, rfl, a, rfl, ⟨_, hS⟩, fun g hg => lc_great (by exact (by decide : 2 < 3)) hg hS hl ?_⟩
    have hS2 : SqL K (upd H g (.lst ((ns.filter fun x => decide (10 ^ 18 ≤ x)).map V.int))) a (ns.map V.int) := Same.seq (upd_keep hg) hS
    refine ⟨_, rfl, _, rfl, a, rfl, ⟨_, hS2⟩, fun c hc => lc_cells (by exact (by decide : 2 < 3)) hc hS2 hl ?_⟩
    refine ⟨(by show 4 ≤ sizeLine; rw [sizeLine_eq]; decide), fun p hp => ?_⟩
    obtain ⟨k1, k2, k3, k4, k5, k6, k7⟩ := ls_made hg hc hp
    exact q (p, g, c) _ _ k1 k2 k3 k4 k5 k6 k7
theorem ok__law_mix (T : Txt K mg w) : FnOk P w K mg base CX0 1 T.a__law_mix T.d__law_mix ["_law_state"] (spOf K lsG 1 (F__law_mix)) :=
  fn_pb2 (Tx := exT K) (xa := xa0) (m__law_mix) 4 1 T.c__law_mix.F sc__law_mix rfl rfl (by decide) fun i cdv A outer s H E hr => (pb_scons (pb_incC 0 rfl)
    (pb_scons (pb_set (i := 1) sc__law_mix.nd rfl (by first | exact Or.inl rfl | exact Or.inr rfl) (pb_cnt 0 rfl))
    (pb_scons (pb_set (i := 2) sc__law_mix.nd rfl (by first | exact Or.inl rfl | exact Or.inr rfl) pb_int)
    (pb_scons (pb_sif (pb_hasC 0 rfl) (pb_sone (pb_set (i := 2) sc__law_mix.nd rfl (by first | exact Or.inl rfl | exact Or.inr rfl) (pb_atC 0 rfl (pb_op op_mod os_mod (pb_var 1) (pb_lenC 0 rfl (by rfl) T.z_len)) (fun _ _ => rfl)))) pb_snil)
    (pb_scons (pb_set (i := 3) sc__law_mix.nd rfl (by first | exact Or.inl rfl | exact Or.inr rfl) (pb_op op_mod os_mod (pb_op op_pow os_pow (pb_op (or_add rfl) os_add (pb_op (or_add rfl) os_add (pb_op (or_add rfl) os_add (pb_var 2) (pb_op op_mulW os_mul (pb_op op_mulW os_mul pb_int (pb_var 1)) (pb_var 1))) (pb_op op_mulW os_mul pb_int (pb_var 1))) pb_int) pb_int) pb_int))
    (pb_sone (pb_ret (pb_op op_mod os_mod (pb_op (or_add rfl) os_add (pb_op op_mulW os_mul (pb_var 3) pb_int) (pb_op op_mulW os_mul pb_int (pb_var 1))) pb_int))))))))
theorem ok__law_draw (T : Txt K mg w) : FnOk P w K mg base CX0 2 T.a__law_draw T.d__law_draw ["_law_state", "_law_many"] (spOf K lsG 2 (F__law_draw)) :=
  fn_pb2 (Tx := exT K) (xa := xa0) (m__law_draw) 4 2 T.c__law_draw.F sc__law_draw rfl rfl (by decide) fun i cdv A outer s H E hr => (pb_scons (pb_sif (PW.pt (pb_and (pb_tcmp (or_eq rfl hr.units) os_eq (pb_told 0 rfl) pb_int (nm_Eq _)) (pb_and1 (pb_hasG 0 rfl)))) (pb_sone (pb_popG 0 rfl)) pb_snil)
    (pb_scons (pb_sif (pb_tcmp or_gt os_gt (pb_told 0 rfl) pb_int (nm_Gt _)) (pb_scons (pb_set (i := 2) sc__law_draw.nd rfl (by first | exact Or.inl rfl | exact Or.inr rfl) (pb_op op_mod os_mod (pb_told 0 rfl) (pb_var 1)))
    (pb_scons (pb_setTold 0 rfl (pb_op op_fdivW os_div (pb_told 0 rfl) (pb_var 1)))
    (pb_sone (pb_ret (pb_var 2))))) pb_snil)
    (pb_scons (pb_set (i := 2) sc__law_draw.nd rfl (by first | exact Or.inl rfl | exact Or.inr rfl) pb_int)
    (pb_scons (pb_set (i := 3) sc__law_draw.nd rfl (by first | exact Or.inl rfl | exact Or.inr rfl) pb_int)
    (pb_scons (pb_while 100 PassesOwn.never (pb_tcmp or_lt os_lt (pb_var 3) (pb_var 1) (nm_Lt _)) (pb_scons (pb_set (i := 2) sc__law_draw.nd rfl (by first | exact Or.inl rfl | exact Or.inr rfl) (pb_op (or_add rfl) os_add (pb_op op_mulW os_mul (pb_var 2) pb_int) (pb_call (F := F__law_mix) (ok__law_mix T) (hr.mono (by decide)) (by rfl) T.c__law_mix.g T.c__law_mix.F.kp T.c__law_mix.b (pb_cons (pb_var 0) pb_nil) (len_cons len_nil))))
    (pb_sone (pb_set (i := 3) sc__law_draw.nd rfl (by first | exact Or.inl rfl | exact Or.inr rfl) (pb_op op_mulW os_mul (pb_var 3) pb_int)))))
    (pb_sone (pb_ret (pb_op op_mod os_mod (pb_var 2) (pb_var 1)))))))))
theorem ok__law_ring (T : Txt K mg w) : FnOk P w K mg base CX0 3 T.a__law_ring T.d__law_ring ["_law_state"] (spOf K lsG 1 (F__law_ring)) :=
  fn_pb2 (Tx := exT K) (xa := xa0) (m__law_ring) 4 1 T.c__law_ring.F sc__law_ring rfl rfl (by decide) fun i cdv A outer s H E hr => (pb_scons (pb_set (i := 1) sc__law_ring.nd rfl (by first | exact Or.inl rfl | exact Or.inr rfl) (pb_lst pb_nil))
    (pb_scons (pb_set (i := 2) sc__law_ring.nd rfl (by first | exact Or.inl rfl | exact Or.inr rfl) (pb_call (F := F__law_draw) (ok__law_draw T) (hr.mono (by decide)) (by rfl) T.c__law_draw.g T.c__law_draw.F.kp T.c__law_draw.b (pb_cons (pb_var 0) (pb_cons pb_int pb_nil)) (len_cons (len_cons len_nil))))
    (pb_scons (pb_for PassesOwn.never rfl (pb_range1 (by rfl) T.z_range (pb_op (or_add rfl) os_add pb_int (pb_call (F := F__law_draw) (ok__law_draw T) (hr.mono (by decide)) (by rfl) T.c__law_draw.g T.c__law_draw.F.kp T.c__law_draw.b (pb_cons (pb_var 0) (pb_cons pb_int pb_nil)) (len_cons (len_cons len_nil))))) (pg_name (i := 3) sc__law_ring.nd rfl (by first | exact Or.inl rfl | exact Or.inr rfl)) (ts_name 3) (pb_scons (pb_app (i := 1) rfl rfl (pb_tup (pb_cons pb_int (pb_cons (pb_var 2) (pb_cons (pb_op op_mulW os_mul (pb_var 2) (pb_var 2)) pb_nil)))))
    (pb_sone (pb_aug (i := 2) ior_add os_iadd sc__law_ring.nd rfl (by first | exact Or.inl rfl | exact Or.inr rfl) (pb_op (or_add rfl) os_add pb_int (pb_call (F := F__law_draw) (ok__law_draw T) (hr.mono (by decide)) (by rfl) T.c__law_draw.g T.c__law_draw.F.kp T.c__law_draw.b (pb_cons (pb_var 0) (pb_cons pb_int pb_nil)) (len_cons (len_cons len_nil))))))))
    (pb_sone (pb_ret (pb_ct (cl_tuple rfl) os_tuple (by rfl) T.z_tuple (by decide +kernel) (pb_cons (pb_var 1) pb_nil)))))))
theorem ok__law_shared (T : Txt K mg w) : FnOk P w K mg base CX0 1 T.a__law_shared T.d__law_shared ["_law_one", "_law_other"] (spOf K lsG 2 (F__law_shared)) :=
  fn_pb2 (Tx := exT K) (xa := xa0) (m__law_shared) 2 2 T.c__law_shared.F sc__law_shared rfl rfl (by decide) fun i cdv A outer s H E hr => (pb_scons (pb_set (i := 0) sc__law_shared.nd rfl (by first | exact Or.inl rfl | exact Or.inr rfl) (pb_cb call_abs os_abs (by rfl) T.z_abs (by decide +kernel) (pb_cons (pb_var 0) pb_nil)))
    (pb_scons (pb_set (i := 1) sc__law_shared.nd rfl (by first | exact Or.inl rfl | exact Or.inr rfl) (pb_cb call_abs os_abs (by rfl) T.z_abs (by decide +kernel) (pb_cons (pb_var 1) pb_nil)))
    (pb_scons (pb_while 100000 PassesOwn.never (pb_tcmp or_gt os_gt (pb_var 1) pb_int (nm_Gt _)) (pb_sone (pb_par (i := 0) (j := 1) rfl sc__law_shared.nd rfl rfl (by decide) rfl rfl (pb_var 1) (pb_op op_mod os_mod (pb_var 0) (pb_var 1)))))
    (pb_sone (pb_ret (pb_var 0))))))
theorem ok__law_lowest (T : Txt K mg w) : FnOk P w K mg base CX0 2 T.a__law_lowest T.d__law_lowest ["_law_numbers"] (spOf K lsG 1 (F__law_lowest)) :=
  fn_pb2 (Tx := exT K) (xa := xa0) (m__law_lowest) 3 1 T.c__law_lowest.F sc__law_lowest rfl rfl (by decide) fun i cdv A outer s H E hr => (pb_scons (pb_set (i := 1) sc__law_lowest.nd rfl (by first | exact Or.inl rfl | exact Or.inr rfl) pb_int)
    (pb_scons (pb_for PassesOwn.never rfl (pb_items rfl (pb_var 0)) (pg_name (i := 2) sc__law_lowest.nd rfl (by first | exact Or.inl rfl | exact Or.inr rfl)) (ts_name 2) (pb_sone (pb_set (i := 1) sc__law_lowest.nd rfl (by first | exact Or.inl rfl | exact Or.inr rfl) (pb_call (F := F__law_shared) (ok__law_shared T) (hr.mono (by decide)) (by rfl) T.c__law_shared.g T.c__law_shared.F.kp T.c__law_shared.b (pb_cons (pb_var 1) (pb_cons (pb_var 2) pb_nil)) (len_cons (len_cons len_nil))))))
    (pb_sone (pb_ret (pb_ct (cl_tuple rfl) os_tuple (by rfl) T.z_tuple (by decide +kernel) (pb_cons (pb_lc (own := [("_law_number", 2)]) rfl sc__law_lowest.nd (pb_items rfl (pb_var 0)) (blkOk_by (own := [("_law_number", 2)]) (by rfl)) (fun _ _ _ _ _ => (pg_name (i := 2) sc__law_lowest.nd rfl (by first | exact Or.inl rfl | exact Or.inr rfl))) (ts_name 2) (by decide) (fun _ _ _ _ _ => pts_yes) (fun _ _ _ _ _ => (pb_op op_fdivW os_div (pb_var 2) (pb_var 1)))) pb_nil))))))
theorem ok__law_cut (T : Txt K mg w) : FnOk P w K mg base CX0 3 T.a__law_cut T.d__law_cut ["_law_shape_here", "_law_side"] (spOf K lsG 2 (F__law_cut)) :=
  fn_pb2 (Tx := exT K) (xa := xa0) (m__law_cut) 11 2 T.c__law_cut.F sc__law_cut rfl rfl (by decide) fun i cdv A outer s H E hr => (pb_scons (pb_setLc (i := 2) (own := [("_law_corner", 8)]) rfl sc__law_cut.nd rfl rfl (sw_true rfl rfl rfl (by decide +kernel)) (pb_items rfl (pb_var 0)) (blkOk_by (own := [("_law_corner", 8)]) (by rfl)) (fun _ _ _ _ _ => (pg_name (i := 8) sc__law_cut.nd rfl (by first | exact Or.inl rfl | exact Or.inr rfl))) (ts_name 8) (by decide) (fun _ _ _ _ _ => pts_yes) (fun _ _ _ _ _ => (pb_cb (cl_sum rfl rfl) os_sum (by rfl) T.z_sum (by decide +kernel) (pb_cons (pb_lc (own := [("_law_a", 9), ("_law_b", 10)]) rfl sc__law_cut.nd (pb_zip rfl (by rfl) T.z_zip (pb_var 1) (pb_var 8)) (blkOk_by (own := [("_law_a", 9), ("_law_b", 10)]) (by rfl)) (fun _ _ _ _ _ => (pg_tup rfl (pgs_cons (pg_name (i := 9) sc__law_cut.nd rfl (by first | exact Or.inl rfl | exact Or.inr rfl)) (pgs_cons (pg_name (i := 10) sc__law_cut.nd rfl (by first | exact Or.inl rfl | exact Or.inr rfl)) pgs_nil)))) (ts_tup rfl rfl (TgL.cons (TgL.cons TgL.nil))) (by decide) (fun _ _ _ _ _ => pts_yes) (fun _ _ _ _ _ => (pb_op op_mulW os_mul (pb_var 9) (pb_var 10)))) pb_nil))))
    (pb_scons (pb_sif (pb_tcmp or_le os_le (pb_cb (cl_maxA rfl rfl) os_maxA (by rfl) T.z_max (by decide +kernel) (pb_cons (pb_var 2) pb_nil)) pb_int (nm_LtE _)) (pb_sone (pb_ret (pb_var 0))) pb_snil)
    (pb_scons (pb_set (i := 3) sc__law_cut.nd rfl (by first | exact Or.inl rfl | exact Or.inr rfl) (pb_lst pb_nil))
    (pb_scons (pb_for PassesOwn.never rfl (pb_range1 (by rfl) T.z_range (pb_cb (cl_len rfl) os_len (by rfl) T.z_len (by decide +kernel) (pb_cons (pb_var 0) pb_nil))) (pg_name (i := 4) sc__law_cut.nd rfl (by first | exact Or.inl rfl | exact Or.inr rfl)) (ts_name 4) (pb_scons (pb_set (i := 5) sc__law_cut.nd rfl (by first | exact Or.inl rfl | exact Or.inr rfl) (pb_ix (ir_ix rfl) os_ix (pb_var 2) (pb_op op_sub os_sub (pb_var 4) pb_int) (fun _ _ => rfl)))
    (pb_scons (pb_set (i := 6) sc__law_cut.nd rfl (by first | exact Or.inl rfl | exact Or.inr rfl) (pb_ix (ir_ix rfl) os_ix (pb_var 2) (pb_var 4) (fun _ _ => rfl)))
    (pb_scons (pb_sif (pb_tcmp or_lt os_lt (pb_op op_mulW os_mul (pb_var 5) (pb_var 6)) pb_int (nm_Lt _)) (pb_sone (pb_app (i := 3) rfl rfl (pb_call (F := F__law_lowest) (ok__law_lowest T) (hr.mono (by decide)) (by rfl) T.c__law_lowest.g T.c__law_lowest.F.kp T.c__law_lowest.b (pb_cons (pb_lc (own := [("_law_a", 9), ("_law_b", 10)]) rfl sc__law_cut.nd (pb_zip rfl (by rfl) T.z_zip (pb_ix (ir_ix rfl) os_ix (pb_var 0) (pb_op op_sub os_sub (pb_var 4) pb_int) (fun _ _ => rfl)) (pb_ix (ir_ix rfl) os_ix (pb_var 0) (pb_var 4) (fun _ _ => rfl))) (blkOk_by (own := [("_law_a", 9), ("_law_b", 10)]) (by rfl)) (fun _ _ _ _ _ => (pg_tup rfl (pgs_cons (pg_name (i := 9) sc__law_cut.nd rfl (by first | exact Or.inl rfl | exact Or.inr rfl)) (pgs_cons (pg_name (i := 10) sc__law_cut.nd rfl (by first | exact Or.inl rfl | exact Or.inr rfl)) pgs_nil)))) (ts_tup rfl rfl (TgL.cons (TgL.cons TgL.nil))) (by decide) (fun _ _ _ _ _ => pts_yes) (fun _ _ _ _ _ => (pb_op (or_add rfl) os_add (pb_op op_mulW os_mul (pb_cb call_abs os_abs (by rfl) T.z_abs (by decide +kernel) (pb_cons (pb_var 6) pb_nil)) (pb_var 9)) (pb_op op_mulW os_mul (pb_cb call_abs os_abs (by rfl) T.z_abs (by decide +kernel) (pb_cons (pb_var 5) pb_nil)) (pb_var 10))))) pb_nil) (len_cons len_nil)))) pb_snil)
    (pb_sone (pb_sif (pb_tcmp or_ge os_ge (pb_var 6) pb_int (nm_GtE _)) (pb_sone (pb_app (i := 3) rfl rfl (pb_ix (ir_ix rfl) os_ix (pb_var 0) (pb_var 4) (fun _ _ => rfl)))) pb_snil))))))
    (pb_scons (pb_set (i := 7) sc__law_cut.nd rfl (by first | exact Or.inl rfl | exact Or.inr rfl) (pb_lm PySem.F.slot_list_index PySem.F.type_list_index (mt_indexD (hu65 hr)) lm_index (pb_var 3) (pb_cb (cl_minT rfl rfl (hu65 hr)) os_minT (by rfl) T.z_min (by decide +kernel) (pb_cons (pb_var 3) pb_nil))))
    (pb_sone (pb_ret (pb_ct (cl_tuple rfl) os_tuple (by rfl) T.z_tuple (by decide +kernel) (pb_cons (pb_op (or_add rfl) os_add (pb_slice (ml := (some (mVar 7))) (mh := none) rfl (pb_var 3) (pb_var 7) True.intro) (pb_slice (ml := none) (mh := (some (mVar 7))) rfl (pb_var 3) True.intro (pb_var 7))) pb_nil)))))))))
theorem ok__law_shape (T : Txt K mg w) : FnOk P w K mg base CX0 4 T.a__law_shape T.d__law_shape ["_law_state"] (spOf K lsG 1 (F__law_shape)) :=
  fn_pb2 (Tx := exT K) (xa := xa0) (m__law_shape) 7 1 T.c__law_shape.F sc__law_shape rfl rfl (by decide) fun i cdv A outer s H E hr => (pb_scons (pb_set (i := 1) sc__law_shape.nd rfl (by first | exact Or.inl rfl | exact Or.inr rfl) (pb_call (F := F__law_draw) (ok__law_draw T) (hr.mono (by decide)) (by rfl) T.c__law_draw.g T.c__law_draw.F.kp T.c__law_draw.b (pb_cons (pb_var 0) (pb_cons pb_int pb_nil)) (len_cons (len_cons len_nil))))
    (pb_scons (pb_set (i := 2) sc__law_shape.nd rfl (by first | exact Or.inl rfl | exact Or.inr rfl) (pb_call (F := F__law_draw) (ok__law_draw T) (hr.mono (by decide)) (by rfl) T.c__law_draw.g T.c__law_draw.F.kp T.c__law_draw.b (pb_cons (pb_var 0) (pb_cons pb_int pb_nil)) (len_cons (len_cons len_nil))))
    (pb_scons (pb_set (i := 3) sc__law_shape.nd rfl (by first | exact Or.inl rfl | exact Or.inr rfl) (pb_ix (ir_ix rfl) os_ix (pb_lst (pb_cons pb_int (pb_cons pb_int (pb_cons pb_int (pb_cons (pb_op op_pow os_pow pb_int pb_int) pb_nil))))) (pb_call (F := F__law_draw) (ok__law_draw T) (hr.mono (by decide)) (by rfl) T.c__law_draw.g T.c__law_draw.F.kp T.c__law_draw.b (pb_cons (pb_var 0) (pb_cons pb_int pb_nil)) (len_cons (len_cons len_nil))) (fun _ _ => rfl)))
    (pb_scons (pb_set (i := 4) sc__law_shape.nd rfl (by first | exact Or.inl rfl | exact Or.inr rfl) (pb_tup (pb_cons (pb_tup (pb_cons pb_int (pb_cons pb_int (pb_cons pb_int pb_nil)))) (pb_cons (pb_tup (pb_cons pb_int (pb_cons pb_int (pb_cons pb_int pb_nil)))) (pb_cons (pb_tup (pb_cons pb_int (pb_cons pb_int (pb_cons pb_int pb_nil)))) pb_nil)))))
    (pb_scons (pb_sif (pb_tcmp (or_eq rfl hr.units) os_eq (pb_var 1) pb_int (nm_Eq _)) (pb_sone (pb_ret (pb_call (F := F__law_ring) (ok__law_ring T) (hr.mono (by decide)) (by rfl) T.c__law_ring.g T.c__law_ring.F.kp T.c__law_ring.b (pb_cons (pb_var 0) pb_nil) (len_cons len_nil)))) pb_snil)
    (pb_scons (pb_sif (pb_tcmp or_gt os_gt (pb_var 3) pb_int (nm_Gt _)) (pb_sone (pb_set (i := 2) sc__law_shape.nd rfl (by first | exact Or.inl rfl | exact Or.inr rfl) (pb_cb (call_min2 rfl) os_min2 (by rfl) T.z_min (by decide +kernel) (pb_cons pb_int (pb_cons (pb_var 2) pb_nil))))) pb_snil)
    (pb_scons (pb_for PassesOwn.never rfl (pb_range1 (by rfl) T.z_range (pb_var 2)) (pg_name (i := 5) sc__law_shape.nd rfl (by first | exact Or.inl rfl | exact Or.inr rfl)) (ts_name 5) (pb_sone (pb_set (i := 4) sc__law_shape.nd rfl (by first | exact Or.inl rfl | exact Or.inr rfl) (pb_call (F := F__law_cut) (ok__law_cut T) (hr.mono (by decide)) (by rfl) T.c__law_cut.g T.c__law_cut.F.kp T.c__law_cut.b (pb_cons (pb_var 4) (pb_cons (pb_ct (cl_tuple rfl) os_tuple (by rfl) T.z_tuple (by decide +kernel) (pb_cons (pb_lc (own := [("_law_j", 6)]) rfl sc__law_shape.nd (pb_range1 (by rfl) T.z_range pb_int) (blkOk_by (own := [("_law_j", 6)]) (by rfl)) (fun _ _ _ _ _ => (pg_name (i := 6) sc__law_shape.nd rfl (by first | exact Or.inl rfl | exact Or.inr rfl))) (ts_name 6) (by decide) (fun _ _ _ _ _ => pts_yes) (fun _ _ _ _ _ => (pb_op op_sub os_sub (pb_call (F := F__law_draw) (ok__law_draw T) (hr.mono (by decide)) (by rfl) T.c__law_draw.g T.c__law_draw.F.kp T.c__law_draw.b (pb_cons (pb_var 0) (pb_cons (pb_var 3) pb_nil)) (len_cons (len_cons len_nil))) (pb_op op_fdivW os_div (pb_var 3) pb_int)))) pb_nil)) pb_nil)) (len_cons (len_cons len_nil))))))
    (pb_sone (pb_ret (pb_var 4))))))))))
theorem ok__law_same (T : Txt K mg w) : ∀ n : Nat, FnOk P w K mg base CX0 (1 + n) T.a__law_same T.d__law_same ["_law_found", "_law_due_here"] (spOf K lsG 2 (F__law_same n))
  | 0 => ⟨fun vs H Q E h => by obtain ⟨i, S, ds, g, hl, _⟩ := h; exact hl, fun A outer s H args us vs Q E hr e0 hb hv h => by
    obtain ⟨i, S, ds, g, hl, _, _, _, _, z⟩ := h
    exact z.elim⟩
  | n + 1 => by
    have G := ok__law_same T n
    exact fn_pb2 (Tx := exT K) (xa := xa0) (k := 1 + n) (m__law_same (F__law_same n)) 4 2 T.c__law_same.F sc__law_same rfl rfl (by decide) fun i cdv A outer s H E hr => by
      have F := F__law_same n
      exact PSs.nox ((pb_scons (pb_sif (pb_val (pb_isi .tuple rfl (by rfl) T.z_isinstance (by rfl) T.z_tuple (by decide +kernel) (pb_var 1))) (pb_scons (pb_sif (PW.pt (pb_or (pb_not (pb_val (pb_isi .tuple rfl (by rfl) T.z_isinstance (by rfl) T.z_tuple (by decide +kernel) (pb_var 0)))) (pb_or1 (pb_tcmp (or_ne rfl hr.units) os_ne (pb_cb (cl_len rfl) os_len (by rfl) T.z_len (by decide +kernel) (pb_cons (pb_var 0) pb_nil)) (pb_cb (cl_len rfl) os_len (by rfl) T.z_len (by decide +kernel) (pb_cons (pb_var 1) pb_nil)) (nm_NotEq _))))) (pb_sone (pb_ret pb_bl)) pb_snil)
    (pb_sone (pb_ret (pb_cb (cl_all rfl rfl) os_all (by rfl) T.z_all (by decide +kernel) (pb_cons (pb_lc (own := [("_law_one", 2), ("_law_other", 3)]) rfl sc__law_same.nd (pb_zip rfl (by rfl) T.z_zip (pb_var 0) (pb_var 1)) (blkOk_by (own := [("_law_one", 2), ("_law_other", 3)]) (by rfl)) (fun _ _ _ _ _ => (pg_tup rfl (pgs_cons (pg_name (i := 2) sc__law_same.nd rfl (by first | exact Or.inl rfl | exact Or.inr rfl)) (pgs_cons (pg_name (i := 3) sc__law_same.nd rfl (by first | exact Or.inl rfl | exact Or.inr rfl)) pgs_nil)))) (ts_tup rfl rfl (TgL.cons (TgL.cons TgL.nil))) (by decide) (fun _ _ _ _ _ => pts_yes) (fun _ _ _ _ _ => (pb_call (F := F__law_same n) (G) (hr.mono (by omega)) (by rfl) T.c__law_same.g T.c__law_same.F.kp T.c__law_same.b (pb_cons (pb_var 2) (pb_cons (pb_var 3) pb_nil)) (len_cons (len_cons len_nil))))) pb_nil))))) pb_snil)
    (pb_scons (pb_sif (pb_tisN (pb_var 1)) (pb_sone (pb_ret (pb_isN (pb_var 0)))) pb_snil)
    (pb_scons (pb_sif (pb_val (pb_isi .str rfl (by rfl) T.z_isinstance (by rfl) T.z_str (by decide +kernel) (pb_var 1))) (pb_sone (pb_ret (pb_andV (pb_isi .str rfl (by rfl) T.z_isinstance (by rfl) T.z_str (by decide +kernel) (pb_var 0)) (pb_one (pb_cmp (or_eq rfl hr.units) os_eq (pb_var 0) (pb_var 1) (nm_Eq _)))))) pb_snil)
    (pb_sone (pb_ret (pb_andV (pb_isi .int rfl (by rfl) T.z_isinstance (by rfl) T.z_int (by decide +kernel) (pb_var 0)) (pb_andV (pb_cmp (or_eq rfl hr.units) os_eq (pb_isi .bool rfl (by rfl) T.z_isinstance (by rfl) T.z_bool (by decide +kernel) (pb_var 0)) (pb_isi .bool rfl (by rfl) T.z_isinstance (by rfl) T.z_bool (by decide +kernel) (pb_var 1)) (nm_Eq _)) (pb_one (pb_cmp (or_eq rfl hr.units) os_eq (pb_var 0) (pb_var 1) (nm_Eq _)))))))))))
theorem ok_shared (T : Txt K mg w) : FnOk P w K mg base CX0 1 T.a_shared T.d_shared ["one", "other"] (spOf K lsG 2 (F_shared)) :=
  fn_pb2 (Tx := exT K) (xa := xa0) (m_shared) 2 2 T.c_shared.F sc_shared rfl rfl (by decide) fun i cdv A outer s H E hr => (pb_scons (pb_set (i := 0) sc_shared.nd rfl (by first | exact Or.inl rfl | exact Or.inr rfl) (pb_cb call_abs os_abs (by rfl) T.z_abs (by decide +kernel) (pb_cons (pb_var 0) pb_nil)))
    (pb_scons (pb_set (i := 1) sc_shared.nd rfl (by first | exact Or.inl rfl | exact Or.inr rfl) (pb_cb call_abs os_abs (by rfl) T.z_abs (by decide +kernel) (pb_cons (pb_var 1) pb_nil)))
    (pb_scons (pb_while 100000 PassesOwn.never (pb_tcmp or_gt os_gt (pb_var 1) pb_int (nm_Gt _)) (pb_sone (pb_par (i := 0) (j := 1) rfl sc_shared.nd rfl rfl (by decide) rfl rfl (pb_var 1) (pb_op op_mod os_mod (pb_var 0) (pb_var 1)))))
    (pb_sone (pb_ret (pb_var 0))))))
theorem ok_lowest (T : Txt K mg w) : FnOk P w K mg base CX0 2 T.a_lowest T.d_lowest ["numbers"] (spOf K lsG 1 (F_lowest)) :=
  fn_pb2 (Tx := exT K) (xa := xa0) (m_lowest) 3 1 T.c_lowest.F sc_lowest rfl rfl (by decide) fun i cdv A outer s H E hr => (pb_scons (pb_set (i := 1) sc_lowest.nd rfl (by first | exact Or.inl rfl | exact Or.inr rfl) pb_int)
    (pb_scons (pb_for PassesOwn.never rfl (pb_items rfl (pb_var 0)) (pg_name (i := 2) sc_lowest.nd rfl (by first | exact Or.inl rfl | exact Or.inr rfl)) (ts_name 2) (pb_sone (pb_set (i := 1) sc_lowest.nd rfl (by first | exact Or.inl rfl | exact Or.inr rfl) (pb_call (F := F_shared) (ok_shared T) (hr.mono (by decide)) (by rfl) T.c_shared.g T.c_shared.F.kp T.c_shared.b (pb_cons (pb_var 1) (pb_cons (pb_var 2) pb_nil)) (len_cons (len_cons len_nil))))))
    (pb_sone (pb_ret (pb_ct (cl_tuple rfl) os_tuple (by rfl) T.z_tuple (by decide +kernel) (pb_cons (pb_lc (own := [("number", 2)]) rfl sc_lowest.nd (pb_items rfl (pb_var 0)) (blkOk_by (own := [("number", 2)]) (by rfl)) (fun _ _ _ _ _ => (pg_name (i := 2) sc_lowest.nd rfl (by first | exact Or.inl rfl | exact Or.inr rfl))) (ts_name 2) (by decide) (fun _ _ _ _ _ => pts_yes) (fun _ _ _ _ _ => (pb_op op_fdivW os_div (pb_var 2) (pb_var 1)))) pb_nil))))))
theorem ok_fraction_of (T : Txt K mg w) : FnOk P w K mg base CX0 3 T.a_fraction_of T.d_fraction_of ["top", "bottom"] (spOf K lsG 2 (F_fraction_of)) :=
  fn_pb2 (Tx := exT K) (xa := xa0) (m_fraction_of) 2 2 T.c_fraction_of.F sc_fraction_of rfl rfl (by decide) fun i cdv A outer s H E hr => (pb_scons (pb_sif (pb_tcmp (or_eq rfl hr.units) os_eq (pb_var 1) pb_int (nm_Eq _)) (pb_sone pb_nev) pb_snil)
    (pb_scons (pb_sif (pb_tcmp or_lt os_lt (pb_var 1) pb_int (nm_Lt _)) (pb_sone (pb_ret (pb_call (F := F_lowest) (ok_lowest T) (hr.mono (by decide)) (by rfl) T.c_lowest.g T.c_lowest.F.kp T.c_lowest.b (pb_cons (pb_tup (pb_cons (pb_un un_neg os_neg (pb_var 0)) (pb_cons (pb_un un_neg os_neg (pb_var 1)) pb_nil))) pb_nil) (len_cons len_nil)))) pb_snil)
    (pb_sone (pb_ret (pb_call (F := F_lowest) (ok_lowest T) (hr.mono (by decide)) (by rfl) T.c_lowest.g T.c_lowest.F.kp T.c_lowest.b (pb_cons (pb_tup (pb_cons (pb_var 0) (pb_cons (pb_var 1) pb_nil))) pb_nil) (len_cons len_nil))))))
theorem ok_by_one (T : Txt K mg w) : FnOk P w K mg base CX0 4 T.a_by_one T.d_by_one ["p"] (spOf K lsG 1 (F_by_one)) :=
  fn_pb2 (Tx := exT K) (xa := xa0) (m_by_one) 1 1 T.c_by_one.F sc_by_one rfl rfl (by decide) fun i cdv A outer s H E hr => (pb_scons (pb_sif (pb_tcmp (or_eq rfl hr.units) os_eq (pb_ix (ir_ix rfl) os_ix (pb_var 0) pb_int (fun _ _ => rfl)) pb_int (nm_Eq _)) (pb_sone pb_nev) pb_snil)
    (pb_sone (pb_ret (pb_tup (pb_cons (pb_call (F := F_fraction_of) (ok_fraction_of T) (hr.mono (by decide)) (by rfl) T.c_fraction_of.g T.c_fraction_of.F.kp T.c_fraction_of.b (pb_cons (pb_ix (ir_ix rfl) os_ix (pb_var 0) pb_int (fun _ _ => rfl)) (pb_cons (pb_ix (ir_ix rfl) os_ix (pb_var 0) pb_int (fun _ _ => rfl)) pb_nil)) (len_cons (len_cons len_nil))) (pb_cons (pb_call (F := F_fraction_of) (ok_fraction_of T) (hr.mono (by decide)) (by rfl) T.c_fraction_of.g T.c_fraction_of.F.kp T.c_fraction_of.b (pb_cons (pb_ix (ir_ix rfl) os_ix (pb_var 0) pb_int (fun _ _ => rfl)) (pb_cons (pb_ix (ir_ix rfl) os_ix (pb_var 0) pb_int (fun _ _ => rfl)) pb_nil)) (len_cons (len_cons len_nil))) pb_nil))))))
theorem ok_corners_by_one (T : Txt K mg w) : FnOk P w K mg base CX0 5 T.a_corners_by_one T.d_corners_by_one ["shape"] (spOf K lsG 1 (F_corners_by_one)) :=
  fn_pb2 (Tx := exT K) (xa := xa0) (m_corners_by_one) 4 1 T.c_corners_by_one.F sc_corners_by_one rfl rfl (by decide) fun i cdv A outer s H E hr => (pb_scons (pb_set (i := 1) sc_corners_by_one.nd rfl (by first | exact Or.inl rfl | exact Or.inr rfl) (pb_ct (cl_tuple rfl) os_tuple (by rfl) T.z_tuple (by decide +kernel) (pb_cons (pb_lc (own := [("corner", 3)]) rfl sc_corners_by_one.nd (pb_items rfl (pb_var 0)) (blkOk_by (own := [("corner", 3)]) (by rfl)) (fun _ _ _ _ _ => (pg_name (i := 3) sc_corners_by_one.nd rfl (by first | exact Or.inl rfl | exact Or.inr rfl))) (ts_name 3) (by decide) (fun _ _ _ _ _ => (pts_if (pb_tcmp or_gt os_gt (pb_ix (ir_ix rfl) os_ix (pb_var 3) pb_int (fun _ _ => rfl)) pb_int (nm_Gt _)))) (fun _ _ _ _ _ => (pb_call (F := F_by_one) (ok_by_one T) (hr.mono (by decide)) (by rfl) T.c_by_one.g T.c_by_one.F.kp T.c_by_one.b (pb_cons (pb_var 3) pb_nil) (len_cons len_nil)))) pb_nil)))
    (pb_scons (pb_set (i := 2) sc_corners_by_one.nd rfl (by first | exact Or.inl rfl | exact Or.inr rfl) (pb_ct (cl_tuple rfl) os_tuple (by rfl) T.z_tuple (by decide +kernel) (pb_cons (pb_lc (own := [("corner", 3)]) rfl sc_corners_by_one.nd (pb_items rfl (pb_var 0)) (blkOk_by (own := [("corner", 3)]) (by rfl)) (fun _ _ _ _ _ => (pg_name (i := 3) sc_corners_by_one.nd rfl (by first | exact Or.inl rfl | exact Or.inr rfl))) (ts_name 3) (by decide) (fun _ _ _ _ _ => (pts_if (pb_tcmp (or_eq rfl hr.units) os_eq (pb_ix (ir_ix rfl) os_ix (pb_var 3) pb_int (fun _ _ => rfl)) pb_int (nm_Eq _)))) (fun _ _ _ _ _ => (pb_slice (ml := (some (mC (.int 1)))) (mh := none) rfl (pb_var 3) pb_int True.intro))) pb_nil)))
    (pb_sone (pb_ret (pb_tup (pb_cons (pb_var 1) (pb_cons (pb_var 2) pb_nil)))))))
theorem ok__law_due (T : Txt K mg w) : FnOk P w K mg base CX0 3 T.a__law_due T.d__law_due ["_law_shape_here"] (spOf K lsG 1 (F__law_due)) :=
  fn_pb2 (Tx := exT K) (xa := xa0) (m__law_due) 6 1 T.c__law_due.F sc__law_due rfl rfl (by decide) fun i cdv A outer s H E hr => (pb_scons (pb_set (i := 1) sc__law_due.nd rfl (by first | exact Or.inl rfl | exact Or.inr rfl) (pb_lst pb_nil))
    (pb_scons (pb_set (i := 2) sc__law_due.nd rfl (by first | exact Or.inl rfl | exact Or.inr rfl) (pb_lst pb_nil))
    (pb_scons (pb_for PassesOwn.never rfl (pb_items rfl (pb_var 0)) (pg_tup rfl (pgs_cons (pg_name (i := 3) sc__law_due.nd rfl (by first | exact Or.inl rfl | exact Or.inr rfl)) (pgs_cons (pg_name (i := 4) sc__law_due.nd rfl (by first | exact Or.inl rfl | exact Or.inr rfl)) (pgs_cons (pg_name (i := 5) sc__law_due.nd rfl (by first | exact Or.inl rfl | exact Or.inr rfl)) pgs_nil)))) (ts_tup rfl rfl (TgL.cons (TgL.cons (TgL.cons TgL.nil)))) (pb_sone (pb_sif (pb_tcmp (or_eq rfl hr.units) os_eq (pb_var 3) pb_int (nm_Eq _)) (pb_sone (pb_app (i := 2) rfl rfl (pb_tup (pb_cons (pb_var 4) (pb_cons (pb_var 5) pb_nil))))) (pb_sone (pb_app (i := 1) rfl rfl (pb_tup (pb_cons (pb_call (F := F__law_lowest) (ok__law_lowest T) (hr.mono (by decide)) (by rfl) T.c__law_lowest.g T.c__law_lowest.F.kp T.c__law_lowest.b (pb_cons (pb_lst (pb_cons (pb_var 4) (pb_cons (pb_var 3) pb_nil))) pb_nil) (len_cons len_nil)) (pb_cons (pb_call (F := F__law_lowest) (ok__law_lowest T) (hr.mono (by decide)) (by rfl) T.c__law_lowest.g T.c__law_lowest.F.kp T.c__law_lowest.b (pb_cons (pb_lst (pb_cons (pb_var 5) (pb_cons (pb_var 3) pb_nil))) pb_nil) (len_cons len_nil)) pb_nil))))))))
    (pb_sone (pb_ret (pb_tup (pb_cons (pb_ct (cl_tuple rfl) os_tuple (by rfl) T.z_tuple (by decide +kernel) (pb_cons (pb_var 1) pb_nil)) (pb_cons (pb_ct (cl_tuple rfl) os_tuple (by rfl) T.z_tuple (by decide +kernel) (pb_cons (pb_var 2) pb_nil)) pb_nil))))))))
theorem ok_law (T : Txt K mg w) {f : Addr} {fd : FuncData} (F : FnP K "law" s_law f fd) (hp : ∀ s : LS, s.Ok → s.cnt = 0 → ∃ g', m_law (.un :: .dat (.ref s.a) :: List.replicate 3 .un) s = .ok (.rt (.dat (.bl true))) g') : FnOk P w K mg base CX0 12 f fd ["_law_script"] (spLaw K) := by
  refine F.fun.ok sc_law (fun vs H Q E h => ?_) (fun cdv A outer s H vs Q E hr h => ?_)
  · obtain ⟨a, ns, rfl, _⟩ := h
    rfl
  · obtain ⟨a, ns, rfl, hS, hl, q⟩ := h
    refine ⟨_, pss_cons (ps_set (i := 1) sc_law.nd rfl (by first | exact Or.inl rfl | exact Or.inr rfl) (pe_call (ok__law_start T) (hr.mono (by decide)) (by rfl) T.c__law_start.g T.c__law_start.F.kp T.c__law_start.b .nil pass0 (pa_cons (pv 0) pa_nil)))
      (pss_ex (fun i => (show PSs _ _ (RS (LB K (exT K) i xa0) W0 (m_law)) from
    (pb_scons (pb_set (i := 2) sc_law.nd rfl (by first | exact Or.inl rfl | exact Or.inr rfl) (pb_call (F := F__law_shape) (ok__law_shape T) (hr.mono (by decide)) (by rfl) T.c__law_shape.g T.c__law_shape.F.kp T.c__law_shape.b (pb_cons (pb_var 1) pb_nil) (len_cons len_nil)))
    (pb_scons (pb_set (i := 3) sc_law.nd rfl (by first | exact Or.inl rfl | exact Or.inr rfl) (pb_call (F := F__law_shape) (ok__law_shape T) (hr.mono (by decide)) (by rfl) T.c__law_shape.g T.c__law_shape.F.kp T.c__law_shape.b (pb_cons (pb_var 1) pb_nil) (len_cons len_nil)))
    (pb_scons (pb_for PassesOwn.never rfl (pb_items rfl (pb_tup (pb_cons (pb_var 2) (pb_cons (pb_var 3) (pb_cons (pb_var 2) pb_nil))))) (pg_name (i := 4) sc_law.nd rfl (by first | exact Or.inl rfl | exact Or.inr rfl)) (ts_name 4) (pb_sone (pb_sif (pb_not (pb_val (pb_call (F := (F__law_same 10)) (ok__law_same T 10) (hr.mono (by decide)) (by rfl) T.c__law_same.g T.c__law_same.F.kp T.c__law_same.b (pb_cons (pb_call (F := F_corners_by_one) (ok_corners_by_one T) (hr.mono (by decide)) (by rfl) T.c_corners_by_one.g T.c_corners_by_one.F.kp T.c_corners_by_one.b (pb_cons (pb_var 4) pb_nil) (len_cons len_nil)) (pb_cons (pb_call (F := F__law_due) (ok__law_due T) (hr.mono (by decide)) (by rfl) T.c__law_due.g T.c__law_due.F.kp T.c__law_due.b (pb_cons (pb_var 4) pb_nil) (len_cons len_nil)) pb_nil)) (len_cons (len_cons len_nil))))) (pb_sone (pb_ret pb_bl)) pb_snil)))
    (pb_sone (pb_ret (pb_call (F := (F__law_same 10)) (ok__law_same T 10) (hr.mono (by decide)) (by rfl) T.c__law_same.g T.c__law_same.F.kp T.c__law_same.b (pb_cons (pb_call (F := F_corners_by_one) (ok_corners_by_one T) (hr.mono (by decide)) (by rfl) T.c_corners_by_one.g T.c_corners_by_one.F.kp T.c_corners_by_one.b (pb_cons (pb_con T.k_WHOLE (by rfl)) pb_nil) (len_cons len_nil)) (pb_cons (pb_tup (pb_cons (pb_tup (pb_cons (pb_tup (pb_cons (pb_tup (pb_cons pb_int (pb_cons pb_int pb_nil))) (pb_cons (pb_tup (pb_cons pb_int (pb_cons pb_int pb_nil))) pb_nil))) pb_nil)) (pb_cons (pb_tup (pb_cons (pb_tup (pb_cons pb_int (pb_cons pb_int pb_nil))) (pb_cons (pb_tup (pb_cons pb_int (pb_cons pb_int pb_nil))) pb_nil))) pb_nil))) pb_nil)) (len_cons (len_cons len_nil))))))))))), ?_⟩
    refine ⟨_, rfl, a, ns, rfl, hS, hl, fun i ls H' k1 k2 k3 k4 k5 k6 k7 => ⟨i, law_rest k3 (hp ls k1 k2) q⟩⟩
end
def dd__law_start : He.DefD := ⟨("_law_start", none), "_law_start", "_law_start", defArgs s__law_start, defBody s__law_start, defScope s__law_start, [], []⟩
def dd__law_mix : He.DefD := ⟨("_law_mix", none), "_law_mix", "_law_mix", defArgs s__law_mix, defBody s__law_mix, defScope s__law_mix, [], []⟩
def dd__law_draw : He.DefD := ⟨("_law_draw", none), "_law_draw", "_law_draw", defArgs s__law_draw, defBody s__law_draw, defScope s__law_draw, [], []⟩
def dd__law_ring : He.DefD := ⟨("_law_ring", none), "_law_ring", "_law_ring", defArgs s__law_ring, defBody s__law_ring, defScope s__law_ring, [], []⟩
def dd__law_shared : He.DefD := ⟨("_law_shared", none), "_law_shared", "_law_shared", defArgs s__law_shared, defBody s__law_shared, defScope s__law_shared, [], []⟩
def dd__law_lowest : He.DefD := ⟨("_law_lowest", none), "_law_lowest", "_law_lowest", defArgs s__law_lowest, defBody s__law_lowest, defScope s__law_lowest, [], []⟩
def dd__law_cut : He.DefD := ⟨("_law_cut", none), "_law_cut", "_law_cut", defArgs s__law_cut, defBody s__law_cut, defScope s__law_cut, [], []⟩
def dd__law_shape : He.DefD := ⟨("_law_shape", none), "_law_shape", "_law_shape", defArgs s__law_shape, defBody s__law_shape, defScope s__law_shape, [], []⟩
def dd__law_same : He.DefD := ⟨("_law_same", none), "_law_same", "_law_same", defArgs s__law_same, defBody s__law_same, defScope s__law_same, [], []⟩
def dd_shared : He.DefD := ⟨("shared", none), "shared", "shared", defArgs s_shared, defBody s_shared, defScope s_shared, [], []⟩
def dd_lowest : He.DefD := ⟨("lowest", none), "lowest", "lowest", defArgs s_lowest, defBody s_lowest, defScope s_lowest, [], []⟩
def dd_fraction_of : He.DefD := ⟨("fraction_of", none), "fraction_of", "fraction_of", defArgs s_fraction_of, defBody s_fraction_of, defScope s_fraction_of, [.int 1], []⟩
def dd_by_one : He.DefD := ⟨("by_one", none), "by_one", "by_one", defArgs s_by_one, defBody s_by_one, defScope s_by_one, [], []⟩
def dd_corners_by_one : He.DefD := ⟨("corners_by_one", none), "corners_by_one", "corners_by_one", defArgs s_corners_by_one, defBody s_corners_by_one, defScope s_corners_by_one, [], []⟩
def dd__law_due : He.DefD := ⟨("_law_due", none), "_law_due", "_law_due", defArgs s__law_due, defBody s__law_due, defScope s__law_due, [], []⟩
def dd_law : He.DefD := ⟨("law", none), "law", "law", defArgs s_law, defBody s_law, defScope s_law, [], []⟩
theorem dfl_fraction_of {K : Frag} {a : Addr} {d : FuncData} (D : FunD K "fraction_of" "fraction_of" (defArgs s_fraction_of) (defBody s_fraction_of) (defScope s_fraction_of) [.int 1] [] a d) : Binds K d ["top", "bottom"] [] ∧ ∃ ds, Vals [.int 1] ds ∧ Binds K d ["top", "bottom"] ds := by
  refine ⟨?_, ?_⟩
  · obtain ⟨ds, h1, h2⟩ := FunD.binds1 (ps := ["top", "bottom"]) D 2 1 (List.cons_ne_nil _ _) rfl fun _ _ _ _ _ _ _ us its hl hi => match us, its, hl, hi with | [_, _], [_], _, _ => ⟨_, rfl, rfl⟩
    cases h1
    exact h2
  · exact FunD.binds1 (ps := ["top", "bottom"]) D 1 0 (List.cons_ne_nil _ _) rfl fun _ _ _ _ _ _ _ us its hl hi => match us, its, hl, hi with | [_], [_], _, _ => ⟨_, rfl, rfl⟩
def hfn : List He.DefD := [dd__law_start, dd__law_mix, dd__law_draw, dd__law_ring, dd__law_shared, dd__law_lowest, dd__law_cut, dd__law_shape, dd__law_same, dd_shared, dd_lowest, dd_fraction_of, dd_by_one, dd_corners_by_one, dd__law_due, dd_law]
def hfa : List He.Fa := [.glo "_law_start", .glo "_law_mix", .glo "_law_draw", .glo "_law_ring", .glo "_law_shared", .glo "_law_lowest", .glo "_law_cut", .glo "_law_shape", .glo "_law_same", .glo "shared", .glo "lowest", .glo "fraction_of", .glo "by_one", .glo "corners_by_one", .glo "_law_due", .glo "law", .free "abs", .free "all", .free "bool", .free "int", .free "isinstance", .free "len", .free "max", .free "min", .free "range", .free "str", .free "sum", .free "tuple", .free "zip"]
def hts : List He.Tab := []
def hex (K : Frag) : Bool := (conG K "WHOLE" (.tup [(.tup [(.int 0), (.int 0), (.int 1)]), (.tup [(.int 1), (.int 0), (.int 0)]), (.tup [(.int 0), (.int 1), (.int 0)])]) && true)
abbrev HR : PySem.W.OpenRow := PySem.W.OpenLaw.row PySem.Challenge.rw_pricebend_k60_points_and_ways
abbrev hk : PySem.W.Hook := hookY 4 hfa hfn hts hex
def hob (s : PySem.W.SharedT) : He.AlX := obsY 4 hfa hfn hts hex (HandSHeadRun.getT s)
theorem hob_eq (s : PySem.W.SharedT) : hob s = hk.obs s.abs := obsY_eq (HandSHeadRun.getT_eq s)
theorem hrun (w : World) : HandSHeadRun.RunEq HR (PySem.W.view HR.prog [25]) hk hob 20000 ["BendError", "NoFraction", "NoPoint", "shared", "lowest", "fraction_of", "by_one", "corners_by_one", "_law_start", "_law_draw", "_law_mix", "_law_same", "_law_shared", "_law_lowest", "_law_cut", "_law_ring", "_law_shape", "_law_due", "WHOLE"] w := by
  refine PySem.W.byRow2 "special-get-raises" (P := fun w => HandSHeadRun.RunEq HR (PySem.W.view HR.prog [25]) hk hob 20000 ["BendError", "NoFraction", "NoPoint", "shared", "lowest", "fraction_of", "by_one", "corners_by_one", "_law_start", "_law_draw", "_law_mix", "_law_same", "_law_shared", "_law_lowest", "_law_cut", "_law_ring", "_law_shape", "_law_due", "WHOLE"] w) (fun w => ?_) (fun w => ?_) w
  · intro os
    kernel_rfl
  · intro os
    kernel_rfl
theorem facts {P : Program} {w : World} {K : Frag} {h : Heap} {mg : Str → Option Value} {f : Addr} (X : K.In h) (G : h.Ns mainGlobals mg) (hla : mg ("law" : Str) = some (.ref f)) (c0 : He.SaysX hfa hfn hts [] hex w h K) (hp : ∀ s : LS, s.Ok → s.cnt = 0 → ∃ g', m_law (.un :: .dat (.ref s.a) :: List.replicate 3 .un) s = .ok (.rt (.dat (.bl true))) g') :
    ∃ fd : FuncData, (∀ (s : Shared) (v : Value), BindsTo s fd ⟨[v], []⟩ [("_law_script", v)]) ∧ ∀ base : Heap, K.In base → base.Ns mainGlobals mg → FnOk P w K mg base CX0 12 f fd ["_law_script"] (spLaw K) := by
  have c := c0.t.d
  have m0 := c0.more
  obtain ⟨n0, m1⟩ := He.ba (show (_ && _) = true from m0)
  obtain ⟨d__law_start, D__law_start⟩ := c.def_ 0 (d := dd__law_start) rfl
  obtain ⟨d__law_mix, D__law_mix⟩ := c.def_ 1 (d := dd__law_mix) rfl
  obtain ⟨d__law_draw, D__law_draw⟩ := c.def_ 2 (d := dd__law_draw) rfl
  obtain ⟨d__law_ring, D__law_ring⟩ := c.def_ 3 (d := dd__law_ring) rfl
  obtain ⟨d__law_shared, D__law_shared⟩ := c.def_ 4 (d := dd__law_shared) rfl
  obtain ⟨d__law_lowest, D__law_lowest⟩ := c.def_ 5 (d := dd__law_lowest) rfl
  obtain ⟨d__law_cut, D__law_cut⟩ := c.def_ 6 (d := dd__law_cut) rfl
  obtain ⟨d__law_shape, D__law_shape⟩ := c.def_ 7 (d := dd__law_shape) rfl
  obtain ⟨d__law_same, D__law_same⟩ := c.def_ 8 (d := dd__law_same) rfl
  obtain ⟨d_shared, D_shared⟩ := c.def_ 9 (d := dd_shared) rfl
  obtain ⟨d_lowest, D_lowest⟩ := c.def_ 10 (d := dd_lowest) rfl
  obtain ⟨d_fraction_of, D_fraction_of⟩ := c.def_ 11 (d := dd_fraction_of) rfl
  obtain ⟨d_by_one, D_by_one⟩ := c.def_ 12 (d := dd_by_one) rfl
  obtain ⟨d_corners_by_one, D_corners_by_one⟩ := c.def_ 13 (d := dd_corners_by_one) rfl
  obtain ⟨d__law_due, D__law_due⟩ := c.def_ 14 (d := dd__law_due) rfl
  obtain ⟨d_law, D_law⟩ := c.def_ 15 (d := dd_law) rfl
  have e := hla.symm.trans (He.glo_ok X G (c.fact 15 (f := .glo "law") rfl))
  cases e
  have T : Txt K mg w := {
    a__law_start := _, d__law_start := d__law_start, c__law_start := ⟨D__law_start, He.glo_ok X G (c.fact 0 (f := .glo "_law_start") rfl), FunD.bindsN D__law_start fun _ _ _ _ _ _ us hl => match us, hl with | [_], _ => rfl⟩,
    a__law_mix := _, d__law_mix := d__law_mix, c__law_mix := ⟨D__law_mix, He.glo_ok X G (c.fact 1 (f := .glo "_law_mix") rfl), FunD.bindsN D__law_mix fun _ _ _ _ _ _ us hl => match us, hl with | [_], _ => rfl⟩,
    a__law_draw := _, d__law_draw := d__law_draw, c__law_draw := ⟨D__law_draw, He.glo_ok X G (c.fact 2 (f := .glo "_law_draw") rfl), FunD.bindsN D__law_draw fun _ _ _ _ _ _ us hl => match us, hl with | [_, _], _ => rfl⟩,
    a__law_ring := _, d__law_ring := d__law_ring, c__law_ring := ⟨D__law_ring, He.glo_ok X G (c.fact 3 (f := .glo "_law_ring") rfl), FunD.bindsN D__law_ring fun _ _ _ _ _ _ us hl => match us, hl with | [_], _ => rfl⟩,
    a__law_shared := _, d__law_shared := d__law_shared, c__law_shared := ⟨D__law_shared, He.glo_ok X G (c.fact 4 (f := .glo "_law_shared") rfl), FunD.bindsN D__law_shared fun _ _ _ _ _ _ us hl => match us, hl with | [_, _], _ => rfl⟩,
    a__law_lowest := _, d__law_lowest := d__law_lowest, c__law_lowest := ⟨D__law_lowest, He.glo_ok X G (c.fact 5 (f := .glo "_law_lowest") rfl), FunD.bindsN D__law_lowest fun _ _ _ _ _ _ us hl => match us, hl with | [_], _ => rfl⟩,
    a__law_cut := _, d__law_cut := d__law_cut, c__law_cut := ⟨D__law_cut, He.glo_ok X G (c.fact 6 (f := .glo "_law_cut") rfl), FunD.bindsN D__law_cut fun _ _ _ _ _ _ us hl => match us, hl with | [_, _], _ => rfl⟩,
    a__law_shape := _, d__law_shape := d__law_shape, c__law_shape := ⟨D__law_shape, He.glo_ok X G (c.fact 7 (f := .glo "_law_shape") rfl), FunD.bindsN D__law_shape fun _ _ _ _ _ _ us hl => match us, hl with | [_], _ => rfl⟩,
    a__law_same := _, d__law_same := d__law_same, c__law_same := ⟨D__law_same, He.glo_ok X G (c.fact 8 (f := .glo "_law_same") rfl), FunD.bindsN D__law_same fun _ _ _ _ _ _ us hl => match us, hl with | [_, _], _ => rfl⟩,
    a_shared := _, d_shared := d_shared, c_shared := ⟨D_shared, He.glo_ok X G (c.fact 9 (f := .glo "shared") rfl), FunD.bindsN D_shared fun _ _ _ _ _ _ us hl => match us, hl with | [_, _], _ => rfl⟩,
    a_lowest := _, d_lowest := d_lowest, c_lowest := ⟨D_lowest, He.glo_ok X G (c.fact 10 (f := .glo "lowest") rfl), FunD.bindsN D_lowest fun _ _ _ _ _ _ us hl => match us, hl with | [_], _ => rfl⟩,
    a_fraction_of := _, d_fraction_of := d_fraction_of, c_fraction_of := ⟨D_fraction_of, He.glo_ok X G (c.fact 11 (f := .glo "fraction_of") rfl), (dfl_fraction_of D_fraction_of).1, (dfl_fraction_of D_fraction_of).2⟩,
    a_by_one := _, d_by_one := d_by_one, c_by_one := ⟨D_by_one, He.glo_ok X G (c.fact 12 (f := .glo "by_one") rfl), FunD.bindsN D_by_one fun _ _ _ _ _ _ us hl => match us, hl with | [_], _ => rfl⟩,
    a_corners_by_one := _, d_corners_by_one := d_corners_by_one, c_corners_by_one := ⟨D_corners_by_one, He.glo_ok X G (c.fact 13 (f := .glo "corners_by_one") rfl), FunD.bindsN D_corners_by_one fun _ _ _ _ _ _ us hl => match us, hl with | [_], _ => rfl⟩,
    a__law_due := _, d__law_due := d__law_due, c__law_due := ⟨D__law_due, He.glo_ok X G (c.fact 14 (f := .glo "_law_due") rfl), FunD.bindsN D__law_due fun _ _ _ _ _ _ us hl => match us, hl with | [_], _ => rfl⟩,
    z_abs := He.free_ok X G (c.fact 16 (f := .free "abs") rfl),
    z_all := He.free_ok X G (c.fact 17 (f := .free "all") rfl),
    z_bool := He.free_ok X G (c.fact 18 (f := .free "bool") rfl),
    z_int := He.free_ok X G (c.fact 19 (f := .free "int") rfl),
    z_isinstance := He.free_ok X G (c.fact 20 (f := .free "isinstance") rfl),
    z_len := He.free_ok X G (c.fact 21 (f := .free "len") rfl),
    z_max := He.free_ok X G (c.fact 22 (f := .free "max") rfl),
    z_min := He.free_ok X G (c.fact 23 (f := .free "min") rfl),
    z_range := He.free_ok X G (c.fact 24 (f := .free "range") rfl),
    z_str := He.free_ok X G (c.fact 25 (f := .free "str") rfl),
    z_sum := He.free_ok X G (c.fact 26 (f := .free "sum") rfl),
    z_tuple := He.free_ok X G (c.fact 27 (f := .free "tuple") rfl),
    z_zip := He.free_ok X G (c.fact 28 (f := .free "zip") rfl),
    k_WHOLE := conG_ok X G n0 }
  have b := FunD.bindsA (ps := ["_law_script"]) D_law fun _ _ _ _ _ _ us hl => match us, hl with | [_], _ => rfl
  exact ⟨d_law, fun s v => b s [v] rfl, fun base _ _ => ok_law T D_law hp⟩
end G_k60
open PySem PySem.W PySem.Calls PyProof.Rows L2 PB
namespace G_k60
theorem law_holds (hp : ∀ s : LS, s.Ok → s.cnt = 0 → ∃ g', m_law (.un :: .dat (.ref s.a) :: List.replicate 3 .un) s = .ok (.rt (.dat (.bl true))) g') : PySem.Challenge.rw_pricebend_k60_points_and_ways.Holds := by
  w_on; o_law
  refine HandSHeadRun.head_any (r := PySem.W.OpenLaw.row PySem.Challenge.rw_pricebend_k60_points_and_ways) (q := PySem.W.view (PySem.W.OpenLaw.row PySem.Challenge.rw_pricebend_k60_points_and_ways).prog [25]) (H := hk) (ob := hob) (M := 20000) (loose := ["BendError", "NoFraction", "NoPoint", "shared", "lowest", "fraction_of", "by_one", "corners_by_one", "_law_start", "_law_draw", "_law_mix", "_law_same", "_law_shared", "_law_lowest", "_law_cut", "_law_ring", "_law_shape", "_law_due", "WHOLE"]) (d := HandSHeadRun.topDef (PySem.W.OpenLaw.row PySem.Challenge.rw_pricebend_k60_points_and_ways).prog 25) (kwd := []) hob_eq
    (by kernel_rfl) (fun s => by kernel_rfl) hrun (by kernel_rfl) (by kernel_rfl) (by kernel_rfl) (by rfl) (by first | assumption | decide +kernel) (by decide +kernel) ⟨rfl, rfl, rfl, rfl, rfl, by decide +kernel⟩ ?hw ?hc
  case hw => w_witness2
  case hc =>
    refine L2.walk_ofE (l := PySem.Challenge.rw_pricebend_k60_points_and_ways) (n := 63) (k := 12) (x := "_law_script") (CX := L2.CX0) rfl (by decide) (by kernel_rfl) ⟨rfl, by decide, by decide⟩ ?F (fun _ _ _ _ z => z)
    intro w mg fa h Y G hmg0
    obtain ⟨K, KX, c⟩ := Y
    have hmg : mg ("law" : PySem.Str) = some (.ref fa) := by
      have e : (HandSHeadRun.topDef (PySem.W.OpenLaw.row PySem.Challenge.rw_pricebend_k60_points_and_ways).prog 25).name = ("law" : PySem.Str) := by kernel_rfl
      rw [← e]
      exact hmg0
    obtain ⟨fd, hb, hF⟩ := facts (P := (PySem.Challenge.rw_pricebend_k60_points_and_ways).prog) (w := w) KX G hmg c hp
    exact ⟨K, fd, spLaw K, KX, hb, fun H a ns hl _ hS => ⟨a, ns, rfl, hS, hl, fun _ => rfl⟩, hF⟩
end G_k60

theorem PySem.Challenge.cw_pricebend_k60_points_and_ways_holds : PySem.Challenge.rw_pricebend_k60_points_and_ways.Holds := by
  exact G_k60.law_holds G_k60.law_pure
