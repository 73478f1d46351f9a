import PyProof.Rows.All
import Wide.All
import OpenK.AllK
import Wide.FinOn
import HandS.ForMost
import HandS.Flow
import HandS.Wide
import HandS.Zip
import HandS.TupAny
import HandS.Deep
import HandS.Style
import HandS.IsInst
import HandS.NoneIn
import HandS.Codes
import HandS.Defaults
import HandS.Head0
import HandS.Head1
import HandS.Head2
import HandS.HeadEnd
import HandS.HeadHook1
import HandS.HeadHook2
import HandS.HeadHook3
import HandS.HeadHook4
import KE.KRevSl
import HandS.ForExc
import HandS.ExcInit
import HandS.HotCalls
import HandS.ExcField
import HandS.CallLocal
import KE.KExcIs
import HandS.ExcIs
import HandS.Dict
import HandS.TupMul
import PyProof.StrOps2
import HandS.TupLe
import KE.DataMinMax
import KE.SortData
import KE.KDictDisplayH
import HandS.Iter
import PyProof.ListStr
import HandS.StrMore
import KE.GoesMore
import PyProof.EnumMake
import PySem.Challenge.RW_pricebend_k41_shapes_looked_at
set_option linter.all false
set_option maxRecDepth 100000
namespace PB
/-- data -/
inductive D where
  | non | bl (b : Bool) | int (i : Int) | str (s : List Nat) | tup (ds : List D) | lst (ds : List D) | ref (a : Nat) | dct (t : Bool) (ks vs : List D)
instance : Inhabited D := ⟨.non⟩
structure Xn where
  cls : Nat
  fld : Option D
/-- what a piece of code comes to: a value, an exception, or it is not known -/
inductive Rs (γ α : Type) where
  | ok (a : α) (g : γ) | ex (x : Xn) (g : γ) | no
/-- a name's slot: nothing known; data; a list that this name alone holds; a caught exception; a thing that stands beside -/
inductive Sl where
  | un | dat (d : D) | own (ds : List D) | xc (x : Xn) | gh (k : Nat) | owd (t : Bool) (ks vs : List D)
/-- a value: data that may be kept; a new list; a list that a name holds -/
inductive Rv where
  | dat (d : D) | own (ds : List D) | bor (ds : List D)
abbrev Env := List Sl
inductive Fl where
  | nx (e : Env) | rt (r : Rv) | bk (e : Env) | ct (e : Env)
section
variable {γ α β : Type}
def Rs.bind (m : Rs γ α) (f : α → γ → Rs γ β) : Rs γ β := match m with
  | .ok a g => f a g
  | .ex x g => .ex x g
  | .no => .no
@[simp] theorem Rs.bind_ok (a : α) (g : γ) (f : α → γ → Rs γ β) : (Rs.ok a g).bind f = f a g := rfl
@[simp] theorem Rs.bind_no (f : α → γ → Rs γ β) : (Rs.no : Rs γ α).bind f = .no := rfl
@[simp] theorem Rs.bind_ex (x : Xn) (g : γ) (f : α → γ → Rs γ β) : (Rs.ex x g).bind f = .ex x g := rfl
def ofO (o : Option α) (g : γ) : Rs γ α := match o with
  | some a => .ok a g
  | none => .no
@[simp] theorem ofO_some (a : α) (g : γ) : ofO (some a) g = Rs.ok a g := rfl
@[simp] theorem ofO_none (g : γ) : (ofO none g : Rs γ α) = Rs.no := rfl
end
abbrev ME (γ : Type) := Env → γ → Rs γ Rv
abbrev MT (γ : Type) := Env → γ → Rs γ Bool
abbrev MA (γ : Type) := Env → γ → Rs γ (List Rv)
abbrev MI (γ : Type) := Env → γ → Rs γ (List D)
abbrev MS (γ : Type) := Env → γ → Rs γ Fl
/-- a def: its arguments, what it comes to -/
abbrev MF (γ : Type) := List D → γ → Rs γ Rv
def gt : Env → Nat → Sl
  | [], _ => .un
  | s :: _, 0 => s
  | _ :: r, i + 1 => gt r i
def st : Env → Nat → Sl → Env
  | [], _, _ => []
  | _ :: r, 0, x => x :: r
  | s :: r, i + 1, x => s :: st r i x
@[simp] def Rv.val : Rv → D
  | .dat d => d
  | .own ds => .lst ds
  | .bor ds => .lst ds
/-- the value as it may be kept within something -/
@[simp] def Rv.sto : Rv → Option D
  | .dat d => some d
  | .own ds => some (.lst ds)
  | .bor _ => none
/-- .. as a slot's -/
@[simp] def Rv.slot : Rv → Option Sl
  | .dat d => some (.dat d)
  | .own ds => some (.own ds)
  | .bor _ => none
/-- the items of a list of either kind -/
@[simp] def Rv.items : Rv → Option (List D)
  | .dat (.lst ds) => some ds
  | .own ds => some ds
  | .bor ds => some ds
  | _ => none
def stoL : List Rv → Option (List D)
  | [] => some []
  | r :: rs => match r.sto, stoL rs with
    | some d, some ds => some (d :: ds)
    | _, _ => none
abbrev SZ : Nat := 16777216
def ixN (n : Nat) (i : Int) : Option Nat := if 0 ≤ i then (if i < n then some i.toNat else none) else if -(n : Int) ≤ i then some (i + n).toNat else none
def atI {α : Type} (xs : List α) (i : Int) : Option α := (ixN xs.length i).bind fun j => xs[j]?
def sIx (n d : Nat) : Option Int → Nat
  | none => d
  | some v => if v < 0 then (v + (n : Int)).toNat else min v.toNat n
def cut {α : Type} (xs : List α) (lo hi : Option Int) : List α := (xs.drop (sIx xs.length 0 lo)).take (sIx xs.length xs.length hi - sIx xs.length 0 lo)
mutual
def eqv : D → D → Bool
  | .non, .non => true
  | .bl a, .bl b => a == b
  | .bl a, .int j => (if a then 1 else 0) == j
  | .int i, .bl b => i == (if b then 1 else 0)
  | .int i, .int j => i == j
  | .str x, .str y => x == y
  | .tup xs, .tup ys => eqvL xs ys
  | .lst xs, .lst ys => eqvL xs ys
  | _, _ => false
def eqvL : List D → List D → Bool
  | [], [] => true
  | x :: xs, y :: ys => eqv x y && eqvL xs ys
  | _, _ => false
end
mutual
/-- no references within, not deeper than n -/
def okE : Nat → D → Bool
  | _, .non => true
  | _, .bl _ => true
  | _, .int _ => true
  | _, .str _ => true
  | 0, .tup _ => false
  | 0, .lst _ => false
  | n + 1, .tup ds => okL n ds
  | n + 1, .lst ds => okL n ds
  | _, .ref _ => false
  | _, .dct _ _ _ => false
def okL : Nat → List D → Bool
  | _, [] => true
  | n, d :: ds => okE n d && okL n ds
end
/-- scalars -/
@[simp] def scl : D → Bool
  | .non => true | .bl _ => true | .int _ => true | .str _ => true | _ => false
def eqD (x y : D) : Option Bool := if okE 60 x = true ∧ okE 60 y = true then some (eqv x y) else none
abbrev Op1 := Rv → Option Rv
abbrev Op2 := Rv → Rv → Option Rv
def MulOk (i j : Int) : Prop := i.natAbs.log2 + j.natAbs.log2 < 1000000
instance (i j : Int) : Decidable (MulOk i j) := inferInstanceAs (Decidable (_ < _))
def DivOk (j : Int) : Prop := 0 < j ∧ j.natAbs.log2 < 9000
instance (j : Int) : Decidable (DivOk j) := inferInstanceAs (Decidable (_ ∧ _))
def PowOk (i j : Int) : Prop := 0 ≤ j ∧ j ≤ 1000000 ∧ i.natAbs < 2 ^ 64
instance (i j : Int) : Decidable (PowOk i j) := inferInstanceAs (Decidable (_ ∧ _))
def RngOk (n : Int) : Prop := n.natAbs.log2 < 62
instance (n : Int) : Decidable (RngOk n) := inferInstanceAs (Decidable (_ < _))
/-- a + b -/
def oAdd : Op2
  | .dat (.int i), .dat (.int j) => some (.dat (.int (i + j)))
  | .dat (.str s), .dat (.str t) => if s.length + t.length ≤ SZ then some (.dat (.str (s ++ t))) else none
  | .dat (.tup s), .dat (.tup t) => if s.length + t.length ≤ SZ then some (.dat (.tup (s ++ t))) else none
  | x, y => match x.items, y.items with
    | some s, some t => if s.length + t.length ≤ SZ then some (.own (s ++ t)) else none
    | _, _ => none
def oSub : Op2
  | .dat (.int i), .dat (.int j) => some (.dat (.int (i - j)))
  | _, _ => none
def oMul : Op2
  | .dat (.int i), .dat (.int j) => if MulOk i j then some (.dat (.int (i * j))) else none
  | _, _ => none
def oDiv : Op2
  | .dat (.int i), .dat (.int j) => if DivOk j then some (.dat (.int (i / j))) else none
  | _, _ => none
def oMod : Op2
  | .dat (.int i), .dat (.int j) => if 0 < j then some (.dat (.int (i % j))) else none
  | _, _ => none
def oPow : Op2
  | .dat (.int i), .dat (.int j) => if PowOk i j then some (.dat (.int (i ^ j.toNat))) else none
  | _, _ => none
def dB (b : Bool) : Rv := .dat (.bl b)
def oEq : Op2 := fun x y => (eqD x.val y.val).map dB
def oNe : Op2 := fun x y => (eqD x.val y.val).map fun b => dB (!b)
/-- the order of lists of numbers (Python's) -/
def lexN : List Nat → List Nat → Bool
  | [], [] => false
  | [], _ :: _ => true
  | _ :: _, [] => false
  | x :: xs, y :: ys => if x = y then lexN xs ys else decide (x < y)
def oLt : Op2
  | .dat (.int i), .dat (.int j) => some (dB (decide (i < j)))
  | _, _ => none
def oLe : Op2
  | .dat (.int i), .dat (.int j) => some (dB (decide (i ≤ j)))
  | _, _ => none
def oGt : Op2
  | .dat (.int i), .dat (.int j) => some (dB (decide (j < i)))
  | _, _ => none
def oGe : Op2
  | .dat (.int i), .dat (.int j) => some (dB (decide (j ≤ i)))
  | _, _ => none
@[simp] def isNon : D → Bool
  | .non => true
  | _ => false
/-- a[i] -/
def oIx : Op2
  | .dat (.tup ds), .dat (.int i) => (atI ds i).map .dat
  | .dat (.str s), .dat (.int i) => (atI s i).map fun c => .dat (.str [c])
  | x, .dat (.int i) => match x.items with
    | some ds => (atI ds i).map .dat
    | none => none
  | _, _ => none
/-- a[lo:hi] -/
def oCut (x : Rv) (lo hi : Option Int) : Option Rv := match x with
  | .dat (.tup ds) => some (.dat (.tup (cut ds lo hi)))
  | .dat (.str s) => some (.dat (.str (cut s lo hi)))
  | x => match x.items with
    | some ds => some (.own (cut ds lo hi))
    | none => none
abbrev OpN := List Rv → Option Rv
def oLen : OpN
  | [.dat (.str s)] => some (.dat (.int s.length))
  | [.dat (.tup ds)] => some (.dat (.int ds.length))
  | [x] => x.items.map fun ds => .dat (.int ds.length)
  | _ => none
def oAbs : OpN
  | [.dat (.int i)] => some (.dat (.int (if i < 0 then -i else i)))
  | _ => none
/-- a list of dInts -/
def dInts : List D → Option (List Int)
  | [] => some []
  | .int i :: ds => (dInts ds).map (i :: ·)
  | _ :: _ => none
def dBls : List D → Option (List Bool)
  | [] => some []
  | .bl b :: ds => (dBls ds).map (b :: ·)
  | _ :: _ => none
def oSum : OpN
  | [x] => match x.items with
    | some ds => (dInts ds).map fun ns => .dat (.int ns.sum)
    | none => none
  | _ => none
def lmax : Int → List Int → Int
  | m, [] => m
  | m, x :: xs => lmax (if x > m then x else m) xs
def oAll : OpN
  | [x] => match x.items with
    | some ds => (dBls ds).map fun bs => dB (bs.all id)
    | none => none
  | _ => none
def oAny : OpN
  | [x] => match x.items with
    | some ds => (dBls ds).map fun bs => dB (bs.any id)
    | none => none
  | _ => none
/-- tuple(x) -/
def oTuple : OpN
  | [.dat (.tup ds)] => some (.dat (.tup ds))
  | [x] => x.items.map fun ds => .dat (.tup ds)
  | _ => none
/-- list(x) of a list or tuple -/
def oList : OpN
  | [.dat (.tup ds)] => some (.own ds)
  | [x] => x.items.map fun ds => .own ds
  | _ => none
/-- int(x) of an int, a bool -/
def oInt : OpN
  | [.dat (.int i)] => some (.dat (.int i))
  | [.dat (.bl b)] => some (.dat (.int (if b then 1 else 0)))
  | _ => none
/-- isinstance(x, T), T a built-in class -/
inductive Ty where
  | int | bool | str | tuple | list
@[simp] def isTy : Ty → D → Bool
  | .int, .int _ => true
  | .int, .bl _ => true
  | .bool, .bl _ => true
  | .str, .str _ => true
  | .tuple, .tup _ => true
  | .list, .lst _ => true
  | _, _ => false
def oIs (T : Ty) : Op1
  | .dat (.ref _) => none
  | .dat (.dct _ _ _) => none
  | x => some (dB (isTy T x.val))
/-- the truth of a value -/
def oTru : Rv → Option Bool
  | .dat .non => some false
  | .dat (.bl b) => some b
  | .dat (.int i) => some (i != 0)
  | .dat (.str s) => some (!s.isEmpty)
  | .dat (.tup s) => some (!s.isEmpty)
  | .dat (.ref _) => none
  | x => x.items.map fun ds => !ds.isEmpty
section
variable {γ : Type}
def mVar (i : Nat) : ME γ := fun e g => match gt e i with
  | .dat d => .ok (.dat d) g
  | .own ds => .ok (.bor ds) g
  | _ => .no
def mC (d : D) : ME γ := fun _ g => .ok (.dat d) g
def mOp1 (f : Op1) (a : ME γ) : ME γ := fun e g => (a e g).bind fun x g1 => ofO (f x) g1
def mOp2 (f : Op2) (a b : ME γ) : ME γ := fun e g => (a e g).bind fun x g1 => (b e g1).bind fun y g2 => ofO (f x y) g2
def mNil : MA γ := fun _ g => .ok [] g
def mCons (a : ME γ) (r : MA γ) : MA γ := fun e g => (a e g).bind fun x g1 => (r e g1).bind fun xs g2 => .ok (x :: xs) g2
def mOpN (f : OpN) (a : MA γ) : ME γ := fun e g => (a e g).bind fun xs g1 => ofO (f xs) g1
def mTup (a : MA γ) : ME γ := fun e g => (a e g).bind fun xs g1 => match stoL xs with
  | some ds => if ds.length ≤ SZ then .ok (.dat (.tup ds)) g1 else .no
  | none => .no
def mLst (a : MA γ) : ME γ := fun e g => (a e g).bind fun xs g1 => match stoL xs with
  | some ds => if ds.length ≤ SZ then .ok (.own ds) g1 else .no
  | none => .no
/-- a[lo:hi], the ends written or left out -/
def mPart (a : Option (ME γ)) (e : Env) (g : γ) : Rs γ (Option Int) := match a with
  | none => .ok none g
  | some m => (m e g).bind fun x g1 => match x with
    | .dat (.int i) => .ok (some i) g1
    | _ => .no
def mCut (a : ME γ) (lo hi : Option (ME γ)) : ME γ := fun e g => (a e g).bind fun x g1 => (mPart lo e g1).bind fun l g2 => (mPart hi e g2).bind fun h g3 => ofO (oCut x l h) g3
/-- a < b < c -/
def mChain (f f' : Op2) (a b c : ME γ) : ME γ := fun e g => (a e g).bind fun x g1 => (b e g1).bind fun y g2 => match f x y with
  | some (.dat (.bl true)) => (c e g2).bind fun z g3 => ofO (f' y z) g3
  | some (.dat (.bl false)) => .ok (dB false) g2
  | _ => .no
def mIf (t : MT γ) (a b : ME γ) : ME γ := fun e g => (t e g).bind fun c g1 => match c with
  | true => a e g1
  | false => b e g1
/-- and, or, not of truths, as values -/
def mAndV (a b : ME γ) : ME γ := fun e g => (a e g).bind fun x g1 => match x with
  | .dat (.bl true) => b e g1
  | .dat (.bl false) => .ok (dB false) g1
  | _ => .no
def mOrV (a b : ME γ) : ME γ := fun e g => (a e g).bind fun x g1 => match x with
  | .dat (.bl true) => .ok (dB true) g1
  | .dat (.bl false) => b e g1
  | _ => .no
def mNotV (a : ME γ) : ME γ := fun e g => (a e g).bind fun x g1 => match x with
  | .dat (.bl c) => .ok (dB (!c)) g1
  | _ => .no
/-- tests -/
def mTest (a : ME γ) : MT γ := fun e g => (a e g).bind fun x g1 => match x with
  | .dat (.bl c) => .ok c g1
  | _ => .no
def mTru (a : ME γ) : MT γ := fun e g => (a e g).bind fun x g1 => ofO (oTru x) g1
def mAnd (a b : MT γ) : MT γ := fun e g => (a e g).bind fun c g1 => match c with
  | true => b e g1
  | false => .ok false g1
def mOr (a b : MT γ) : MT γ := fun e g => (a e g).bind fun c g1 => match c with
  | true => .ok true g1
  | false => b e g1
def mNot (a : MT γ) : MT γ := fun e g => (a e g).bind fun c g1 => .ok (!c) g1
/-- the call of a def that no exception leaves: no list that a name holds is handed in -/
def okO {α : Type} (r : Rs γ α) : Rs γ α := match r with
  | .ok a g => .ok a g
  | _ => .no
def mCall (F : MF γ) (a : MA γ) : ME γ := fun e g => (a e g).bind fun xs g1 => match stoL xs with
  | some ds => okO (F ds g1)
  | none => .no
/-- a text's method, of one argument, of none -/
def mS1 (f : List Nat → Rv → Option Rv) (a b : ME γ) : ME γ := fun e g => (a e g).bind fun x g1 => match x with
  | .dat (.str s) => (b e g1).bind fun y g2 => ofO (f s y) g2
  | _ => .no
def seqOf : Rv → Option (List D)
  | .dat (.tup ds) => some ds
  | .dat (.lst ds) => some ds
  | .own ds => some ds
  | _ => none
def mItems (a : ME γ) : MI γ := fun e g => (a e g).bind fun x g1 => ofO (seqOf x) g1
def rng (i : Int) : Nat → List D
  | 0 => []
  | n + 1 => .int i :: rng (i + 1) n
def mRange1 (a : ME γ) : MI γ := fun e g => (a e g).bind fun x g1 => match x with
  | .dat (.int n) => if RngOk n then .ok (rng 0 n.toNat) g1 else .no
  | _ => .no
def zipD : List D → List D → List D
  | x :: xs, y :: ys => .tup [x, y] :: zipD xs ys
  | _, _ => []
/-- zip of two lists, of two tuples -/
def zip2 : Rv → Rv → Option (List D)
  | .dat (.tup xs), .dat (.tup ys) => some (zipD xs ys)
  | .dat (.lst xs), .dat (.lst ys) => some (zipD xs ys)
  | .dat (.lst xs), .own ys => some (zipD xs ys)
  | .own xs, .dat (.lst ys) => some (zipD xs ys)
  | .own xs, .own ys => some (zipD xs ys)
  | _, _ => none
def mZip2 (a b : ME γ) : MI γ := fun e g => (a e g).bind fun x g1 => (b e g1).bind fun y g2 => ofO (zip2 x y) g2
abbrev MG := D → Env → Option Env
def tgN (i : Nat) : MG := fun d e => some (st e i (.dat d))
def tgL : List Nat → List D → Env → Option Env
  | [], [], e => some e
  | i :: is, d :: ds, e => tgL is ds (st e i (.dat d))
  | _, _, _ => none
def tgT (is : List Nat) : MG := fun d e => match d with
  | .tup ds => tgL is ds e
  | _ => none
def wp : Env → List Nat → Env
  | e, [] => e
  | e, i :: is => wp (st e i .un) is
def lcL (tg : MG) (c : MT γ) (a : ME γ) (e : Env) : List D → List D → γ → Rs γ Rv
  | [], acc, g => .ok (.own acc) g
  | d :: ds, acc, g => match tg d e with
    | none => .no
    | some e1 => match c e1 g with
      | .ok true g1 => match a e1 g1 with
        | .ok r g2 => match r.sto with
          | some y => if acc.length < SZ then lcL tg c a e ds (acc ++ [y]) g2 else .no
          | none => .no
        | _ => .no
      | .ok false g1 => lcL tg c a e ds acc g1
      | _ => .no
def mLc (src : MI γ) (tg : MG) (c : MT γ) (a : ME γ) (own : List Nat) : ME γ := fun e g => (src e g).bind fun ds g1 => lcL tg c a (wp e own) ds [] g1
def mYes : MT γ := fun _ g => .ok true g
def mSeq (a b : MS γ) : MS γ := fun e g => (a e g).bind fun f g1 => match f with
  | .nx e1 => b e1 g1
  | .rt r => .ok (.rt r) g1
  | .bk e1 => .ok (.bk e1) g1
  | .ct e1 => .ok (.ct e1) g1
def mPass : MS γ := fun e g => .ok (.nx e) g
def mSet (i : Nat) (a : ME γ) : MS γ := fun e g => (a e g).bind fun x g1 => match x.slot with
  | some s => .ok (.nx (st e i s)) g1
  | none => .no
def mTgt (tg : MG) (a : ME γ) : MS γ := fun e g => (a e g).bind fun x g1 => match x with
  | .dat d => match tg d e with
    | some e1 => .ok (.nx e1) g1
    | none => .no
  | _ => .no
/-- a, b = x, y -/
def mPar (i j : Nat) (a b : ME γ) : MS γ := fun e g => (a e g).bind fun x g1 => (b e g1).bind fun y g2 => match x, y with
  | .dat x, .dat y => .ok (.nx (st (st e i (.dat x)) j (.dat y))) g2
  | _, _ => .no
/-- x op= e -/
def mAug (i : Nat) (f : Op2) (a : ME γ) : MS γ := fun e g => match gt e i with
  | .dat d => (a e g).bind fun y g1 => match f (.dat d) y with
    | some r => match r.slot with
      | some s => .ok (.nx (st e i s)) g1
      | none => .no
    | none => .no
  | _ => .no
def mRet (a : ME γ) : MS γ := fun e g => (a e g).bind fun x g1 => .ok (.rt x) g1
def mRetN : MS γ := fun _ g => .ok (.rt (.dat .non)) g
def mIfS (t : MT γ) (a b : MS γ) : MS γ := fun e g => (t e g).bind fun c g1 => match c with
  | true => a e g1
  | false => b e g1
def mBreak : MS γ := fun e g => .ok (.bk e) g
def mCont : MS γ := fun e g => .ok (.ct e) g
/-- a name's own list is from now on data -/
def mFrz (i : Nat) : MS γ := fun e g => match gt e i with
  | .own ds => .ok (.nx (st e i (.dat (.lst ds)))) g
  | .owd t ks vs => .ok (.nx (st e i (.dat (.dct t ks vs)))) g
  | _ => .ok (.nx e) g
/-- x.append(e) -/
def mApp (i : Nat) (a : ME γ) : MS γ := fun e g => match gt e i with
  | .own ds => (a e g).bind fun y g1 => match y.sto with
    | some d => if ds.length < SZ then .ok (.nx (st e i (.own (ds ++ [d])))) g1 else .no
    | none => .no
  | _ => .no
/-- x[k] = e -/
def mPut (i : Nat) (k a : ME γ) : MS γ := fun e g => (a e g).bind fun y g1 => match gt e i with
  | .own ds => (k e g1).bind fun z g2 => match y.sto, z with
    | some d, .dat (.int n) => match ixN ds.length n with
      | some j => .ok (.nx (st e i (.own (ds.set j d)))) g2
      | none => .no
    | _, _ => .no
  | _ => .no
def forL (tg : MG) (b : MS γ) : List D → MS γ
  | [], e, g => .ok (.nx e) g
  | d :: ds, e, g => match tg d e with
    | none => .no
    | some e1 => match b e1 g with
      | .ok (.nx e2) g2 => forL tg b ds e2 g2
      | .ok (.ct e2) g2 => forL tg b ds e2 g2
      | .ok (.bk e2) g2 => .ok (.nx e2) g2
      | .ok (.rt r) g2 => .ok (.rt r) g2
      | .ex x g2 => .ex x g2
      | .no => .no
def mFor (src : MI γ) (tg : MG) (b : MS γ) : MS γ := fun e g => (src e g).bind fun ds g1 => forL tg b ds e g1
def mWhile (c : MT γ) (b : MS γ) : Nat → MS γ
  | 0, _, _ => .no
  | n + 1, e, g => match c e g with
    | .ok true g1 => match b e g1 with
      | .ok (.nx e2) g2 => mWhile c b n e2 g2
      | .ok (.ct e2) g2 => mWhile c b n e2 g2
      | .ok (.bk e2) g2 => .ok (.nx e2) g2
      | .ok (.rt r) g2 => .ok (.rt r) g2
      | .ex x g2 => .ex x g2
      | .no => .no
    | .ok false g1 => .ok (.nx e) g1
    | .ex x g1 => .ex x g1
    | .no => .no
/-- what is handed back: a list that a name of the def held is new for the caller -/
@[simp] def Rv.ret : Rv → Rv
  | .bor ds => .own ds
  | r => r
/-- a def: its slots' number, its body -/
def mDef (n : Nat) (k : Nat) (b : MS γ) : MF γ := fun ds g => if ds.length = k then (match b (ds.map Sl.dat ++ List.replicate (n - k) .un) g with
  | .ok (.nx _) g1 => .ok (.dat .non) g1
  | .ok (.rt r) g1 => .ok r.ret g1
  | .ok (.bk _) _ => .no
  | .ok (.ct _) _ => .no
  | .ex x g1 => .ex x g1
  | .no => .no) else .no
end
/-- x += e of a name: numbers, texts -/
def oIAdd : Op2 := fun x y => match x, y with
  | .dat (.int _), .dat (.int _) => oAdd x y
  | .dat (.str _), .dat (.str _) => oAdd x y
  | _, _ => none
/-- is of truths -/
def oIs2 : Op2
  | .dat (.bl a), .dat (.bl b) => some (dB (decide (a = b)))
  | _, _ => none
def oIsNot2 : Op2
  | .dat (.bl a), .dat (.bl b) => some (dB (!decide (a = b)))
  | _, _ => none
/-- t[k], t a table of texts -/
def mTab {γ : Type} (tab : List (List Nat × D)) (k : ME γ) : ME γ := fun e g => (k e g).bind fun y g1 => match y with
  | .dat (.str s) => ofO ((tab.find? (fun q => q.1 == s)).map fun q => .dat q.2) g1
  | _ => .no
/-- a.f(b), a a list, what is told a number -/
def mLm {γ : Type} (f : List D → D → Option Int) (a b : ME γ) : ME γ := fun e g => (a e g).bind fun x g1 => match x.items with
  | some l => (b e g1).bind fun y g2 => ofO ((f l y.val).map fun n => .dat (.int n)) g2
  | none => .no
def oIndex (l : List D) (y : D) : Option Int := if okE 60 y = true ∧ okL 59 l = true then (l.findIdx? fun d => eqv d y).map fun j => ((j : Nat) : Int) else none
/-- a, b, .. = a list -/
def mTgtL {γ : Type} (is : List Nat) (a : ME γ) : MS γ := fun e g => (a e g).bind fun x g1 => match x.items with
  | some ds => match tgL is ds e with
    | some e1 => .ok (.nx e1) g1
    | none => .no
  | none => .no
/-- what is known of a slot behind a try -/
def noX : Sl → Sl
  | .xc _ => .un
  | s => s
@[simp] theorem noX_un : noX .un = .un := rfl
@[simp] theorem noX_dat (d : D) : noX (.dat d) = .dat d := rfl
@[simp] theorem noX_own (d : List D) : noX (.own d) = .own d := rfl
@[simp] theorem noX_gh (k : Nat) : noX (.gh k) = .gh k := rfl
end PB
set_option linter.all false
namespace PB
structure LS where
  a : Nat
  gr : List Int
  told : Int
  cs : List Int
  cnt : Nat
/-- the slot i holds the state -/
def isSt (e : Env) (i : Nat) (s : LS) : Bool := match gt e i with
  | .dat (.ref a) => a == s.a
  | _ => false
def mTold (i : Nat) : ME LS := fun e s => if isSt e i s = true then .ok (.dat (.int s.told)) s else .no
def mCnt (i : Nat) : ME LS := fun e s => if isSt e i s = true then .ok (.dat (.int s.cnt)) s else .no
def mHasG (i : Nat) : MT LS := fun e s => if isSt e i s = true then .ok (!s.gr.isEmpty) s else .no
def mHasC (i : Nat) : MT LS := fun e s => if isSt e i s = true then .ok (!s.cs.isEmpty) s else .no
def mLenC (i : Nat) : ME LS := fun e s => if isSt e i s = true then .ok (.dat (.int s.cs.length)) s else .no
def mAtC (i : Nat) (k : ME LS) : ME LS := fun e s => if isSt e i s = true then (k e s).bind fun x s1 => match x with
  | .dat (.int n) => if isSt e i s1 = true then ofO ((atI s1.cs n).map fun v => .dat (.int v)) s1 else .no
  | _ => .no else .no
def mSetTold (i : Nat) (a : ME LS) : MS LS := fun e s => (a e s).bind fun x s1 => match x with
  | .dat (.int n) => if isSt e i s1 = true then .ok (.nx e) { s1 with told := n } else .no
  | _ => .no
def mPopG (i : Nat) : MS LS := fun e s => if isSt e i s = true then (match s.gr with
  | x :: r => .ok (.nx e) { s with gr := r, told := x }
  | [] => .no) else .no
def mIncC (i : Nat) : MS LS := fun e s => if isSt e i s = true then .ok (.nx e) { s with cnt := s.cnt + 1 } else .no
def LS.Ok (s : LS) : Prop := 0 ≤ s.told ∧ (∀ x ∈ s.gr, 0 < x) ∧ (∀ x ∈ s.cs, 0 ≤ x ∧ x < 2147483629)
end PB
set_option Elab.async false
set_option linter.all false
namespace PB
/-- max, min of a list or a tuple of numbers -/
def Rv.seqI : Rv → Option (List D)
  | .dat (.tup ds) => some ds
  | x => x.items
def oMaxA : OpN
  | [x] => match x.seqI with
    | some ds => match dInts ds with
      | some (n :: ns) => some (.dat (.int (lmax n ns)))
      | _ => none
    | none => none
  | _ => none
/-- x.insert(k, e) -/
def mIns {γ : Type} (i : Nat) (r : MA γ) : MS γ := fun e g => match gt e i with
  | .own ds => (r e g).bind fun ys g1 => match ys with
    | [.dat (.int k), y] => match y.sto with
      | some d => if ds.length < SZ ∧ 0 ≤ k ∧ k ≤ 16777216 then .ok (.nx (st e i (.own (ds.take k.toNat ++ [d] ++ ds.drop k.toNat)))) g1 else .no
      | none => .no
    | _ => .no
  | _ => .no
mutual
def alkD : D → D → Bool
  | .int _, .int _ => true
  | .str _, .str _ => true
  | .tup xs, .tup ys => alkL xs ys
  | _, _ => false
def alkL : List D → List D → Bool
  | x :: xs, y :: ys => alkD x y && alkL xs ys
  | [], _ => true
  | _ :: _, [] => true
end
mutual
def ltD : D → D → Bool
  | .int i, .int j => decide (i < j)
  | .str s, .str t => lexN s t
  | .tup xs, .tup ys => ltL xs ys
  | _, _ => false
def ltL : List D → List D → Bool
  | [], [] => false
  | [], _ :: _ => true
  | _ :: _, [] => false
  | x :: xs, y :: ys => if eqv x y = true then ltL xs ys else ltD x y
end
def alkAll (ds : List D) : Bool := ds.all fun x => ds.all fun y => alkD x y
def minD : D → List D → D
  | m, [] => m
  | m, x :: xs => minD (if ltD x m = true then x else m) xs
/-- min of things that can be compared -/
def oMinT : OpN
  | [x] => match x.seqI with
    | some (d :: ds) => if alkAll (d :: ds) = true ∧ okL 59 (d :: ds) = true then some (.dat (minD d ds)) else none
    | _ => none
  | _ => none
def oLtD : Op2 := fun x y => if alkD x.val y.val = true ∧ okE 60 x.val = true ∧ okE 60 y.val = true then some (dB (ltD x.val y.val)) else none
def dctOf : Sl → Option (Bool × List D × List D)
  | .owd t ks vs => some (t, ks, vs)
  | .dat (.dct t ks vs) => some (t, ks, vs)
  | _ => none
def rngD (i : Int) : Nat → List D
  | 0 => []
  | n + 1 => .int i :: rngD (i - 1) n
/-- range(i, j), range(i, j, -1) -/
def rngA : List Rv → Option (List D)
  | [.dat (.int i), .dat (.int j)] => if RngOk i ∧ RngOk j then some (rng i (j - i).toNat) else none
  | [.dat (.int i), .dat (.int j), .dat (.int c)] => if RngOk i ∧ RngOk j ∧ c = -1 then some (rngD i (i - j).toNat) else none
  | _ => none
section
variable {γ : Type}
def mRangeA (r : MA γ) : MI γ := fun e g => (r e g).bind fun xs g1 => ofO (rngA xs) g1
end
abbrev NL := List (List D)
/-- sum(x), x a tuple of numbers too -/
def oSumA : OpN
  | [x] => match x.seqI with
    | some ds => (dInts ds).map fun ns => .dat (.int ns.sum)
    | none => none
  | _ => none
end PB
set_option Elab.async false
set_option linter.all false
namespace PB
/-- t[:0:-1]: the things of a tuple behind the first one, from the last on -/
def oRev1 : Op1
  | .dat (.tup (_ :: ds)) => some (.dat (.tup ds.reverse))
  | _ => none
end PB
set_option Elab.async false
set_option linter.all false
namespace PB
/-- targets of any kind: each stores its datum -/
abbrev MTg (γ : Type) := D → MS γ
section
variable {γ : Type}
def tkPut (i : Nat) (k : ME γ) : MTg γ := fun d => mPut i k (mC d)
def tkL : List (MTg γ) → List D → MS γ
  | [], [], e, g => .ok (.nx e) g
  | t :: ts, d :: ds, e, g => match t d e g with
    | .ok (.nx e1) g1 => tkL ts ds e1 g1
    | _ => .no
  | _, _, _, _ => .no
def mAsgN (ts : List (MTg γ)) (a : ME γ) : MS γ := fun e g => (a e g).bind fun x g1 => match x with
  | .dat (.tup ds) => tkL ts ds e g1
  | _ => .no
end
end PB
set_option Elab.async false
set_option linter.all false
set_option maxRecDepth 100000
set_option maxHeartbeats 4000000
namespace PB
open PySem PySem.Spec PyProof.Rows L2
abbrev Frag := PySem.W.Frag
def mkS (l : List Nat) : Str := ⟨l.toArray⟩
/-- whether tuples of the written part are met -/
class Kts where
  on : Prop
/-- a tuple of the written part -/
def KT [Kts] (K : Frag) (a : Addr) (xs : List V) : Prop :=
  Kts.on ∧ ∃ (o : Obj) (its : Array Value) (n : Nat), K.lookup a = some o ∧ o.cls = .type "tuple" ∧ o.data = .seq its n ∧ its.size ≤ sizeLine ∧ Vals xs its.toList
/-- a key as data -/
def keyD : Key → D
  | .inl i => .int i
  | .inr s => .str s.cps.toList
/-- a dict stands at a: its keys, its values -/
def DiS (H : Hp) (a : Addr) (t : Bool) (ks : List D) (us : List V) : Prop := match t with
  | true => ∃ kvs : List (List Key × V), H a = some (.dT kvs) ∧ ks = kvs.map (fun kv => .tup (kv.1.map keyD)) ∧ us = kvs.map (·.2)
  | false => ∃ kvs : List (Key × V), H a = some (.dK kvs) ∧ ks = kvs.map (fun kv => keyD kv.1) ∧ us = kvs.map (·.2)
theorem DiS.go {H H' : Hp} {a : Addr} {t : Bool} {ks : List D} {us : List V} (h : DiS H a t ks us) (k : ∀ o, H a = some o → H' a = some o) : DiS H' a t ks us := by
  cases t with
  | true =>
    obtain ⟨kvs, e, r⟩ := h
    exact ⟨kvs, k _ e, r⟩
  | false =>
    obtain ⟨kvs, e, r⟩ := h
    exact ⟨kvs, k _ e, r⟩
theorem DiS.some {H : Hp} {a : Addr} {t : Bool} {ks : List D} {us : List V} (h : DiS H a t ks us) : ∃ o, H a = Option.some o := by
  cases t with
  | true =>
    obtain ⟨kvs, e, r⟩ := h
    exact ⟨_, e⟩
  | false =>
    obtain ⟨kvs, e, r⟩ := h
    exact ⟨_, e⟩
variable [Kts]
mutual
inductive At (K : Frag) (O : Addr → Prop) (H : Hp) : V → D → Prop
  | non : At K O H .non .non
  | bl (b : Bool) : At K O H (.bl b) (.bl b)
  | int (i : Int) : At K O H (.int i) (.int i)
  | str (l : List Nat) (h : l.length ≤ SZ) (h2 : l.all (· < 0x110000) = true) : At K O H (.str (mkS l)) (.str l)
  | tup {a : Addr} {xs : List V} {ds : List D} (h : (H a = some (.tup xs) ∧ ¬ O a) ∨ KT K a xs) (hs : AtL K O H xs ds) : At K O H (.ref a) (.tup ds)
  | lst {a : Addr} {xs : List V} {ds : List D} (h : H a = some (.lst xs)) (h2 : ¬ O a) (hs : AtL K O H xs ds) : At K O H (.ref a) (.lst ds)
  | ref (a : Nat) : At K O H (.ref a) (.ref a)
  | dct {a : Addr} {t : Bool} {ks vs : List D} {us : List V} (h : DiS H a t ks us) (h2 : ¬ O a) (hs : AtL K O H us vs) : At K O H (.ref a) (.dct t ks vs)
inductive AtL (K : Frag) (O : Addr → Prop) (H : Hp) : List V → List D → Prop
  | nil : AtL K O H [] []
  | cons {v : V} {d : D} {xs : List V} {ds : List D} (h : At K O H v d) (hs : AtL K O H xs ds) : AtL K O H (v :: xs) (d :: ds)
end
section
variable {K : Frag} {O O' : Addr → Prop} {H H' : Hp}
theorem AtL.length : ∀ {xs : List V} {ds : List D}, AtL K O H xs ds → xs.length = ds.length
  | _, _, .nil => rfl
  | _, _, .cons _ h => by rw [List.length_cons, List.length_cons, h.length]
mutual
/-- to another heap, another set -/
theorem At.go (f : ∀ a o, H a = some o → ¬ O a → H' a = some o ∧ ¬ O' a) : ∀ {v : V} {d : D}, At K O H v d → At K O' H' v d
  | _, _, .non => .non
  | _, _, .bl b => .bl b
  | _, _, .int i => .int i
  | _, _, .str l h h2 => .str l h h2
  | _, _, .tup h hs => .tup (match h with
    | .inl ⟨h1, h2⟩ => .inl (f _ _ h1 h2)
    | .inr k => .inr k) (hs.go f)
  | _, _, .lst h h2 hs => .lst (f _ _ h h2).1 (f _ _ h h2).2 (hs.go f)
  | _, _, .ref a => .ref a
  | _, _, .dct (H := _) (a := a) h h2 hs => .dct (h.go fun o e => (f a o e h2).1) (match h, h2 with
    | h, h2 => by
      intro z
      obtain ⟨o, e⟩ : ∃ o, H a = some o := h.some
      exact (f a o e h2).2 z) (hs.go f)
theorem AtL.go (f : ∀ a o, H a = some o → ¬ O a → H' a = some o ∧ ¬ O' a) : ∀ {xs : List V} {ds : List D}, AtL K O H xs ds → AtL K O' H' xs ds
  | _, _, .nil => .nil
  | _, _, .cons h hs => .cons (h.go f) (hs.go f)
end
theorem At.less (h : ∀ a, O' a → O a) {v : V} {d : D} (x : At K O H v d) : At K O' H v d := x.go fun _ _ q n => ⟨q, fun z => n (h _ z)⟩
theorem AtL.less (h : ∀ a, O' a → O a) {v : List V} {d : List D} (x : AtL K O H v d) : AtL K O' H v d := x.go fun _ _ q n => ⟨q, fun z => n (h _ z)⟩
theorem AtL.get : ∀ {xs : List V} {ds : List D} {i : Nat} {d : D}, AtL K O H xs ds → ds[i]? = some d → ∃ v, xs[i]? = some v ∧ At K O H v d
  | _, _, _, _, .nil, h => by simp at h
  | _, _, 0, _, .cons a _, h => by
    simp at h
    subst h
    exact ⟨_, rfl, a⟩
  | _, _, i + 1, _, .cons _ r, h => by
    obtain ⟨v, e, q⟩ := AtL.get (i := i) r (by simpa using h)
    exact ⟨v, by simpa using e, q⟩
theorem AtL.get' : ∀ {xs : List V} {ds : List D} {i : Nat} {v : V}, AtL K O H xs ds → xs[i]? = some v → ∃ d, ds[i]? = some d ∧ At K O H v d
  | _, _, _, _, .nil, h => by simp at h
  | _, _, 0, _, .cons a _, h => by
    simp at h
    subst h
    exact ⟨_, rfl, a⟩
  | _, _, i + 1, _, .cons _ r, h => by
    obtain ⟨v, e, q⟩ := AtL.get' (i := i) r (by simpa using h)
    exact ⟨v, by simpa using e, q⟩
theorem AtL.app : ∀ {xs ys : List V} {ds es : List D}, AtL K O H xs ds → AtL K O H ys es → AtL K O H (xs ++ ys) (ds ++ es)
  | _, _, _, _, .nil, h => h
  | _, _, _, _, .cons a r, h => .cons a (r.app h)
theorem AtL.drop : ∀ {xs : List V} {ds : List D} (n : Nat), AtL K O H xs ds → AtL K O H (xs.drop n) (ds.drop n)
  | _, _, 0, h => h
  | _, _, _ + 1, .nil => .nil
  | _, _, n + 1, .cons _ r => r.drop n
theorem AtL.take : ∀ {xs : List V} {ds : List D} (n : Nat), AtL K O H xs ds → AtL K O H (xs.take n) (ds.take n)
  | _, _, 0, _ => .nil
  | _, _, _ + 1, .nil => .nil
  | _, _, n + 1, .cons a r => .cons a (r.take n)
theorem AtL.set : ∀ {xs : List V} {ds : List D} {v : V} {d : D} (n : Nat), AtL K O H xs ds → At K O H v d → AtL K O H (xs.set n v) (ds.set n d)
  | _, _, _, _, _, .nil, _ => .nil
  | _, _, _, _, 0, .cons _ r, h => .cons h r
  | _, _, _, _, n + 1, .cons a r, h => .cons a (r.set n h)
theorem AtL.cut {xs : List V} {ds : List D} (lo hi : Option Int) (h : AtL K O H xs ds) : AtL K O H (cutV xs lo hi) (cut ds lo hi) := by
  unfold cutV PB.cut
  rw [h.length]
  exact (h.drop _).take _
theorem AtL.dInts : ∀ {xs : List V} {ds : List D} {ns : List Int}, AtL K O H xs ds → PB.dInts ds = some ns → xs = ns.map V.int
  | _, _, _, .nil, h => by
    cases h
    rfl
  | _, d :: ds, ns, .cons a r, h => by
    cases d with
    | int i =>
      cases a
      unfold PB.dInts at h
      cases e : PB.dInts ds with
      | none => rw [e] at h; cases h
      | some ms =>
        rw [e] at h
        cases h
        rw [List.map_cons, r.dInts e]
    | _ => cases h
theorem AtL.dBls : ∀ {xs : List V} {ds : List D} {ns : List Bool}, AtL K O H xs ds → PB.dBls ds = some ns → xs = ns.map V.bl
  | _, _, _, .nil, h => by
    cases h
    rfl
  | _, d :: ds, ns, .cons a r, h => by
    cases d with
    | bl i =>
      cases a
      unfold PB.dBls at h
      cases e : PB.dBls ds with
      | none => rw [e] at h; cases h
      | some ms =>
        rw [e] at h
        cases h
        rw [List.map_cons, r.dBls e]
    | _ => cases h
theorem tup_seq {a : Addr} {xs : List V} (h : (H a = some (.tup xs) ∧ ¬ O a) ∨ KT K a xs) : SqT K H a xs := h.elim (fun z => .inl (.inl z.1)) fun z => .inr z.2
end
/-- data that stand nowhere -/
inductive ScV : V → D → Prop
  | non : ScV .non .non
  | bl (b : Bool) : ScV (.bl b) (.bl b)
  | int (i : Int) : ScV (.int i) (.int i)
  | str (l : List Nat) (h : l.length ≤ SZ) (h2 : l.all (· < 0x110000) = true) : ScV (.str (mkS l)) (.str l)
theorem ScV.at {K : Frag} {O : Addr → Prop} {H : Hp} {v : V} {d : D} (h : ScV v d) : At K O H v d := by
  cases h with
  | non => exact .non
  | bl b => exact .bl b
  | int i => exact .int i
  | str l h h2 => exact .str l h h2
/-- the classes of exceptions by number: what stands for each, the name of its field -/
structure XT where
  cl : Nat → Value
  fn : Nat → Str
def XOk (T : XT) (x : Xn) (c : Value) (od : Option Addr) (H : Hp) : Prop := c = T.cl x.cls ∧ match x.fld with
  | none => od = none
  | some d => ∃ p v, od = some p ∧ H p = some (.xd [(T.fn x.cls, v)]) ∧ ScV v d
theorem XOk.go {T : XT} {x : Xn} {c : Value} {od : Option Addr} {H H' : Hp} (h : XOk T x c od H) (k : ∀ p fs, H p = some (.xd fs) → H' p = some (.xd fs)) : XOk T x c od H' := by
  obtain ⟨h1, h2⟩ := h
  refine ⟨h1, ?_⟩
  cases hx : x.fld with
  | none =>
    rw [hx] at h2
    exact h2
  | some d =>
    rw [hx] at h2
    obtain ⟨p, v, e, q, s⟩ := h2
    exact ⟨p, v, e, k p _ q, s⟩
/-- a list, a dict stands there -/
def Cont : HO → Prop
  | .lst _ => True
  | .dK _ => True
  | .dT _ => True
  | _ => False
def Stk (o : Option HO) : Prop := (o ≠ none ∧ ∀ fs, o ≠ some (.xd fs)) ∧ ∃ u, o = some u ∧ Cont u
theorem Stk.of {o : Option HO} {u : HO} (h : o = some u) (c : Cont u) : Stk o := by
  subst h
  exact ⟨⟨(fun z => nomatch z), (fun fs z => by cases z; exact c)⟩, u, rfl, c⟩
theorem Stk.lst {o : Option HO} {xs : List V} (h : o = some (.lst xs)) : Stk o := .of h trivial
theorem Stk.same {o o' : Option HO} (h : Stk o) (k : ∀ u, o = some u → o' = some u) : Stk o' := by
  obtain ⟨_, xs, e, c⟩ := h
  exact .of (k _ e) c
theorem Stk.notT {o : Option HO} (h : Stk o) (xs : List V) : o ≠ some (.tup xs) := by
  obtain ⟨_, u, rfl, c⟩ := h
  intro z
  cases z
  exact c
theorem DiS.stk {H : Hp} {a : Addr} {t : Bool} {ks : List D} {us : List V} (h : DiS H a t ks us) : Stk (H a) := by
  cases t with
  | true =>
    obtain ⟨kvs, e, r⟩ := h
    exact .of e trivial
  | false =>
    obtain ⟨kvs, e, r⟩ := h
    exact .of e trivial
structure Gho (γ : Type) where
  F : Addr → Prop
  I : γ → Hp → Prop
  stab : ∀ g H H', I g H → (∀ a, F a → H' a = H a) → (∀ a xs, H a = some (.tup xs) → H' a = some (.tup xs)) → I g H'
  lsts : ∀ g H a, I g H → F a → Stk (H a)
  ad : Nat → Addr
theorem Gho.stk {γ : Type} (G : Gho γ) (g : γ) (H : Hp) (a : Addr) (i : G.I g H) (f : G.F a) : Stk (H a) := G.lsts g H a i f
theorem Gho.trk {γ : Type} (G : Gho γ) (g : γ) (H : Hp) (a : Addr) (i : G.I g H) (f : G.F a) : H a ≠ none := (G.stk g H a i f).1.1
/-- what is fixed through a whole law: the written part, how exceptions stand, the things beside (a family, one is meant) -/
structure Bs (γ ι : Type) where
  K : Frag
  T : XT
  fam : ι → Gho γ
  i : ι
  xa : Addr × Value × Option Addr
/-- a run of a def: besides, what its values must not be -/
structure Act (γ ι : Type) where
  B : Bs γ ι
  X : Addr → Prop
section
variable {γ ι : Type}
abbrev Act.K (A : Act γ ι) : Frag := A.B.K
abbrev Act.G (A : Act γ ι) : Gho γ := A.B.fam A.B.i
abbrev Act.R (A : Act γ ι) (x : Xn) (c : Value) (od : Option Addr) (H : Hp) : Prop := XOk A.B.T x c od H
def Sl.hs : Sl → Bool
  | .own _ => true
  | .owd _ _ _ => true
  | _ => false
def OwnA (e : Env) (σ : L2.St) (a : Addr) : Prop := ∃ i, (gt e i).hs = true ∧ σ[i]? = some (some (.ref a))
theorem OwnA.of {e : Env} {σ : L2.St} {a : Addr} {i : Nat} {s : Sl} (h : gt e i = s) (hs : s.hs = true) (k : σ[i]? = some (some (.ref a))) : OwnA e σ a := ⟨i, by rw [h]; exact hs, k⟩
def Om (A : Act γ ι) (e : Env) (σ : L2.St) (a : Addr) : Prop := A.X a ∨ OwnA e σ a
def Mu (A : Act γ ι) (e : Env) (σ : L2.St) (a : Addr) : Prop := A.G.F a ∨ OwnA e σ a
/-- what a slot holds -/
def SlOk (B : Bs γ ι) (O : Addr → Prop) (H : Hp) (s : Sl) (x : Option (Option V)) : Prop := match s with
  | .un => True
  | .dat d => ∃ v, x = some (some v) ∧ At B.K O H v d
  | .own ds => ∃ p xs, x = some (some (.ref p)) ∧ H p = some (.lst xs) ∧ AtL B.K O H xs ds
  | .xc y => x = some (some (.ref B.xa.1)) ∧ XOk B.T y B.xa.2.1 B.xa.2.2 H
  | .gh k => x = some (some (.ref ((B.fam B.i).ad k)))
  | .owd t ks vs => ∃ p us, x = some (some (.ref p)) ∧ DiS H p t ks us ∧ AtL B.K O H us vs
structure Rep (A : Act γ ι) (e : Env) (g : γ) (σ : L2.St) (H : Hp) : Prop where
  len : σ.length = e.length
  sl : ∀ i, SlOk A.B (Om A e σ) H (gt e i) σ[i]?
  inj : ∀ i j p, (gt e i).hs = true → (gt e j).hs = true → σ[i]? = some (some (.ref p)) → σ[j]? = some (some (.ref p)) → i = j
  nx : ∀ a, OwnA e σ a → ¬ A.X a
  gh : A.G.I g H
  fx : ∀ a, A.G.F a → A.X a
  xs : ∀ a, A.X a → Stk (H a)
theorem Rep.xt {A : Act γ ι} {e : Env} {g : γ} {σ : L2.St} {H : Hp} (R : Rep A e g σ H) (a : Addr) (h : A.X a) : H a ≠ none := (R.xs a h).1.1
/-- all that stands stands on, but what stands beside -/
def ExE (A : Act γ ι) (H H' : Hp) : Prop := ∀ b o, H b = some o → ¬ A.G.F b → H' b = some o
section
variable {A : Act γ ι} {e : Env} {g g' g1 : γ} {σ : L2.St} {H H' H0 H1 : Hp} {a p : Addr}
theorem ExE.refl (H : Hp) : ExE A H H := fun _ _ h _ => h
theorem ExE.trans {H2 : Hp} (a : ExE A H H1) (b : ExE A H1 H2) : ExE A H H2 := fun x o h n => b x o (a x o h n) n
theorem ExE.back (a : ExE A H H1) (h : H1 p = none) (i' : A.G.I g' H1) : H p = none := by
  cases e : H p with
  | none => rfl
  | some o =>
    by_cases f : A.G.F p
    · exact absurd h (A.G.trk _ _ _ i' f)
    · rw [a p o e f] at h
      cases h
theorem ExE.new {o : HO} (h : H p = none) : ExE A H (upd H p o) := fun b u e _ => by
  rw [upd_ne (ne_of_none e h)]
  exact e
theorem Gho.new {G : Gho γ} {o : HO} (i : G.I g H) (h : H p = none) : G.I g (upd H p o) := G.stab _ _ _ i (fun a f => upd_ne (by
  intro z
  subst z
  exact G.trk _ _ _ i f h)) fun a xs q => by
  rw [upd_ne (ne_of_none q h)]
  exact q
theorem OwnA.stk (R : Rep A e g σ H) (h : OwnA e σ a) : Stk (H a) := by
  obtain ⟨i, h1, h2⟩ := h
  have q := R.sl i
  cases k : gt e i with
  | own ds =>
    rw [k] at q
    obtain ⟨p, xs, e, k, _⟩ := q
    rw [h2] at e
    cases e
    exact .lst k
  | owd t ks vs =>
    rw [k] at q
    obtain ⟨p, us, e, k, _⟩ := q
    rw [h2] at e
    cases e
    exact k.stk
  | _ =>
    rw [k] at h1
    cases h1
theorem Rep.notF (R : Rep A e g σ H) (h : OwnA e σ a) : ¬ A.G.F a := fun z => R.nx a h (R.fx a z)
theorem Rep.omt (R : Rep A e g σ H) (h : Om A e σ a) : H a ≠ none := by
  rcases h with h | h
  · exact R.xt a h
  · exact (h.stk R).1.1
theorem Rep.oms (R : Rep A e g σ H) (h : Om A e σ a) : Stk (H a) := by
  rcases h with h | h
  · exact R.xs a h
  · exact h.stk R
theorem Rep.muom (R : Rep A e g σ H) (h : Mu A e σ a) : Om A e σ a := h.elim (fun z => .inl (R.fx a z)) .inr
/-- an exception's dict is nobody's -/
theorem Rep.nxd (R : Rep A e g σ H) {p : Addr} {fs : List (Str × V)} (h : H p = some (.xd fs)) : ¬ Om A e σ p := by
  rintro (z | z)
  · exact (R.xs p z).1.2 fs h
  · exact (z.stk R).1.2 fs h
/-- values are kept through an expression -/
theorem Rep.at (R : Rep A e g σ H0) (x : ExE A H H') {v : V} {d : D} (h : At A.K (Om A e σ) H v d) : At A.K (Om A e σ) H' v d :=
  h.go fun a o q n => ⟨x a o q fun z => n (.inl (R.fx a z)), n⟩
theorem Rep.atL (R : Rep A e g σ H0) (x : ExE A H H') {v : List V} {d : List D} (h : AtL A.K (Om A e σ) H v d) : AtL A.K (Om A e σ) H' v d :=
  h.go fun a o q n => ⟨x a o q fun z => n (.inl (R.fx a z)), n⟩
theorem Rep.exe (R : Rep A e g σ H) (x : ExE A H H') (i : A.G.I g' H') : Rep A e g' σ H' where
  len := R.len
  sl := fun j => by
    have q := R.sl j
    cases h : gt e j with
    | un => trivial
    | dat d =>
      rw [h] at q
      obtain ⟨v, e1, a⟩ := q
      exact ⟨v, e1, R.at x a⟩
    | own ds =>
      rw [h] at q
      obtain ⟨p, xs, e1, k, a⟩ := q
      exact ⟨p, xs, e1, x p _ k (R.notF (.of h rfl e1)), R.atL x a⟩
    | xc y =>
      rw [h] at q
      exact ⟨q.1, q.2.go fun p fs k => x p _ k fun z => R.nxd k (.inl (R.fx p z))⟩
    | gh k =>
      rw [h] at q
      exact q
    | owd t ks vs =>
      rw [h] at q
      obtain ⟨p, us, e1, k, a⟩ := q
      exact ⟨p, us, e1, k.go fun o e => x p o e (R.notF (.of h rfl e1)), R.atL x a⟩
  inj := R.inj
  nx := R.nx
  gh := i
  fx := R.fx
  xs := fun a ha => by
    by_cases f : A.G.F a
    · exact A.G.stk _ _ _ i f
    · exact (R.xs a ha).same fun u q => x a u q f
end
/-- what an expression's value is: H0 the heap ahead of it -/
def VOk (A : Act γ ι) (e : Env) (σ : L2.St) (H0 H : Hp) (r : Rv) (v : V) : Prop := match r with
  | .dat d => At A.K (Om A e σ) H v d
  | .own ds => ∃ p xs, v = .ref p ∧ H0 p = none ∧ H p = some (.lst xs) ∧ AtL A.K (fun a => Om A e σ a ∨ a = p) H xs ds
  | .bor ds => ∃ p xs, v = .ref p ∧ OwnA e σ p ∧ H p = some (.lst xs) ∧ AtL A.K (Om A e σ) H xs ds
section
variable {A : Act γ ι} {e : Env} {g g' g1 : γ} {σ : L2.St} {H H' H0 H1 : Hp} {p : Addr} {r : Rv} {v : V}
theorem VOk.step (R : Rep A e g σ H0) (x : ExE A H H') (h : VOk A e σ H0 H r v) : VOk A e σ H0 H' r v := by
  cases r with
  | dat d => exact At.go (fun a o q n => ⟨x a o q fun z => n (.inl (R.fx a z)), n⟩) h
  | own ds =>
    obtain ⟨p, xs, e1, h0, k, a⟩ := h
    refine ⟨p, xs, e1, h0, x p _ k fun z => R.xt p (R.fx p z) h0, a.go fun a o q n => ⟨x a o q fun z => n (.inl (.inl (R.fx a z))), n⟩⟩
  | bor ds =>
    obtain ⟨p, xs, e1, h0, k, a⟩ := h
    exact ⟨p, xs, e1, h0, x p _ k (R.notF h0), a.go fun a o q n => ⟨x a o q fun z => n (.inl (R.fx a z)), n⟩⟩
/-- from a later beginning -/
theorem VOk.pre (x : ExE A H0 H1) (i : A.G.I g1 H1) (h : VOk A e σ H1 H r v) : VOk A e σ H0 H r v := by
  cases r with
  | dat d => exact h
  | own ds =>
    obtain ⟨p, xs, e1, h0, k, a⟩ := h
    exact ⟨p, xs, e1, x.back h0 i, k, a⟩
  | bor ds => exact h
/-- the value as a datum, of what a def may be handed -/
theorem VOk.weak (R : Rep A e g σ H0) (h : VOk A e σ H0 H r v) : At A.K A.X H v r.val := by
  cases r with
  | dat d => exact At.less (fun a z => .inl z) h
  | own ds =>
    obtain ⟨p, xs, e1, h0, k, a⟩ := h
    subst e1
    exact .lst k (fun z => R.xt p z h0) (a.less fun a z => .inl (.inl z))
  | bor ds =>
    obtain ⟨p, xs, e1, h0, k, a⟩ := h
    subst e1
    exact .lst k (R.nx p h0) (a.less fun a z => .inl z)
theorem VOk.sto (R : Rep A e g σ H0) {d : D} (h : VOk A e σ H0 H r v) (hs : r.sto = some d) : At A.K (Om A e σ) H v d := by
  cases r with
  | dat d' =>
    cases hs
    exact h
  | own ds =>
    cases hs
    obtain ⟨p, xs, e1, h0, k, a⟩ := h
    subst e1
    exact .lst k (fun z => R.omt z h0) (a.less fun a z => .inl z)
  | bor ds => cases hs
/-- the items of a list of either kind -/
theorem VOk.items (R : Rep A e g σ H0) {ds : List D} (h : VOk A e σ H0 H r v) (hs : r.items = some ds) : ∃ p xs, v = .ref p ∧ H p = some (.lst xs) ∧ AtL A.K (Om A e σ) H xs ds := by
  cases r with
  | dat d' =>
    cases d' with
    | lst es =>
      cases hs
      cases h with
      | lst h1 h2 h3 => exact ⟨_, _, rfl, h1, h3⟩
    | _ => cases hs
  | own es =>
    cases hs
    obtain ⟨p, xs, e1, h0, k, a⟩ := h
    exact ⟨p, xs, e1, k, a.less fun a z => .inl z⟩
  | bor es =>
    cases hs
    obtain ⟨p, xs, e1, h0, k, a⟩ := h
    exact ⟨p, xs, e1, k, a⟩
/-- a new list -/
theorem VOk.mk (x : ExE A H0 H) (i : A.G.I g1 H) {xs : List V} {ds : List D} (h : AtL A.K (Om A e σ) H xs ds) (hp : H p = none) :
    VOk A e σ H0 (upd H p (.lst xs)) (.own ds) (.ref p) :=
  ⟨p, xs, rfl, x.back hp i, upd_same, h.go fun a o q n => ⟨by rw [upd_ne (ne_of_none q hp)]; exact q, fun z => z.elim n fun e => ne_of_none q hp e⟩⟩
theorem At.mkT (R : Rep A e g σ H0) (x : ExE A H0 H) (i : A.G.I g1 H) {xs : List V} {ds : List D} (h : AtL A.K (Om A e σ) H xs ds) (hp : H p = none) :
    At A.K (Om A e σ) (upd H p (.tup xs)) (.ref p) (.tup ds) :=
  .tup (.inl ⟨upd_same, fun z => R.omt z (x.back hp i)⟩) (h.go fun a o q n => ⟨by rw [upd_ne (ne_of_none q hp)]; exact q, n⟩)
end
inductive VOkL (A : Act γ ι) (e : Env) (σ : L2.St) (H0 H : Hp) : List Rv → List V → Prop
  | nil : VOkL A e σ H0 H [] []
  | cons {r : Rv} {v : V} {rs : List Rv} {vs : List V} (h : VOk A e σ H0 H r v) (hs : VOkL A e σ H0 H rs vs) : VOkL A e σ H0 H (r :: rs) (v :: vs)
section
variable {A : Act γ ι} {e : Env} {g g' g1 : γ} {σ : L2.St} {H H' H0 H1 : Hp}
theorem VOkL.pre (x : ExE A H0 H1) (i : A.G.I g1 H1) {r : List Rv} {v : List V} (h : VOkL A e σ H1 H r v) : VOkL A e σ H0 H r v := by
  induction h with
  | nil => exact .nil
  | cons h _ ih => exact .cons (h.pre x i) ih
theorem VOkL.sto (R : Rep A e g σ H0) {rs : List Rv} {vs : List V} (h : VOkL A e σ H0 H rs vs) : ∀ {ds : List D}, stoL rs = some ds → AtL A.K (Om A e σ) H vs ds := by
  induction h with
  | nil =>
    intro ds hs
    cases hs
    exact .nil
  | @cons r v rs vs h _ ih =>
    intro ds hs
    unfold stoL at hs
    cases e1 : r.sto with
    | none => rw [e1] at hs; cases hs
    | some d =>
      cases e2 : stoL rs with
      | none => rw [e1, e2] at hs; cases hs
      | some es =>
        rw [e1, e2] at hs
        cases hs
        exact .cons (h.sto R e1) (ih e2)
end
abbrev WX := Value → Option Addr → L2.St → Hp → Prop
abbrev W0 : WX := fun _ _ _ _ => False
/-- what is wanted of a result that began at H -/
def RK {α β : Type} (P : Act γ ι → Env → L2.St → Hp → Hp → α → β → Prop) (A : Act γ ι) (W : WX) (e : Env) (σ : L2.St) (H : Hp) (r : Rs γ α) (Q : β → Hp → Prop) : Prop := match r with
  | .ok a g' => ∀ b H', ExE A H H' → A.G.I g' H' → P A e σ H H' a b → Q b H'
  | .ex x g' => ∀ c od H', ExE A H H' → A.G.I g' H' → A.R x c od H' → W c od σ H'
  | .no => False
def RG {α β : Type} (P : Act γ ι → Env → L2.St → Hp → Hp → α → β → Prop) (B : Bs γ ι) (W : WX) (m : Env → γ → Rs γ α) : L2.St → Hp → (β → Hp → Prop) → Prop :=
  fun σ H Q => ∃ (S : Addr → Prop) (e : Env) (g : γ), Rep ⟨B, S⟩ e g σ H ∧ RK P ⟨B, S⟩ W e σ H (m e g) Q
abbrev PB_ : Act γ ι → Env → L2.St → Hp → Hp → Bool → Bool → Prop := fun _ _ _ _ _ a b => a = b
abbrev RE (B : Bs γ ι) (W : WX) (m : ME γ) : TE := RG VOk B W m
abbrev RT (B : Bs γ ι) (W : WX) (m : MT γ) : TT := RG PB_ B W m
abbrev RA (B : Bs γ ι) (W : WX) (m : MA γ) : TA := RG VOkL B W m
theorem RK.bind {α β α' β' : Type} {P : Act γ ι → Env → L2.St → Hp → Hp → α → β → Prop} {P' : Act γ ι → Env → L2.St → Hp → Hp → α' → β' → Prop} {A : Act γ ι} {W : WX} {e : Env} {σ : L2.St} {H H1 : Hp} {m : Rs γ α'} {f : α' → γ → Rs γ α} {Q : β → Hp → Prop} {k : β' → Hp → Prop}
    (x : ExE A H H1) (h : RK P A W e σ H (m.bind f) Q) (hk : ∀ a g1 b H2, ExE A H1 H2 → ExE A H H2 → A.G.I g1 H2 → P' A e σ H1 H2 a b → RK P A W e σ H (f a g1) Q → k b H2) : RK P' A W e σ H1 m k := by
  cases m with
  | no => exact h
  | ex y g => exact fun c od H' x' => h c od H' (x.trans x')
  | ok a g => exact fun b H' x' i p => hk a g b H' x' (x.trans x') i p h
theorem RK.ofO {α β : Type} {P : Act γ ι → Env → L2.St → Hp → Hp → α → β → Prop} {A : Act γ ι} {W : WX} {e : Env} {σ : L2.St} {H : Hp} {o : Option α} {g : γ} {Q : β → Hp → Prop} (h : RK P A W e σ H (PB.ofO o g) Q) :
    ∃ a, o = some a ∧ ∀ b H', ExE A H H' → A.G.I g H' → P A e σ H H' a b → Q b H' := by
  cases o with
  | none => exact h.elim
  | some a => exact ⟨a, rfl, h⟩
end
theorem pe_w {X : Cx} {e : Expr} {t t' : TE} (h : PE X e t) (w : ∀ σ H Q, t' σ H Q → t σ H Q) : PE X e t' := ⟨fun pins s σ H Q I q => h.run pins s σ H Q I (w σ H Q q)⟩
theorem pt_w {X : Cx} {e : Expr} {t t' : TT} (h : PT X e t) (w : ∀ σ H Q, t' σ H Q → t σ H Q) : PT X e t' := ⟨fun pins s σ H Q I q => h.run pins s σ H Q I (w σ H Q q)⟩
theorem pw_w {X : Cx} {e : Expr} {t t' : TT} (h : PW X e t) (w : ∀ σ H Q, t' σ H Q → t σ H Q) : PW X e t' := ⟨fun wh pins s σ H Q I q => h.run wh pins s σ H Q I (w σ H Q q)⟩
theorem pa_w {X : Cx} {e : List Expr} {t t' : TA} (h : PA X e t) (w : ∀ σ H Q, t' σ H Q → t σ H Q) : PA X e t' := ⟨fun pos pins s σ H Q I q => h.run pos pins s σ H Q I (w σ H Q q)⟩
theorem po_w {X : Cx} {e : Option Expr} {t t' : TO} (h : PO X e t) (w : ∀ σ H Q, t' σ H Q → t σ H Q) : PO X e t' := ⟨fun pins s σ H Q I q => h.run pins s σ H Q I (w σ H Q q)⟩
theorem pi_w {X : Cx} {tg e : Expr} {t t' : TI} (h : PI X tg e t) (w : ∀ σ H Q, t' σ H Q → t σ H Q) : PI X tg e t' := ⟨fun pins s σ H Q I q => h.run pins s σ H Q I (w σ H Q q)⟩
theorem pg_w {X : Cx} {e : Expr} {t t' : TG} (h : PG X e t) (w : ∀ v σ H Q, t' v σ H Q → t v σ H Q) : PG X e t' := ⟨fun pins s σ H v u Q I r q => h.run pins s σ H v u Q I r (w v σ H Q q)⟩
theorem ps_w {X : Cx} {e : Stmt} {t t' : TS} (h : PS X e t) (w : ∀ D σ H, t' D σ H → t D σ H) : PS X e t' := ⟨fun pins s σ H D I q => h.run pins s σ H D I (w D σ H q)⟩
theorem pss_w {X : Cx} {e : List Stmt} {t t' : TS} (h : PSs X e t) (w : ∀ D σ H, t' D σ H → t D σ H) : PSs X e t' := ⟨fun pins s σ H D I q => h.run pins s σ H D I (w D σ H q)⟩
theorem OpR.or {X : Cx} {f : Value → Value → Sem Value} {r r' : R2} (h : OpR X f r) (h' : OpR X f r') : OpR X f (fun x y H Q => r x y H Q ∨ r' x y H Q) := by
  intro pins s σ H x y v u Q I rx ry q
  rcases q with q | q
  · exact h pins s σ H x y v u Q I rx ry q
  · exact h' pins s σ H x y v u Q I rx ry q
theorem OpR.w {X : Cx} {f : Value → Value → Sem Value} {r r' : R2} (h : OpR X f r) (w : ∀ x y H Q, r' x y H Q → r x y H Q) : OpR X f r' := fun pins s σ H x y v u Q I rx ry q => h pins s σ H x y v u Q I rx ry (w _ _ _ _ q)
section
variable {γ ι : Type} {B : Bs γ ι} {W : WX} {X : Cx} {pos : Pos}
/-- the heap is as it was, or has one thing more -/
def Nw (H H' : Hp) : Prop := H' = H ∨ ∃ p o, H p = none ∧ H' = upd H p o
theorem Nw.exe {A : Act γ ι} {H H' : Hp} (h : Nw H H') : ExE A H H' := by
  rcases h with rfl | ⟨p, o, h, rfl⟩
  · exact .refl _
  · exact .new h
theorem Nw.gh {G : Gho γ} {g : γ} {H H' : Hp} (h : Nw H H') (i : G.I g H) : G.I g H' := by
  rcases h with rfl | ⟨p, o, h, rfl⟩
  · exact i
  · exact Gho.new i h
/-- what an operation by values is to show -/
def OpS2 (B : Bs γ ι) (f : Op2) (r : R2) : Prop := ∀ (S : Addr → Prop) (e : Env) (g g1 : γ) (σ : L2.St) (H0 H : Hp) (x y z : Rv) (vx vy : V) (Q : VK), Rep ⟨B, S⟩ e g σ H0 → ExE ⟨B, S⟩ H0 H → (B.fam B.i).I g1 H →
  VOk ⟨B, S⟩ e σ H0 H x vx → VOk ⟨B, S⟩ e σ H0 H y vy → f x y = some z → (∀ v H', Nw H H' → VOk ⟨B, S⟩ e σ H0 H' z v → Q v H') → r vx vy H Q
def OpSN (B : Bs γ ι) (f : OpN) (r : List V → Hp → VK → Prop) : Prop := ∀ (S : Addr → Prop) (e : Env) (g g1 : γ) (σ : L2.St) (H0 H : Hp) (xs : List Rv) (z : Rv) (vs : List V) (Q : VK), Rep ⟨B, S⟩ e g σ H0 → ExE ⟨B, S⟩ H0 H → (B.fam B.i).I g1 H →
  VOkL ⟨B, S⟩ e σ H0 H xs vs → f xs = some z → (∀ v H', Nw H H' → VOk ⟨B, S⟩ e σ H0 H' z v → Q v H') → r vs H Q
theorem re_op2 {f : Op2} {r : R2} (hs : OpS2 B f r) {a b : ME γ} {σ : L2.St} {H : Hp} {Q : VK} (h : RE B W (mOp2 f a b) σ H Q) : tOp r (RE B W a) (RE B W b) σ H Q := by
  obtain ⟨S, e, g, R, h⟩ := h
  refine ⟨S, e, g, R, RK.bind (.refl H) h fun x g1 vx H1 _ x1 i1 o1 h1 => ?_⟩
  refine ⟨S, e, g1, R.exe x1 i1, RK.bind x1 h1 fun y g2 vy H2 x12 x2 i2 o2 h2 => ?_⟩
  obtain ⟨z, ez, q⟩ := h2.ofO
  exact hs S e g g2 σ H H2 x y z vx vy Q R x2 i2 (o1.step R x12) (o2.pre x1 i1) ez fun v H' n o => q v H' (x2.trans n.exe) (n.gh i2) o
theorem re_opN {f : OpN} {r : List V → Hp → VK → Prop} (hs : OpSN B f r) {a : MA γ} {σ : L2.St} {H : Hp} {Q : VK} (h : RE B W (mOpN f a) σ H Q) : tCB r (RA B W a) σ H Q := by
  obtain ⟨S, e, g, R, h⟩ := h
  refine ⟨S, e, g, R, RK.bind (.refl H) h fun x g1 vx H1 _ x1 i1 o1 h1 => ?_⟩
  obtain ⟨z, ez, q⟩ := h1.ofO
  exact hs S e g g1 σ H H1 x z vx Q R x1 i1 o1 ez fun v H' n o => q v H' (x1.trans n.exe) (n.gh i1) o
/-- names, constants -/
theorem re_var {i : Nat} {σ : L2.St} {H : Hp} {Q : VK} (h : RE B W (mVar i) σ H Q) : tVar i σ H Q := by
  obtain ⟨S, e, g, R, h⟩ := h
  have q := R.sl i
  unfold mVar at h
  cases k : gt e i with
  | un =>
    rw [k] at h
    exact h.elim
  | dat d =>
    rw [k] at h q
    obtain ⟨v, e1, a⟩ := q
    exact ⟨v, e1, h v H (.refl H) R.gh a⟩
  | own ds =>
    rw [k] at h q
    obtain ⟨p, xs, e1, h1, a⟩ := q
    exact ⟨.ref p, e1, h (.ref p) H (.refl H) R.gh ⟨p, xs, rfl, .of k rfl e1, h1, a⟩⟩
  | xc y =>
    rw [k] at h
    exact h.elim
  | gh y =>
    rw [k] at h
    exact h.elim
  | owd t ks vs =>
    rw [k] at h
    exact h.elim
theorem pb_var (i : Nat) {x : Str} (hN : X.N[i]? = some x := by rfl) (hv : Vis X.env.scope x := by first | exact Or.inl rfl | exact Or.inr (Or.inl rfl) | exact Or.inr (Or.inr rfl)) (hd : (x == ("__debug__" : Str)) = false := by decide)
    (hcd : (x == ("__classdict__" : Str)) = false := by decide) : PE X (.Name x pos) (RE B W (mVar i)) := pe_w (pe_var hN hv hd hcd) fun _ _ _ => re_var
theorem re_c {v : V} {d : D} (ha : ∀ O H, At B.K O H v d) {σ : L2.St} {H : Hp} {Q : VK} (h : RE B W (mC d) σ H Q) : tC v σ H Q := by
  obtain ⟨S, e, g, R, h⟩ := h
  exact h v H (.refl H) R.gh (ha _ _)
theorem pb_int {i j} : PE X (.Constant (.int i) j pos) (RE B W (mC (.int i))) := pe_w pe_int fun _ _ _ => re_c fun _ _ => .int i
theorem pb_bl {b j} : PE X (.Constant (.bool b) j pos) (RE B W (mC (.bl b))) := pe_w pe_bl fun _ _ _ => re_c fun _ _ => .bl b
theorem pb_non {j} : PE X (.Constant .none j pos) (RE B W (mC .non)) := pe_w pe_non fun _ _ _ => re_c fun _ _ => .non
theorem str_mk {s : Str} {l : List Nat} (h : s = mkS l) (h1 : decide (l.length ≤ SZ) = true) (h2 : l.all (· < 0x110000) = true) (K : Frag) (O : Addr → Prop) (H : Hp) : At K O H (.str s) (.str l) := by
  rw [h]
  exact .str l (of_decide_eq_true h1) h2
theorem pb_str {x : Str} {j} (l : List Nat) (h : x = mkS l := by decide +kernel) (h1 : decide (l.length ≤ SZ) = true := by decide +kernel) (h2 : l.all (· < 0x110000) = true := by decide +kernel) : PE X (.Constant (.str x) j pos) (RE B W (mC (.str l))) :=
  pe_w pe_str fun _ _ _ => re_c fun O H => str_mk h h1 h2 _ O H
/-- a module's constant, a def, a class -/
theorem pb_glob {x : Str} {v : V} {u : Value} (d : D) (hg : Gl X x) (hm : X.mg x = some u) (r : RelV v u) (ha : ∀ O H, At B.K O H v d) (hd : (x == ("__debug__" : Str)) = false := by decide) : PE X (.Name x pos) (RE B W (mC d)) :=
  pe_w (pe_glob hg hm r hd) fun _ _ _ => re_c ha
variable {a b c : Expr} {ma mb mc : ME γ}
theorem pb_op {op : Operator} {f : Op2} {r : R2} (ho : OpR X (binaryOp op) r) (hs : OpS2 B f r) (ha : PE X a (RE B W ma)) (hb : PE X b (RE B W mb)) : PE X (.BinOp a op b pos) (RE B W (mOp2 f ma mb)) :=
  pe_w (pe_op ho ha hb) fun _ _ _ => re_op2 hs
theorem pb_cmp {op : CmpOp} {f : Op2} {r : R2} (ho : OpR X (compareOp op) r) (hs : OpS2 B f r) (ha : PE X a (RE B W ma)) (hb : PE X b (RE B W mb)) (hm : behindInMarks op b = false) : PE X (.Compare a [op] [b] pos) (RE B W (mOp2 f ma mb)) :=
  pe_w (pe_cmpR ho ha hb hm) fun _ _ _ => re_op2 hs
theorem pb_ix {f : Op2} {r : R2} (ho : IxR X r) (hs : OpS2 B f r) (ha : PE X a (RE B W ma)) (hb : PE X b (RE B W mb)) (hp : PlainIx b) : PE X (.Subscript a b pos) (RE B W (mOp2 f ma mb)) :=
  pe_w (pe_ix ho ha hb hp) fun _ _ _ => re_op2 hs
end
end PB
set_option Elab.async false
set_option linter.all false
set_option maxRecDepth 100000
set_option maxHeartbeats 4000000
namespace PB
open PySem PySem.Spec PyProof.Rows L2
variable [Kts]
mutual
def toPy : D → PyData
  | .non => .none
  | .bl b => .bool b
  | .int i => .int i
  | .str l => .str (mkS l)
  | .tup ds => .tuple (toPyL ds)
  | .lst ds => .list (toPyL ds)
  | .ref _ => .none
  | .dct _ _ _ => .none
def toPyL : List D → List PyData
  | [] => []
  | d :: ds => toPy d :: toPyL ds
end
theorem mkS_inj {l m : List Nat} (h : mkS l = mkS m) : l = m := by
  have := congrArg (fun s => s.cps.toList) h
  simpa [mkS] using this
theorem mkS_beq (l m : List Nat) : (mkS l == mkS m) = (l == m) := by
  by_cases h : l = m
  · subst h
    simp
  · have h2 : ¬ mkS l = mkS m := fun z => h (mkS_inj z)
    rw [beq_eq_false_iff_ne.mpr h, beq_eq_false_iff_ne.mpr h2]
theorem mkS_len (l : List Nat) : (mkS l).length = l.length := by simp [mkS, Str.length]
theorem mkS_list (l : List Nat) : (mkS l).cps.toList = l := by simp [mkS]
mutual
theorem eqv_toPy : ∀ (x y : D), (∃ n, okE n x = true) → (∃ n, okE n y = true) → PyData.eqv (toPy x) (toPy y) = eqv x y
  | .non, y, _, hy => by cases y <;> first | rfl | (obtain ⟨n, h⟩ := hy; cases n <;> simp [okE] at h)
  | .bl _, y, _, hy => by cases y <;> first | rfl | (obtain ⟨n, h⟩ := hy; cases n <;> simp [okE] at h)
  | .int _, y, _, hy => by cases y <;> first | rfl | (obtain ⟨n, h⟩ := hy; cases n <;> simp [okE] at h)
  | .str _, y, _, hy => by cases y <;> first | rfl | exact mkS_beq _ _ | (obtain ⟨n, h⟩ := hy; cases n <;> simp [okE] at h)
  | .tup xs, y, hx, hy => by
    cases y with
    | tup ys => exact eqvL_toPy xs ys (by obtain ⟨n, h⟩ := hx; cases n <;> simp [okE] at h; exact ⟨_, h⟩) (by obtain ⟨n, h⟩ := hy; cases n <;> simp [okE] at h; exact ⟨_, h⟩)
    | ref _ => obtain ⟨n, h⟩ := hy; cases n <;> simp [okE] at h
    | _ => rfl
  | .lst xs, y, hx, hy => by
    cases y with
    | lst ys => exact eqvL_toPy xs ys (by obtain ⟨n, h⟩ := hx; cases n <;> simp [okE] at h; exact ⟨_, h⟩) (by obtain ⟨n, h⟩ := hy; cases n <;> simp [okE] at h; exact ⟨_, h⟩)
    | ref _ => obtain ⟨n, h⟩ := hy; cases n <;> simp [okE] at h
    | _ => rfl
  | .ref _, _, hx, _ => by obtain ⟨n, h⟩ := hx; cases n <;> simp [okE] at h
theorem eqvL_toPy : ∀ (xs ys : List D), (∃ n, okL n xs = true) → (∃ n, okL n ys = true) → PyData.eqvAll (toPyL xs) (toPyL ys) = eqvL xs ys
  | [], ys, _, _ => by cases ys <;> rfl
  | x :: xs, [], _, _ => rfl
  | x :: xs, y :: ys, hx, hy => by
    obtain ⟨n, hx⟩ := hx
    obtain ⟨m, hy⟩ := hy
    simp only [okL, Bool.and_eq_true] at hx hy
    show (PyData.eqv (toPy x) (toPy y) && PyData.eqvAll (toPyL xs) (toPyL ys)) = (eqv x y && eqvL xs ys)
    rw [eqv_toPy x y ⟨n, hx.1⟩ ⟨m, hy.1⟩, eqvL_toPy xs ys ⟨n, hx.2⟩ ⟨m, hy.2⟩]
end
section
variable {K : Frag} {O : Addr → Prop} {H : Hp}
mutual
theorem dp_of : ∀ {v : V} {d : D} {n : Nat}, At K O H v d → okE n d = true → Dp K H v (toPy d)
  | _, _, _, .non, _ => .non
  | _, _, _, .bl b, _ => .bl b
  | _, _, _, .int i, _ => .int i
  | _, _, _, .str l _ _, _ => .str _
  | _, _, 0, .tup _ _, e => by simp [okE] at e
  | _, _, 0, .lst _ _ _, e => by simp [okE] at e
  | _, _, n + 1, .tup h hs, e => .tup (tup_seq h) (dpL_of hs e)
  | _, _, n + 1, .lst h _ hs, e => .lst (SqL.of h) (dpL_of hs e)
  | _, _, 0, .ref _, e => by simp [okE] at e
  | _, _, _ + 1, .ref _, e => by simp [okE] at e
theorem dpL_of : ∀ {xs : List V} {ds : List D} {n : Nat}, AtL K O H xs ds → okL n ds = true → DpAll K H xs (toPyL ds)
  | _, _, _, .nil, _ => .nil
  | _, _, n, .cons h hs, e => by
    simp only [okL, Bool.and_eq_true] at e
    exact .cons (dp_of h e.1) (dpL_of hs e.2)
end
mutual
theorem lay_of : ∀ {v : V} {d : D} {n : Nat}, At K O H v d → okE n d = true → (toPy d).canLay0 = true ∧ (toPy d).depth ≤ n
  | _, _, _, .non, _ => ⟨by simp [toPy, PyData.canLay0], by simp [toPy, PyData.depth]⟩
  | _, _, _, .bl b, _ => ⟨by simp [toPy, PyData.canLay0], by simp [toPy, PyData.depth]⟩
  | _, _, _, .int i, _ => ⟨by simp [toPy, PyData.canLay0], by simp [toPy, PyData.depth]⟩
  | _, _, _, .str l _ h, _ => ⟨by
      simp only [toPy, PyData.canLay0, PyData.strOk, mkS]
      first
        | simpa using h
        | (unfold PyData.strOk; simpa using h), by simp [toPy, PyData.depth]⟩
  | _, _, 0, .tup _ _, e => by simp [okE] at e
  | _, _, 0, .lst _ _ _, e => by simp [okE] at e
  | _, _, n + 1, .tup h hs, e => by
    obtain ⟨h1, h2⟩ := layL_of hs e
    exact ⟨by simpa [toPy, PyData.canLay0] using h1, by simp only [toPy, PyData.depth]; omega⟩
  | _, _, n + 1, .lst h _ hs, e => by
    obtain ⟨h1, h2⟩ := layL_of hs e
    exact ⟨by simpa [toPy, PyData.canLay0] using h1, by simp only [toPy, PyData.depth]; omega⟩
  | _, _, 0, .ref _, e => by simp [okE] at e
  | _, _, _ + 1, .ref _, e => by simp [okE] at e
theorem layL_of : ∀ {xs : List V} {ds : List D} {n : Nat}, AtL K O H xs ds → okL n ds = true → PyData.canLayAll0 (toPyL ds) = true ∧ PyData.depthAll (toPyL ds) ≤ n
  | _, _, _, .nil, _ => ⟨by simp [toPyL, PyData.canLayAll0], by simp [toPyL, PyData.depthAll]⟩
  | _, _, n, .cons h hs, e => by
    simp only [okL, Bool.and_eq_true] at e
    obtain ⟨h1, h2⟩ := lay_of h e.1
    obtain ⟨h3, h4⟩ := layL_of hs e.2
    exact ⟨by simp [toPyL, PyData.canLayAll0, h1, h3], by simp only [toPyL, PyData.depthAll]; omega⟩
end
theorem shaped_of {v : V} {d : D} {n : Nat} (h : At K O H v d) (e : okE n d = true) (hn : n ≤ 64) : SeqAt.shaped (toPy d) = true := by
  obtain ⟨h1, h2⟩ := lay_of h e
  unfold SeqAt.shaped
  rw [h1, decide_eq_true (by omega)]
  rfl
end
theorem szle {n : Nat} (h : n ≤ SZ) : n ≤ sizeLine := by
  rw [sizeLine_eq]
  exact h
theorem szlt {n : Nat} (h : n < SZ) : n < sizeLine := by
  rw [sizeLine_eq]
  exact h
theorem ixN_eq (n : Nat) (i : Int) : PB.ixN n i = L2.ixN n i := rfl
theorem AtL.atI {K : Frag} {O : Addr → Prop} {H : Hp} {xs : List V} {ds : List D} {i : Int} {d : D} (h : AtL K O H xs ds) (e : PB.atI ds i = some d) : ∃ v, L2.atI xs i = some v ∧ At K O H v d := by
  unfold PB.atI at e
  unfold L2.atI
  rw [h.length]
  rw [ixN_eq] at e
  cases q : L2.ixN ds.length i with
  | none =>
    rw [q] at e
    cases e
  | some j =>
    rw [q] at e
    exact h.get (by simpa using e)
section
variable {γ ι : Type} {B : Bs γ ι} {X : Cx}
theorem os_add : OpS2 B oAdd (fun x y H Q => rI0 (fun i j => .int (i + j)) x y H Q ∨ (∃ i j, x = .str i ∧ y = .str j ∧ i.length + j.length ≤ sizeLine ∧ Q (.str (i ++ j)) H) ∨ rCatA B.K x y H Q ∨ rCat x y H Q) := by
  intro S e g g1 σ H0 H x y z vx vy Q R x0 i1 ox oy hz hq
  unfold oAdd at hz
  split at hz
  · rename_i i j
    cases hz
    cases ox
    cases oy
    exact .inl ⟨i, j, rfl, rfl, hq _ H (.inl rfl) (.int _)⟩
  · rename_i s t
    split at hz
    · rename_i hl
      cases hz
      cases ox with
      | str _ h1 h2 =>
      cases oy with
      | str _ h3 h4 =>
      refine .inr (.inl ⟨mkS s, mkS t, rfl, rfl, by rw [mkS_len, mkS_len]; exact szle hl, ?_⟩)
      have ee : mkS s ++ mkS t = mkS (s ++ t) := by
        apply TL.ext_tl
        rw [TL.tl_append]
        rfl
      rw [ee]
      refine hq _ H (.inl rfl) (.str _ (by simpa using hl) ?_)
      rw [List.all_append, h2, h4]
      rfl
    · cases hz
  · rename_i s t
    split at hz
    · rename_i hl
      cases hz
      have oxc := ox
      have oyc := oy
      cases ox with
      | @tup a xs _ h1 h2 =>
      cases oy with
      | @tup b ys _ h3 h4 =>
      refine .inr (.inr (.inl ⟨a, b, xs, ys, rfl, rfl, tup_seq h1, tup_seq h3, by rw [h2.length, h4.length]; exact szle hl, fun ex => ?_, fun _ ey => ?_, fun _ _ p hp => ?_⟩))
      · subst ex
        cases h2
        exact hq _ H (.inl rfl) oyc
      · subst ey
        cases h4
        refine hq _ H (.inl rfl) ?_
        show At _ _ _ _ _
        rw [List.append_nil]
        exact oxc
      · exact hq _ _ (.inr ⟨p, _, hp, rfl⟩) (At.mkT R x0 i1 (h2.app h4) hp)
    · cases hz
  · split at hz
    · rename_i s t hs ht
      split at hz
      · rename_i hl
        cases hz
        obtain ⟨p, xs, rfl, hp, ap⟩ := ox.items R hs
        obtain ⟨q, ys, rfl, hq', aq⟩ := oy.items R ht
        refine .inr (.inr (.inr ⟨p, q, xs, ys, rfl, rfl, hp, hq', by rw [ap.length, aq.length]; exact szle hl, fun l hl => ?_⟩))
        exact hq _ _ (.inr ⟨l, _, hl, rfl⟩) (VOk.mk x0 i1 (ap.app aq) hl)
      · cases hz
    · cases hz
theorem or_add (hK : B.K = X.K) : OpR X (binaryOp .Add) (fun x y H Q => rI0 (fun i j => .int (i + j)) x y H Q ∨ (∃ i j, x = .str i ∧ y = .str j ∧ i.length + j.length ≤ sizeLine ∧ Q (.str (i ++ j)) H) ∨ rCatA B.K x y H Q ∨ rCat x y H Q) := by
  rw [hK]
  exact OpR.or op_add (OpR.or op_add_str (OpR.or op_catA op_cat))
theorem ior_add : OpR X (inplaceOp .Add) (fun x y H Q => rI0 (fun i j => .int (i + j)) x y H Q ∨ (∃ i j, x = .str i ∧ y = .str j ∧ i.length + j.length ≤ sizeLine ∧ Q (.str (i ++ j)) H)) := OpR.or iop_add iop_add_str
/-- in place: numbers, texts -/
theorem os_iadd : OpS2 B oIAdd (fun x y H Q => rI0 (fun i j => .int (i + j)) x y H Q ∨ (∃ i j, x = .str i ∧ y = .str j ∧ i.length + j.length ≤ sizeLine ∧ Q (.str (i ++ j)) H)) := by
  intro S e g g1 σ H0 H x y z vx vy Q R x0 i1 ox oy hz hq
  unfold oIAdd at hz
  split at hz
  · rename_i i j
    cases hz
    cases ox
    cases oy
    exact .inl ⟨i, j, rfl, rfl, hq _ H (.inl rfl) (.int _)⟩
  · have hz' := hz
    unfold oAdd at hz
    simp only at hz
    split at hz
    · rename_i s t hl
      cases hz
      cases ox with
      | str _ h1 h2 =>
      cases oy with
      | str _ h3 h4 =>
      refine .inr ⟨mkS s, mkS t, rfl, rfl, by rw [mkS_len, mkS_len]; exact szle hl, ?_⟩
      have ee : mkS s ++ mkS t = mkS (s ++ t) := by
        apply TL.ext_tl
        rw [TL.tl_append]
        rfl
      rw [ee]
      refine hq _ H (.inl rfl) (.str _ (by simpa using hl) ?_)
      rw [List.all_append, h2, h4]
      rfl
    · cases hz
  · cases hz
theorem os_I0 {g : Int → Int → Int} {f : Op2} (hf : ∀ x y z, f x y = some z → ∃ i j, x = .dat (.int i) ∧ y = .dat (.int j) ∧ z = .dat (.int (g i j))) : OpS2 B f (rI0 fun i j => .int (g i j)) := by
  intro S e g' g1 σ H0 H x y z vx vy Q R x0 i1 ox oy hz hq
  obtain ⟨i, j, rfl, rfl, rfl⟩ := hf x y z hz
  cases ox
  cases oy
  exact ⟨i, j, rfl, rfl, hq _ H (.inl rfl) (.int _)⟩
theorem os_IB {g : Int → Int → Bool} {f : Op2} (hf : ∀ x y z, f x y = some z → ∃ i j, x = .dat (.int i) ∧ y = .dat (.int j) ∧ z = .dat (.bl (g i j))) : OpS2 B f (rI0 fun i j => .bl (g i j)) := by
  intro S e g' g1 σ H0 H x y z vx vy Q R x0 i1 ox oy hz hq
  obtain ⟨i, j, rfl, rfl, rfl⟩ := hf x y z hz
  cases ox
  cases oy
  exact ⟨i, j, rfl, rfl, hq _ H (.inl rfl) (.bl _)⟩
theorem os_I {C : Int → Int → Prop} {g : Int → Int → Int} {f : Op2} (hf : ∀ x y z, f x y = some z → ∃ i j, x = .dat (.int i) ∧ y = .dat (.int j) ∧ C i j ∧ z = .dat (.int (g i j))) : OpS2 B f (rI C fun i j => .int (g i j)) := by
  intro S e g' g1 σ H0 H x y z vx vy Q R x0 i1 ox oy hz hq
  obtain ⟨i, j, rfl, rfl, c, rfl⟩ := hf x y z hz
  cases ox
  cases oy
  exact ⟨i, j, rfl, rfl, c, hq _ H (.inl rfl) (.int _)⟩
theorem os_sub : OpS2 B oSub (rI0 fun i j => .int (i - j)) := os_I0 fun x y z h => by
  unfold oSub at h
  split at h
  · cases h
    exact ⟨_, _, rfl, rfl, rfl⟩
  · cases h
theorem os_mul : OpS2 B oMul (rI CMulW fun i j => .int (i * j)) := os_I fun x y z h => by
  unfold oMul at h
  split at h
  · split at h
    · rename_i c
      cases h
      exact ⟨_, _, rfl, rfl, c, rfl⟩
    · cases h
  · cases h
theorem os_div : OpS2 B oDiv (rI CDivW fun i j => .int (i / j)) := os_I fun x y z h => by
  unfold oDiv at h
  split at h
  · split at h
    · rename_i c
      cases h
      exact ⟨_, _, rfl, rfl, c, rfl⟩
    · cases h
  · cases h
theorem os_mod : OpS2 B oMod (rI (fun _ j => 0 < j) fun i j => .int (i % j)) := os_I fun x y z h => by
  unfold oMod at h
  split at h
  · split at h
    · rename_i c
      cases h
      exact ⟨_, _, rfl, rfl, c, rfl⟩
    · cases h
  · cases h
theorem os_pow : OpS2 B oPow (rI CPow fun i j => .int (i ^ j.toNat)) := os_I fun x y z h => by
  unfold oPow at h
  split at h
  · split at h
    · rename_i c
      cases h
      exact ⟨_, _, rfl, rfl, c, rfl⟩
    · cases h
  · cases h
theorem or_lt : OpR X (compareOp .Lt) (rI0 fun i j => .bl (decide (i < j))) := opB0 fun _ _ _ _ _ _ _ q => lt_int q
theorem or_le : OpR X (compareOp .LtE) (rI0 fun i j => .bl (decide (i ≤ j))) := opB0 fun _ _ _ _ _ _ _ q => le_int q
theorem or_gt : OpR X (compareOp .Gt) (rI0 fun i j => .bl (decide (j < i))) := opB0 fun _ _ _ _ _ _ _ q => gt_int q
theorem or_ge : OpR X (compareOp .GtE) (rI0 fun i j => .bl (decide (j ≤ i))) := opB0 fun _ _ _ _ _ _ _ q => ge_int q
theorem os_lt : OpS2 B oLt (rI0 fun i j => .bl (decide (i < j))) := os_IB fun x y z h => by
  unfold oLt at h
  split at h
  · cases h
    exact ⟨_, _, rfl, rfl, rfl⟩
  · cases h
theorem os_le : OpS2 B oLe (rI0 fun i j => .bl (decide (i ≤ j))) := os_IB fun x y z h => by
  unfold oLe at h
  split at h
  · cases h
    exact ⟨_, _, rfl, rfl, rfl⟩
  · cases h
theorem os_gt : OpS2 B oGt (rI0 fun i j => .bl (decide (j < i))) := os_IB fun x y z h => by
  unfold oGt at h
  split at h
  · cases h
    exact ⟨_, _, rfl, rfl, rfl⟩
  · cases h
theorem os_ge : OpS2 B oGe (rI0 fun i j => .bl (decide (j ≤ i))) := os_IB fun x y z h => by
  unfold oGe at h
  split at h
  · cases h
    exact ⟨_, _, rfl, rfl, rfl⟩
  · cases h
theorem os_eq : OpS2 B oEq (rEqD B.K) := by
  intro S e g g1 σ H0 H x y z vx vy Q R x0 i1 ox oy hz hq
  unfold oEq eqD at hz
  split at hz
  · rename_i c
    cases hz
    have ax := ox.weak R
    have ay := oy.weak R
    refine ⟨_, _, dp_of ax c.1, dp_of ay c.2, shaped_of ax c.1 (by omega), shaped_of ay c.2 (by omega), ?_⟩
    rw [eqv_toPy _ _ ⟨_, c.1⟩ ⟨_, c.2⟩]
    exact hq _ H (.inl rfl) (.bl _)
  · cases hz
theorem os_ne : OpS2 B oNe (rNeD B.K) := by
  intro S e g g1 σ H0 H x y z vx vy Q R x0 i1 ox oy hz hq
  unfold oNe eqD at hz
  split at hz
  · rename_i c
    cases hz
    have ax := ox.weak R
    have ay := oy.weak R
    refine ⟨_, _, dp_of ax c.1, dp_of ay c.2, shaped_of ax c.1 (by omega), shaped_of ay c.2 (by omega), ?_⟩
    rw [eqv_toPy _ _ ⟨_, c.1⟩ ⟨_, c.2⟩]
    exact hq _ H (.inl rfl) (.bl _)
  · cases hz
theorem or_eq (hK : B.K = X.K) (hu : X.A.units + 64 < cLine) : OpR X (compareOp .Eq) (rEqD B.K) := by
  rw [hK]
  exact op_eqD hu
theorem or_ne (hK : B.K = X.K) (hu : X.A.units + 64 < cLine) : OpR X (compareOp .NotEq) (rNeD B.K) := by
  rw [hK]
  exact op_neD hu
theorem shapedL_of {K : Frag} {O : Addr → Prop} {H : Hp} {xs : List V} {ds : List D} {n : Nat} (h : AtL K O H xs ds) (e : okL n ds = true) (hn : n + 1 ≤ 64) : SeqAt.shaped (.list (toPyL ds)) = true := by
  obtain ⟨h1, h2⟩ := layL_of h e
  unfold SeqAt.shaped
  simp only [PyData.canLay0, PyData.depth, h1, Bool.true_and, decide_eq_true_eq]
  have : PyData.depthAll (toPyL ds) + 1 ≤ 64 := by omega
  exact decide_eq_true this
theorem all_cut {l : List Nat} {p : Nat → Bool} (h : l.all p = true) (lo hi : Option Int) : (PB.cut l lo hi).all p = true := by
  rw [List.all_eq_true] at h ⊢
  intro x hx
  exact h x (List.mem_of_mem_drop (List.mem_of_mem_take hx))
theorem os_ix : OpS2 B oIx (rIx B.K) := by
  intro S e g g1 σ H0 H x y z vx vy Q R x0 i1 ox oy hz hq
  unfold oIx at hz
  split at hz
  · rename_i ds i
    cases oy
    cases ox with
    | @tup a xs _ h1 h2 =>
    cases k : PB.atI ds i with
    | none =>
      rw [k] at hz
      cases hz
    | some d =>
      rw [k] at hz
      cases hz
      obtain ⟨v, e1, a1⟩ := h2.atI k
      exact .inr (.inl ⟨a, xs, i, v, rfl, rfl, tup_seq h1, e1, hq _ H (.inl rfl) a1⟩)
  · rename_i s i
    cases oy
    cases ox with
    | str _ h1 h2 =>
    cases k : PB.atI s i with
    | none =>
      rw [k] at hz
      cases hz
    | some c =>
      rw [k] at hz
      cases hz
      refine .inr (.inr ⟨mkS s, i, c, rfl, rfl, by rw [mkS_len]; exact szle h1, by rw [mkS_list]; exact k, hq _ H (.inl rfl) (At.str [c] (by show 1 ≤ 16777216; omega) ?_)⟩)
      have hm : c ∈ s := by
        unfold PB.atI at k
        cases q : PB.ixN s.length i with
        | none =>
          rw [q] at k
          cases k
        | some j =>
          rw [q] at k
          exact List.mem_of_getElem? (by simpa using k)
      rw [List.all_eq_true] at h2
      rw [List.all_cons, h2 c hm]
      rfl
  · split at hz
    · rename_i ds hs
      obtain ⟨p, xs, rfl, hp, ap⟩ := ox.items R hs
      cases oy
      rename_i i _ _ _
      cases k : PB.atI ds i with
      | none =>
        rw [k] at hz
        cases hz
      | some d =>
        rw [k] at hz
        cases hz
        obtain ⟨v, e1, a1⟩ := ap.atI k
        exact .inl ⟨p, xs, i, v, rfl, rfl, SqL.of hp, e1, hq _ H (.inl rfl) a1⟩
    · cases hz
  · cases hz
theorem ir_ix (hK : B.K = X.K) : IxR X (rIx B.K) := by
  rw [hK]
  exact ix_seq
theorem os_len : OpSN B oLen (fun xs H Q => ∃ x n, xs = [x] ∧ LenV B.K x H n ∧ Q (.int n) H) := by
  intro S e g g1 σ H0 H xs z vs Q R x0 i1 os hz hq
  unfold oLen at hz
  split at hz
  · cases hz
    cases os with
    | cons o os =>
    cases os
    cases o with
    | str _ h1 h2 => exact ⟨_, _, rfl, ⟨by rw [mkS_len]; exact szle h1, (mkS_len _).symm⟩, hq _ H (.inl rfl) (.int _)⟩
  · cases hz
    cases os with
    | cons o os =>
    cases os
    cases o with
    | @tup a ys _ h1 h2 => exact ⟨_, _, rfl, .inr ⟨ys, tup_seq h1, h2.length.symm⟩, hq _ H (.inl rfl) (.int _)⟩
  · rename_i x _ _
    cases k : x.items with
    | none =>
      rw [k] at hz
      cases hz
    | some ds =>
      rw [k] at hz
      cases hz
      cases os with
      | cons o os =>
      cases os
      obtain ⟨p, ys, rfl, hp, ap⟩ := o.items R k
      exact ⟨_, ds.length, rfl, .inl ⟨ys, SqL.of hp, ap.length.symm⟩, hq _ H (.inl rfl) (.int _)⟩
  · cases hz
theorem cl_len (hK : B.K = X.K) : CallR X (.builtin "len") (fun xs H Q => ∃ x n, xs = [x] ∧ LenV B.K x H n ∧ Q (.int n) H) := by
  rw [hK]
  exact call_len
theorem os_abs : OpSN B oAbs (fun xs H Q => ∃ i, xs = [.int i] ∧ Q (.int (if i < 0 then -i else i)) H) := by
  intro S e g g1 σ H0 H xs z vs Q R x0 i1 os hz hq
  unfold oAbs at hz
  split at hz
  · cases hz
    cases os with
    | cons o os =>
    cases os
    cases o
    exact ⟨_, rfl, hq _ H (.inl rfl) (.int _)⟩
  · cases hz
theorem os_sum : OpSN B oSum (rSum B.K) := by
  intro S e g g1 σ H0 H xs z vs Q R x0 i1 os hz hq
  unfold oSum at hz
  split at hz
  · split at hz
    · rename_i ds k
      cases e2 : dInts ds with
      | none =>
        rw [e2] at hz
        cases hz
      | some ns =>
        rw [e2] at hz
        cases hz
        cases os with
        | cons o os =>
        cases os
        obtain ⟨p, ys, rfl, hp, ap⟩ := o.items R k
        rw [ap.dInts e2] at hp
        exact ⟨p, ns, rfl, SqL.of hp, hq _ H (.inl rfl) (.int _)⟩
    · cases hz
  · cases hz
theorem lmax_mem : ∀ (n : Int) (ns : List Int), lmax n ns ∈ n :: ns ∧ ∀ y ∈ n :: ns, y ≤ lmax n ns
  | n, [] => by simp [lmax]
  | n, x :: xs => by
    obtain ⟨h1, h2⟩ := lmax_mem (if x > n then x else n) xs
    unfold lmax
    have h3 := h2 _ List.mem_cons_self
    have h4 : n ≤ (if x > n then x else n) ∧ x ≤ (if x > n then x else n) := by split <;> omega
    refine ⟨?_, fun y hy => ?_⟩
    · rcases List.mem_cons.mp h1 with h | h
      · rw [h]
        split <;> simp
      · simp [h]
    · rcases List.mem_cons.mp hy with e | hy
      · rw [e]
        exact Int.le_trans h4.1 h3
      · rcases List.mem_cons.mp hy with e | hy
        · rw [e]
          exact Int.le_trans h4.2 h3
        · exact h2 _ (List.mem_cons_of_mem _ hy)
theorem os_all : OpSN B oAll (rAll B.K) := by
  intro S e g g1 σ H0 H xs z vs Q R x0 i1 os hz hq
  unfold oAll at hz
  split at hz
  · split at hz
    · rename_i ds k
      cases e2 : dBls ds with
      | none =>
        rw [e2] at hz
        cases hz
      | some ns =>
        rw [e2] at hz
        cases hz
        cases os with
        | cons o os =>
        cases os
        obtain ⟨p, ys, rfl, hp, ap⟩ := o.items R k
        rw [ap.dBls e2] at hp
        exact ⟨p, ns, rfl, SqL.of hp, hq _ H (.inl rfl) (.bl _)⟩
    · cases hz
  · cases hz
theorem os_any : OpSN B oAny (rAny B.K) := by
  intro S e g g1 σ H0 H xs z vs Q R x0 i1 os hz hq
  unfold oAny at hz
  split at hz
  · split at hz
    · rename_i ds k
      cases e2 : dBls ds with
      | none =>
        rw [e2] at hz
        cases hz
      | some ns =>
        rw [e2] at hz
        cases hz
        cases os with
        | cons o os =>
        cases os
        obtain ⟨p, ys, rfl, hp, ap⟩ := o.items R k
        rw [ap.dBls e2] at hp
        exact ⟨p, ns, rfl, SqL.of hp, hq _ H (.inl rfl) (.bl _)⟩
    · cases hz
  · cases hz
theorem os_tuple : OpSN B oTuple (fun xs H Q => ∃ p ys, xs = [.ref p] ∧ ((SqL B.K H p ys ∧ ∀ l, H l = none → Q (.ref l) (upd H l (.tup ys))) ∨ (SqT B.K H p ys ∧ Q (.ref p) H))) := by
  intro S e g g1 σ H0 H xs z vs Q R x0 i1 os hz hq
  unfold oTuple at hz
  split at hz
  · cases hz
    cases os with
    | cons o os =>
    cases os
    have oc := o
    cases o with
    | @tup a ys ds h1 h2 => exact ⟨a, ys, rfl, .inr ⟨tup_seq h1, hq _ H (.inl rfl) oc⟩⟩
  · rename_i x _
    cases k : x.items with
    | none =>
      rw [k] at hz
      cases hz
    | some ds =>
      rw [k] at hz
      cases hz
      cases os with
      | cons o os =>
      cases os
      obtain ⟨p, ys, rfl, hp, ap⟩ := o.items R k
      exact ⟨p, ys, rfl, .inl ⟨SqL.of hp, fun l hl => hq _ _ (.inr ⟨l, _, hl, rfl⟩) (At.mkT R x0 i1 ap hl)⟩⟩
  · cases hz
theorem os_list : OpSN B oList (fun xs H Q => ∃ p ys, xs = [.ref p] ∧ (SqL B.K H p ys ∨ SqT B.K H p ys) ∧ ∀ l, H l = none → Q (.ref l) (upd H l (.lst ys))) := by
  intro S e g g1 σ H0 H xs z vs Q R x0 i1 os hz hq
  unfold oList at hz
  split at hz
  · cases hz
    cases os with
    | cons o os =>
    cases os
    cases o with
    | @tup a ys ds h1 h2 => exact ⟨a, ys, rfl, .inr (tup_seq h1), fun l hl => hq _ _ (.inr ⟨l, _, hl, rfl⟩) (VOk.mk x0 i1 h2 hl)⟩
  · rename_i x _
    cases k : x.items with
    | none =>
      rw [k] at hz
      cases hz
    | some ds =>
      rw [k] at hz
      cases hz
      cases os with
      | cons o os =>
      cases os
      obtain ⟨p, ys, rfl, hp, ap⟩ := o.items R k
      exact ⟨p, ys, rfl, .inl (SqL.of hp), fun l hl => hq _ _ (.inr ⟨l, _, hl, rfl⟩) (VOk.mk x0 i1 ap hl)⟩
  · cases hz
theorem cl_sum (hK : B.K = X.K) (hc : X.calm = true) : CallR X (.builtin "sum") (rSum B.K) := by
  rw [hK]
  exact cr_sum hc
theorem cl_all (hK : B.K = X.K) (hc : X.calm = true) : CallR X (.builtin "all") (rAll B.K) := by
  rw [hK]
  exact cr_all hc
theorem cl_any (hK : B.K = X.K) (hc : X.calm = true) : CallR X (.builtin "any") (rAny B.K) := by
  rw [hK]
  exact cr_any hc
theorem cl_tuple (hK : B.K = X.K) : CallR X (.type "tuple") (fun xs H Q => ∃ p ys, xs = [.ref p] ∧ ((SqL B.K H p ys ∧ ∀ l, H l = none → Q (.ref l) (upd H l (.tup ys))) ∨ (SqT B.K H p ys ∧ Q (.ref p) H))) := by
  rw [hK]
  exact call_tuple_of
theorem cl_list (hK : B.K = X.K) : CallR X (.type "list") (fun xs H Q => ∃ p ys, xs = [.ref p] ∧ (SqL B.K H p ys ∨ SqT B.K H p ys) ∧ ∀ l, H l = none → Q (.ref l) (upd H l (.lst ys))) := by
  rw [hK]
  exact call_list_of
end
end PB
set_option Elab.async false
set_option linter.all false
set_option maxRecDepth 100000
set_option maxHeartbeats 4000000
namespace PB
open PySem PySem.Spec PyProof.Rows L2
variable [Kts]
section
variable {γ ι : Type} {B : Bs γ ι} {W : WX} {X : Cx} {pos : Pos} {a b c e : Expr} {es : List Expr} {ma mb mc : ME γ} {mr : MA γ} {ta tb tc : MT γ}
theorem pb_nil : PA X [] (RA B W mNil) := pa_w pa_nil fun σ H Q ⟨S, e, g, R, h⟩ => h [] H (.refl H) R.gh .nil
theorem pb_cons (ha : PE X e (RE B W ma)) (hr : PA X es (RA B W mr)) (hs : starEach (e :: es) X.env = (false, eval e X.env) :: starEach es X.env := by rfl) : PA X (e :: es) (RA B W (mCons ma mr)) := by
  refine pa_w (pa_cons ha hr hs) fun σ H Q ⟨S, e, g, R, h⟩ => ?_
  refine ⟨S, e, g, R, RK.bind (.refl H) h fun x g1 vx H1 _ x1 i1 o1 h1 => ?_⟩
  refine ⟨S, e, g1, R.exe x1 i1, RK.bind x1 h1 fun y g2 vy H2 x12 x2 i2 o2 h2 => ?_⟩
  exact h2 (vx :: vy) H2 x2 i2 (.cons (o1.step R x12) (o2.pre x1 i1))
theorem pb_tup {x1} (h : PA X es (RA B W mr)) : PE X (.Tuple es x1 pos) (RE B W (mTup mr)) := by
  refine pe_w (pe_tup h) fun σ H Q ⟨S, e, g, R, h⟩ => ?_
  refine ⟨S, e, g, R, RK.bind (.refl H) h fun x g1 vx H1 _ x1 i1 o1 h1 => ?_⟩
  split at h1
  · rename_i ds hs
    split at h1
    · rename_i hl
      have al := o1.sto R hs
      exact ⟨by rw [al.length]; exact szle hl, fun p hp => h1 _ _ (x1.trans (.new hp)) (Gho.new i1 hp) (At.mkT R x1 i1 al hp)⟩
    · exact h1.elim
  · exact h1.elim
theorem pb_lst (h : PA X es (RA B W mr)) : PE X (.List es pos) (RE B W (mLst mr)) := by
  refine pe_w (pe_lst h) fun σ H Q ⟨S, e, g, R, h⟩ => ?_
  refine ⟨S, e, g, R, RK.bind (.refl H) h fun x g1 vx H1 _ x1 i1 o1 h1 => ?_⟩
  split at h1
  · rename_i ds hs
    split at h1
    · rename_i hl
      have al := o1.sto R hs
      exact ⟨by rw [al.length]; exact szle hl, fun p hp => h1 _ _ (x1.trans (.new hp)) (Gho.new i1 hp) (VOk.mk x1 i1 al hp)⟩
    · exact h1.elim
  · exact h1.elim
/-- a built-in function by its name -/
theorem pb_cb {x : Str} {p : Pos} {id : String} {f : OpN} {r : List V → Hp → VK → Prop} (hc : CallR X (.builtin id) r) (hs : OpSN B f r) (hg : Gl X x) (hm : X.mg x = none) (hv : bootBuiltins x = some (.builtin id)) (ha : PA X (e :: es) (RA B W mr)) (hn : x ≠ "__name__" := by decide) (hdb : (x == ("__debug__" : Str)) = false := by decide)
    (he : starEach (e :: es) X.env = (false, eval e X.env) :: starEach es X.env := by rfl) (hpl : (backTo pos (starEach es X.env)).any (·.1) = false := by rfl) : PE X (.Call (.Name x p) (e :: es) [] pos) (RE B W (mOpN f mr)) :=
  pe_w (pe_callB hc hg hm hv ha hn hdb he hpl) fun _ _ _ => re_opN hs
theorem pb_ct {x : Str} {p : Pos} {T : String} {f : OpN} {r : List V → Hp → VK → Prop} (hc : CallR X (.type T) r) (hs : OpSN B f r) (hg : Gl X x) (hm : X.mg x = none) (hv : bootBuiltins x = some (.type T)) (ha : PA X (e :: es) (RA B W mr)) (hn : x ≠ "__name__" := by decide) (hdb : (x == ("__debug__" : Str)) = false := by decide)
    (he : starEach (e :: es) X.env = (false, eval e X.env) :: starEach es X.env := by rfl) (hpl : (backTo pos (starEach es X.env)).any (·.1) = false := by rfl) : PE X (.Call (.Name x p) (e :: es) [] pos) (RE B W (mOpN f mr)) :=
  pe_w (pe_callTy hc hg hm hv ha hn hdb he hpl) fun _ _ _ => re_opN hs
/-- going on from a later heap -/
theorem RK.late {A : Act γ ι} {e : Env} {g1 : γ} {σ : L2.St} {H H1 : Hp} {r : Rs γ Rv} {Q : VK} (x1 : ExE A H H1) (i1 : A.G.I g1 H1) (h : RK VOk A W e σ H r Q) : RK VOk A W e σ H1 r Q := by
  cases r with
  | no => exact h
  | ex y g => exact fun c od H' x' => h c od H' (x1.trans x')
  | ok y g => exact fun v H' x' i o => h v H' (x1.trans x') i (o.pre x1 i1)
theorem RK.lateB {A : Act γ ι} {e : Env} {σ : L2.St} {H H1 : Hp} {r : Rs γ Bool} {Q : Bool → Hp → Prop} (x1 : ExE A H H1) (h : RK PB_ A W e σ H r Q) : RK PB_ A W e σ H1 r Q := by
  cases r with
  | no => exact h
  | ex y g => exact fun c od H' x' => h c od H' (x1.trans x')
  | ok y g => exact fun v H' x' i o => h v H' (x1.trans x') i o
theorem pb_one {op} (h : PE X a (RE B W ma)) : PE X (.BoolOp op [a] pos) (RE B W ma) := pe_one h
theorem pb_andV {rest : List Expr} (ha : PE X a (RE B W ma)) (hb : PE X (.BoolOp .And (b :: rest) pos) (RE B W mb)) : PE X (.BoolOp .And (a :: b :: rest) pos) (RE B W (mAndV ma mb)) := by
  refine pe_w (pe_and ha hb) fun σ H Q ⟨S, e, g, R, h⟩ => ?_
  refine ⟨S, e, g, R, RK.bind (.refl H) h fun x g1 vx H1 _ x1 i1 o1 h1 => ?_⟩
  split at h1
  · cases o1
    refine ⟨true, rfl, ?_⟩
    rw [if_pos rfl]
    exact ⟨S, e, g1, R.exe x1 i1, h1.late x1 i1⟩
  · cases o1
    refine ⟨false, rfl, ?_⟩
    rw [if_neg Bool.false_ne_true]
    exact h1 _ H1 x1 i1 (.bl _)
  · exact h1.elim
theorem pb_notV (ha : PE X a (RE B W ma)) : PE X (.UnaryOp .Not a pos) (RE B W (mNotV ma)) := by
  refine pe_w (pe_not ha) fun σ H Q ⟨S, e, g, R, h⟩ => ?_
  refine ⟨S, e, g, R, RK.bind (.refl H) h fun x g1 vx H1 _ x1 i1 o1 h1 => ?_⟩
  split at h1
  · cases o1
    exact ⟨_, rfl, h1 _ H1 x1 i1 (.bl _)⟩
  · exact h1.elim
theorem rt_test {σ : L2.St} {H : Hp} {Q : Bool → Hp → Prop} (h : RT B W (mTest ma) σ H Q) : RE B W ma σ H fun x H' => ∃ k, x = .bl k ∧ Q k H' := by
  obtain ⟨S, e, g, R, h⟩ := h
  refine ⟨S, e, g, R, RK.bind (.refl H) h fun x g1 vx H1 _ x1 i1 o1 h1 => ?_⟩
  split at h1
  · cases o1
    exact ⟨_, rfl, h1 _ H1 x1 i1 rfl⟩
  · exact h1.elim
/-- any expression that comes to a truth, as a test -/
theorem pb_val (h : PE X a (RE B W ma)) (he : ∀ whole, isTrue a X.env whole = (do let v ← whole; standAt a.pos; holding [v] (truthy v)) := by intro _; rfl) : PT X a (RT B W (mTest ma)) := pt_w (pt_val h he) fun _ _ _ => rt_test
/-- a comparison as a test -/
theorem pb_tcmp {op : CmpOp} {f : Op2} {r : R2} (ho : OpR X (compareOp op) r) (hs : OpS2 B f r) (ha : PE X a (RE B W ma)) (hb : PE X b (RE B W mb)) (hm : behindInMarks op b = false) : PT X (.Compare a [op] [b] pos) (RT B W (mTest (mOp2 f ma mb))) := by
  refine pt_w (pt_cmpR ho ha hb hm) fun σ H Q h => ?_
  have h' := rt_test h
  exact re_op2 hs h'
theorem pb_tchain {op op' : CmpOp} {f f' : Op2} {r r' : R2} (ho : OpR X (compareOp op) r) (hs : OpS2 B f r) (ho' : OpR X (compareOp op') r') (hs' : OpS2 B f' r') (ha : PE X a (RE B W ma)) (hb : PE X b (RE B W mb)) (hc : PE X c (RE B W mc))
    (hm : lastMarks [op, op'] [b, c] = false := by with_unfolding_all rfl) : PT X (.Compare a [op, op'] [b, c] pos) (RT B W (mTest (mChain f f' ma mb mc))) := by
  refine pt_w (pt_chain ho ho' ha hb hc hm) fun σ H Q h => ?_
  obtain ⟨S, e, g, R, h⟩ := rt_test h
  refine ⟨S, e, g, R, RK.bind (.refl H) h fun x g1 vx H1 _ x1 i1 o1 h1 => ?_⟩
  refine ⟨S, e, g1, R.exe x1 i1, RK.bind x1 h1 fun y g2 vy H2 x12 x2 i2 o2 h2 => ?_⟩
  have o1' := o1.step R x12
  have o2' := o2.pre x1 i1
  split at h2
  · rename_i q
    refine hs S e g g2 σ H H2 x y _ vx vy _ R x2 i2 o1' o2' q fun v H3 n o => ?_
    cases o
    have x23 := x2.trans (n.exe (A := ⟨B, S⟩))
    refine ⟨true, rfl, ?_⟩
    rw [if_pos rfl]
    refine ⟨S, e, g2, R.exe x23 (n.gh i2), RK.bind x23 h2 fun z g3 vz H4 x34 x4 i4 o3 h3 => ?_⟩
    obtain ⟨w, ew, q4⟩ := h3.ofO
    exact hs' S e g g3 σ H H4 y z w vy vz _ R x4 i4 (o2'.step R (n.exe.trans x34)) (o3.pre x23 (n.gh i2)) ew fun v H' n o => q4 v H' (x4.trans n.exe) (n.gh i4) o
  · rename_i q
    refine hs S e g g2 σ H H2 x y _ vx vy _ R x2 i2 o1' o2' q fun v H3 n o => ?_
    cases o
    refine ⟨false, rfl, ?_⟩
    rw [if_neg Bool.false_ne_true]
    exact h2 _ H3 (x2.trans n.exe) (n.gh i2) (.bl _)
  · exact h2.elim
theorem rt_and {σ : L2.St} {H : Hp} {Q : Bool → Hp → Prop} (h : RT B W (mAnd ta tb) σ H Q) : tAnd (RT B W ta) (RT B W tb) σ H Q := by
  obtain ⟨S, e, g, R, h⟩ := h
  refine ⟨S, e, g, R, RK.bind (.refl H) h fun x g1 vx H1 _ x1 i1 o1 h1 => ?_⟩
  cases o1
  cases x with
  | true =>
    rw [if_pos rfl]
    exact ⟨S, e, g1, R.exe x1 i1, RK.lateB x1 h1⟩
  | false =>
    rw [if_neg Bool.false_ne_true]
    exact h1 _ H1 x1 i1 rfl
theorem rt_or {σ : L2.St} {H : Hp} {Q : Bool → Hp → Prop} (h : RT B W (mOr ta tb) σ H Q) : tOr (RT B W ta) (RT B W tb) σ H Q := by
  obtain ⟨S, e, g, R, h⟩ := h
  refine ⟨S, e, g, R, RK.bind (.refl H) h fun x g1 vx H1 _ x1 i1 o1 h1 => ?_⟩
  cases o1
  cases x with
  | false =>
    rw [if_neg Bool.false_ne_true]
    exact ⟨S, e, g1, R.exe x1 i1, RK.lateB x1 h1⟩
  | true =>
    rw [if_pos rfl]
    exact h1 _ H1 x1 i1 rfl
theorem pb_and1 (ha : PT X a (RT B W ta)) : PW X (.BoolOp .And [a] pos) (RT B W ta) := pw_and1 ha
theorem pb_or1 (ha : PT X a (RT B W ta)) : PW X (.BoolOp .Or [a] pos) (RT B W ta) := pw_or1 ha
theorem pb_and {rest : List Expr} (ha : PT X a (RT B W ta)) (hb : PW X (.BoolOp .And (b :: rest) pos) (RT B W tb)) : PW X (.BoolOp .And (a :: b :: rest) pos) (RT B W (mAnd ta tb)) := pw_w (pw_and ha hb) fun _ _ _ => rt_and
theorem pb_or {rest : List Expr} (ha : PT X a (RT B W ta)) (hb : PW X (.BoolOp .Or (b :: rest) pos) (RT B W tb)) : PW X (.BoolOp .Or (a :: b :: rest) pos) (RT B W (mOr ta tb)) := pw_w (pw_or ha hb) fun _ _ _ => rt_or
theorem pb_not (ha : PT X a (RT B W ta)) : PT X (.UnaryOp .Not a pos) (RT B W (mNot ta)) := by
  refine pt_w (pt_not ha) fun σ H Q ⟨S, e, g, R, h⟩ => ?_
  refine ⟨S, e, g, R, RK.bind (.refl H) h fun x g1 vx H1 _ x1 i1 o1 h1 => ?_⟩
  cases o1
  exact h1 _ H1 x1 i1 rfl
end
end PB
set_option Elab.async false
set_option linter.all false
set_option maxRecDepth 100000
set_option maxHeartbeats 4000000
namespace PB
open PySem PySem.Spec PyProof.Rows L2
variable [Kts]
section
variable {γ ι : Type}
/-- what is handed back -/
def FRet (K : Frag) (S : Addr → Prop) (H H' : Hp) (r : Rv) (v : V) : Prop := match r with
  | .dat d => At K S H' v d
  | .own ds => ∃ p xs, v = .ref p ∧ H p = none ∧ H' p = some (.lst xs) ∧ AtL K (fun a => S a ∨ a = p) H' xs ds
  | .bor _ => False
/-- .. that no exception leaves -/
def spOf (K : Frag) (fam : ι → Gho γ) (n : Nat) (F : MF γ) : Sp := fun vs H Q E => ∃ (i : ι) (S : Addr → Prop) (ds : List D) (g : γ), vs.length = n ∧ (∀ a, (fam i).F a → S a) ∧ (∀ a, S a → Stk (H a)) ∧ AtL K S H vs ds ∧ (fam i).I g H ∧
  match F ds g with
  | .ok r g' => ∀ v H', (∀ b o, H b = some o → ¬ (fam i).F b → H' b = some o) → (fam i).I g' H' → FRet K S H H' r v → Q v H'
  | .ex x g' => False
  | .no => False
variable {B : Bs γ ι} {W : WX} {X : Cx} {pos pz : Pos} {e : Expr} {es : List Expr} {mr : MA γ} {F : MF γ}
theorem VOkL.length {A : Act γ ι} {e : Env} {σ : L2.St} {H0 H : Hp} : ∀ {rs : List Rv} {vs : List V}, VOkL A e σ H0 H rs vs → vs.length = rs.length
  | _, _, .nil => rfl
  | _, _, .cons _ h => by rw [List.length_cons, List.length_cons, h.length]
theorem fret_vok {A : Act γ ι} {e : Env} {g g1 : γ} {σ : L2.St} {H0 H H' : Hp} (R : Rep A e g σ H0) (x : ExE A H0 H) (i1 : A.G.I g1 H) {r : Rv} {v : V} (h : FRet A.K (Om A e σ) H H' r v) : VOk A e σ H0 H' r v := by
  cases r with
  | dat d => exact h
  | own ds =>
    obtain ⟨q, xs, e1, h0, k, a⟩ := h
    exact ⟨q, xs, e1, x.back h0 i1, k, a⟩
  | bor ds => exact h.elim
theorem call_go {n : Nat} {σ : L2.St} {H : Hp} {Q : VK} (h : RE B W (mCall F mr) σ H Q) (hl : ∀ e g rs g', mr e g = .ok rs g' → rs.length = n) : tCall (spOf B.K B.fam n F) [] E0 (RA B W mr) σ H Q := by
  obtain ⟨S, e, g, R, h⟩ := h
  refine ⟨S, e, g, R, ?_⟩
  have hl' := hl e g
  unfold mCall at h
  cases q : mr e g with
  | no =>
    rw [q] at h
    exact h
  | ex y g1 =>
    rw [q] at h
    exact h
  | ok rs g1 =>
    rw [q] at h
    intro vs H1 x1 i1 o1
    have h1 : RK VOk ⟨B, S⟩ W e σ H (match stoL rs with | some ds => okO (F ds g1) | none => .no) Q := h
    cases ks : stoL rs with
    | none =>
      rw [ks] at h1
      exact h1.elim
    | some ds =>
      rw [ks] at h1
      have al := o1.sto R ks
      have R1 := R.exe x1 i1
      have hn : rs.length = n := hl' _ _ q
      have hvl : vs.length = n := by rw [← hn, o1.length]
      have h1 : RK VOk ⟨B, S⟩ W e σ H (okO (F ds g1)) Q := h1
      rw [List.append_nil]
      refine ⟨B.i, Om ⟨B, S⟩ e σ, ds, g1, hvl, fun a z => .inl (R.fx a z), fun a z => R1.oms z, al, i1, ?_⟩
      cases kf : F ds g1 with
      | no =>
        rw [kf] at h1
        exact h1
      | ex y g2 =>
        rw [kf] at h1
        exact h1
      | ok r g2 =>
        rw [kf] at h1
        exact fun v H' x' i' o' => h1 v H' (x1.trans x') i' (fret_vok R x1 i1 o')
theorem len_nil : ∀ (e : Env) (g : γ) rs g', (mNil : MA γ) e g = .ok rs g' → rs.length = 0 := fun e g rs g' h => by
  cases h
  rfl
theorem len_cons {a : ME γ} {r : MA γ} {n : Nat} (hr : ∀ e g rs g', r e g = .ok rs g' → rs.length = n) : ∀ (e : Env) (g : γ) rs g', mCons a r e g = .ok rs g' → rs.length = n + 1 := fun e g rs g' h => by
  unfold mCons at h
  cases q : a e g with
  | no =>
    rw [q] at h
    cases h
  | ex y g1 =>
    rw [q] at h
    cases h
  | ok x g1 =>
    rw [q] at h
    have h2 : (r e g1).bind (fun xs g2 => .ok (x :: xs) g2) = .ok rs g' := h
    cases q2 : r e g1 with
    | no =>
      rw [q2] at h2
      cases h2
    | ex y g1 =>
      rw [q2] at h2
      cases h2
    | ok xs g2 =>
      rw [q2] at h2
      cases h2
      rw [List.length_cons, hr _ _ _ _ q2]
/-- f(..), no exception leaves f -/
theorem pb_call {k : Nat} {n : Nat} {f : Addr} {fd : FuncData} {ps : List Str} {x : Str} (G : FnOk X.prog X.w X.K X.mg X.base CX0 k f fd ps (spOf B.K B.fam n F)) (hr : Room k X.A) (hg : Gl X x) (hm : X.mg x = some (.ref f)) (hk : PySem.W.keepIn X.K (.ref f) = true) (hb : Binds X.K fd ps [])
    (ha : PA X (e :: es) (RA B W mr)) (hl : ∀ e g rs g', mr e g = .ok rs g' → rs.length = n) (hdb : (x == ("__debug__" : Str)) = false := by decide) (he : starEach (e :: es) X.env = (false, eval e X.env) :: starEach es X.env := by rfl) (hpl : (backTo pos (starEach es X.env)).any (·.1) = false := by rfl) :
    PE X (.Call (.Name x pz) (e :: es) [] pos) (RE B W (mCall F mr)) :=
  pe_w (pe_call G hr hg hm hk hb .nil pass0 ha hdb he hpl) fun σ H Q h => call_go h hl
theorem gt_st (e : Env) (i j : Nat) (x : Sl) : gt (st e i x) j = if j = i ∧ i < e.length then x else gt e j := by
  induction e generalizing i j with
  | nil => simp [st, gt]
  | cons s r ih =>
    cases i with
    | zero =>
      cases j with
      | zero => simp [st, gt]
      | succ j => simp [st, gt]
    | succ i =>
      cases j with
      | zero => simp [st, gt]
      | succ j =>
        simp only [st, gt, ih, List.length_cons, Nat.add_right_cancel_iff, Nat.add_lt_add_iff_right]
theorem len_st (e : Env) (i : Nat) (x : Sl) : (st e i x).length = e.length := by
  induction e generalizing i with
  | nil => rfl
  | cons s r ih =>
    cases i with
    | zero => rfl
    | succ i => simp [st, ih]
theorem gt_out {e : Env} {i : Nat} (h : e.length ≤ i) : gt e i = .un := by
  induction e generalizing i with
  | nil => rfl
  | cons s r ih =>
    cases i with
    | zero => simp at h
    | succ i => exact ih (by simpa using h)
theorem set_at {σ : L2.St} {i j : Nat} {v : Option V} : (σ.set i v)[j]? = if j = i ∧ i < σ.length then some v else σ[j]? := by
  rw [List.getElem?_set]
  by_cases h : i = j
  · subst h
    by_cases h2 : i < σ.length
    · rw [if_pos rfl, if_pos h2, if_pos ⟨rfl, h2⟩]
    · rw [if_pos rfl, if_neg h2, if_neg (fun z => h2 z.2)]
      exact (List.getElem?_eq_none (by omega)).symm
  · rw [if_neg h, if_neg (fun z => h z.1.symm)]
/-- a step of statements -/
structure Stp (A : Act γ ι) (e : Env) (σ : L2.St) (H : Hp) (e' : Env) (σ' : L2.St) (H' : Hp) : Prop where
  keep : ∀ b o, H b = some o → ¬ Mu A e σ b → H' b = some o
  mu : ∀ b, OwnA e' σ' b → OwnA e σ b ∨ H b = none
section
variable {A : Act γ ι} {e e' e2 : Env} {g g1 g2 : γ} {σ σ' σ2 : L2.St} {H H' H2 H1 H0 : Hp} {v : V} {d : D} {i : Nat} {p : Addr}
theorem Stp.refl : Stp A e σ H e σ H := ⟨fun _ _ h _ => h, fun _ h => .inl h⟩
theorem Stp.exe (R : Rep A e g σ H) (x : ExE A H H') : Stp A e σ H e σ H' := ⟨fun b o h n => x b o h fun z => n (.inl z), fun _ h => .inl h⟩
theorem Stp.trans (R' : Rep A e' g σ' H') (a : Stp A e σ H e' σ' H') (b : Stp A e' σ' H' e2 σ2 H2) : Stp A e σ H e2 σ2 H2 where
  keep := fun c o h n => b.keep c o (a.keep c o h n) fun z => z.elim (fun z => n (.inl z)) fun z => (a.mu c z).elim (fun z => n (.inr z)) fun z => by
    rw [z] at h
    cases h
  mu := fun c z => by
    rcases b.mu c z with z | z
    · exact a.mu c z
    · by_cases q : OwnA e σ c
      · exact .inl q
      · cases k : H c with
        | none => exact .inr rfl
        | some o =>
          by_cases f : A.G.F c
          · exact absurd z (A.G.trk _ _ _ R'.gh f)
          · have := a.keep c o k fun z => z.elim f q
            rw [z] at this
            cases this
/-- values through a step -/
theorem Stp.go (R : Rep A e g σ H) (s : Stp A e σ H e' σ' H') : ∀ a o, H a = some o → ¬ Om A e σ a → H' a = some o ∧ ¬ Om A e' σ' a := fun a o q n =>
  ⟨s.keep a o q fun z => n (R.muom z), fun z => z.elim (fun z => n (.inl z)) fun z => (s.mu a z).elim (fun z => n (.inr z)) fun z => by
    rw [z] at q
    cases q⟩
/-- a name's slot comes to hold data -/
theorem own_st (h : OwnA (st e i (.dat d)) (σ.set i (some v)) p) (hl : σ.length = e.length) : OwnA e σ p := by
  obtain ⟨j, h1, h2⟩ := h
  rw [gt_st] at h1
  rw [set_at] at h2
  by_cases c : j = i ∧ i < e.length
  · rw [if_pos c] at h1
    cases h1
  · rw [if_neg c] at h1
    rw [hl, if_neg c] at h2
    exact ⟨j, h1, h2⟩
theorem Rep.set (R : Rep A e g σ H) (a : At A.K (Om A e σ) H v d) (i : Nat) : Rep A (st e i (.dat d)) g (σ.set i (some v)) H where
  len := by rw [List.length_set, len_st, R.len]
  sl := fun j => by
    have less : ∀ a, Om A (st e i (.dat d)) (σ.set i (some v)) a → Om A e σ a := fun a z => z.elim .inl fun z => .inr (own_st z R.len)
    rw [gt_st, set_at, R.len]
    by_cases c : j = i ∧ i < e.length
    · rw [if_pos c, if_pos c]
      exact ⟨v, rfl, a.less less⟩
    · rw [if_neg c, if_neg c]
      have q := R.sl j
      cases h : gt e j with
      | un => trivial
      | dat d2 =>
        rw [h] at q
        obtain ⟨w, e1, a1⟩ := q
        exact ⟨w, e1, a1.less less⟩
      | own ds =>
        rw [h] at q
        obtain ⟨p, xs, e1, k, a1⟩ := q
        exact ⟨p, xs, e1, k, a1.less less⟩
      | xc y =>
        rw [h] at q
        exact q
      | gh y =>
        rw [h] at q
        exact q
      | owd t ks vs =>
        rw [h] at q
        obtain ⟨p, us, e1, k, a1⟩ := q
        exact ⟨p, us, e1, k, a1.less less⟩
  inj := fun j k p h1 h2 h3 h4 => by
    rw [gt_st] at h1 h2
    rw [set_at, R.len] at h3 h4
    by_cases c : j = i ∧ i < e.length
    · rw [if_pos c] at h1
      cases h1
    · by_cases c2 : k = i ∧ i < e.length
      · rw [if_pos c2] at h2
        cases h2
      · rw [if_neg c] at h1 h3
        rw [if_neg c2] at h2 h4
        exact R.inj j k p h1 h2 h3 h4
  nx := fun a z => R.nx a (own_st z R.len)
  gh := R.gh
  fx := R.fx
  xs := R.xs
theorem Stp.set (R : Rep A e g σ H) (i : Nat) : Stp A e σ H (st e i (.dat d)) (σ.set i (some v)) H := ⟨fun _ _ h _ => h, fun _ z => .inl (own_st z R.len)⟩
/-- .. a new list of its own -/
theorem Rep.setO (R0 : Rep A e g σ H0) (x : ExE A H0 H) (R : Rep A e g1 σ H) {ds : List D} (o : VOk A e σ H0 H (.own ds) v) (i : Nat) : Rep A (st e i (.own ds)) g1 (σ.set i (some v)) H ∧ ∀ b, OwnA (st e i (.own ds)) (σ.set i (some v)) b → OwnA e σ b ∨ H0 b = none := by
  obtain ⟨p, xs, e1, h0, k, al⟩ := o
  subst e1
  have own : ∀ b, OwnA (st e i (.own ds)) (σ.set i (some (.ref p))) b → OwnA e σ b ∨ b = p := fun b ⟨j, h1, h2⟩ => by
    rw [gt_st] at h1
    rw [set_at, R.len] at h2
    by_cases c : j = i ∧ i < e.length
    · rw [if_pos c] at h2
      cases h2
      exact .inr rfl
    · rw [if_neg c] at h1 h2
      exact .inl ⟨j, h1, h2⟩
  have np : ¬ A.X p := fun z => R0.xt p z h0
  have nown : ¬ OwnA e σ p := fun z => (z.stk R0).1.1 h0
  have go : ∀ a o, H0 a = some o → ¬ Om A e σ a → H a = some o ∧ ¬ Om A (st e i (.own ds)) (σ.set i (some (.ref p))) a := fun a o q n =>
    ⟨x a o q fun z => n (.inl (R0.fx a z)), fun z => z.elim (fun z => n (.inl z)) fun z => (own a z).elim (fun z => n (.inr z)) fun z => by
      subst z
      rw [h0] at q
      cases q⟩
  refine ⟨⟨by rw [List.length_set, len_st, R.len], fun j => ?_, fun j k2 q h1 h2 h3 h4 => ?_, fun a z => ?_, R.gh, R.fx, R.xs⟩, fun b z => (own b z).elim .inl fun z => .inr (by rw [z]; exact h0)⟩
  · rw [gt_st, set_at, R.len]
    by_cases c : j = i ∧ i < e.length
    · rw [if_pos c, if_pos c]
      exact ⟨p, xs, rfl, k, al.less fun a z => z.elim (fun z => .inl (.inl z)) fun z => (own a z).elim (fun z => .inl (.inr z)) .inr⟩
    · rw [if_neg c, if_neg c]
      have q := R0.sl j
      cases h : gt e j with
      | un => trivial
      | dat d2 =>
        rw [h] at q
        obtain ⟨w, e1, a1⟩ := q
        exact ⟨w, e1, a1.go go⟩
      | own es =>
        rw [h] at q
        obtain ⟨q2, ys, e1, k1, a1⟩ := q
        exact ⟨q2, ys, e1, x _ _ k1 (R0.notF (.of h rfl e1)), a1.go go⟩
      | xc y =>
        rw [h] at q
        exact ⟨q.1, q.2.go fun p fs k => x p _ k fun z => R0.nxd k (.inl (R0.fx p z))⟩
      | gh y =>
        rw [h] at q
        exact q
      | owd t ks vs =>
        rw [h] at q
        obtain ⟨q2, us, e1, k1, a1⟩ := q
        exact ⟨q2, us, e1, k1.go fun o e => x _ _ e (R0.notF (.of h rfl e1)), a1.go go⟩
  · rw [gt_st] at h1 h2
    rw [set_at, R.len] at h3 h4
    by_cases c : j = i ∧ i < e.length
    · by_cases c2 : k2 = i ∧ i < e.length
      · rw [c.1, c2.1]
      · rw [if_pos c] at h3
        cases h3
        rw [if_neg c2] at h2 h4
        exact absurd ⟨k2, h2, h4⟩ nown
    · by_cases c2 : k2 = i ∧ i < e.length
      · rw [if_pos c2] at h4
        cases h4
        rw [if_neg c] at h1 h3
        exact absurd ⟨j, h1, h3⟩ nown
      · rw [if_neg c] at h1 h3
        rw [if_neg c2] at h2 h4
        exact R.inj j k2 q h1 h2 h3 h4
  · rcases own a z with z | z
    · exact R.nx a z
    · rw [z]
      exact np
end
/-- what is handed back: seen from a statement's beginning -/
def VRet (A : Act γ ι) (e : Env) (σ : L2.St) (H H' : Hp) (r : Rv) (v : V) : Prop := match r.ret with
  | .dat d => At A.K A.X H' v d
  | .own ds => ∃ p xs, v = .ref p ∧ (OwnA e σ p ∨ H p = none) ∧ ¬ A.X p ∧ H' p = some (.lst xs) ∧ AtL A.K (fun a => A.X a ∨ a = p) H' xs ds
  | .bor _ => False
def RSK (A : Act γ ι) (W : WX) (e : Env) (σ : L2.St) (H : Hp) (r : Rs γ Fl) (Dd : Ends) : Prop := match r with
  | .ok (.nx e') g' => ∀ σ' H', Rep A e' g' σ' H' → Stp A e σ H e' σ' H' → Dd.nx σ' H'
  | .ok (.bk e') g' => ∀ σ' H', Rep A e' g' σ' H' → Stp A e σ H e' σ' H' → Dd.bk σ' H'
  | .ok (.ct e') g' => ∀ σ' H', Rep A e' g' σ' H' → Stp A e σ H e' σ' H' → Dd.ct σ' H'
  | .ok (.rt r) g' => ∀ v H', (∀ b o, H b = some o → ¬ Mu A e σ b → H' b = some o) → A.G.I g' H' → VRet A e σ H H' r v → Dd.rt v H'
  | .ex x g' => ∀ c od σ' H', (∀ b o, H b = some o → ¬ Mu A e σ b → H' b = some o) → A.G.I g' H' → A.R x c od H' → W c od σ' H'
  | .no => False
def RS (B : Bs γ ι) (W : WX) (m : MS γ) : TS := fun Dd σ H => ∃ (S : Addr → Prop) (e : Env) (g : γ), Rep ⟨B, S⟩ e g σ H ∧ RSK ⟨B, S⟩ W e σ H (m e g) Dd
section
variable {A : Act γ ι} {e0 e' e2 : Env} {g g1 g2 : γ} {σ σ' σ2 : L2.St} {H H' H2 H1 H0 : Hp} {v : V} {d : D} {i : Nat}
theorem VRet.pre (R' : Rep A e' g σ' H') (s : Stp A e0 σ H e' σ' H') {r : Rv} (h : VRet A e' σ' H' H2 r v) : VRet A e0 σ H H2 r v := by
  unfold VRet at h ⊢
  cases k : r.ret with
  | dat d =>
    rw [k] at h
    exact h
  | own ds =>
    rw [k] at h
    obtain ⟨p, xs, e1, h0, nx, kk, a⟩ := h
    refine ⟨p, xs, e1, ?_, nx, kk, a⟩
    rcases h0 with z | z
    · exact s.mu p z
    · cases q : H p with
      | none => exact .inr rfl
      | some o =>
        by_cases f : Mu A e0 σ p
        · rcases f with f | f
          · exact absurd z (A.G.trk _ _ _ R'.gh f)
          · exact .inl f
        · have := s.keep p o q f
          rw [z] at this
          cases this
  | bor ds =>
    rw [k] at h
    exact h.elim
theorem Stp.kp (R' : Rep A e' g σ' H') (s : Stp A e0 σ H e' σ' H') (h : ∀ b o, H' b = some o → ¬ Mu A e' σ' b → H2 b = some o) : ∀ b o, H b = some o → ¬ Mu A e0 σ b → H2 b = some o := fun b o q n =>
  h b o (s.keep b o q n) fun z => z.elim (fun z => n (.inl z)) fun z => (s.mu b z).elim (fun z => n (.inr z)) fun z => by
    rw [z] at q
    cases q
/-- the rest, from a later place -/
theorem RSK.late {Dd : Ends} {r : Rs γ Fl} (R' : Rep A e' g σ' H') (s : Stp A e0 σ H e' σ' H') (h : RSK A W e0 σ H r Dd) : RSK A W e' σ' H' r Dd := by
  cases r with
  | no => exact h
  | ex x g' => exact fun c od σ2 H2 k => h c od σ2 H2 (s.kp R' k)
  | ok f g' =>
    cases f with
    | nx e2 => exact fun σ2 H2 R2 s2 => h σ2 H2 R2 (s.trans R' s2)
    | bk e2 => exact fun σ2 H2 R2 s2 => h σ2 H2 R2 (s.trans R' s2)
    | ct e2 => exact fun σ2 H2 R2 s2 => h σ2 H2 R2 (s.trans R' s2)
    | rt r => exact fun v H2 k i o => h v H2 (s.kp R' k) i (o.pre R' s)
/-- a statement that begins with an expression -/
theorem RSK.bind {α β : Type} {P : Act γ ι → Env → L2.St → Hp → Hp → α → β → Prop} {m : Rs γ α} {f : α → γ → Rs γ Fl} {Dd : Ends} {k : β → Hp → Prop} (R : Rep A e0 g σ H) (h : RSK A W e0 σ H (m.bind f) Dd)
    (hk : ∀ a g1 b H2, ExE A H H2 → A.G.I g1 H2 → P A e0 σ H H2 a b → RSK A W e0 σ H (f a g1) Dd → k b H2) : RK P A W e0 σ H m k := by
  cases m with
  | no => exact h
  | ex y g => exact fun c od H' x i r => h c od σ H' (fun b o q n => x b o q fun z => n (.inl z)) i r
  | ok a g => exact fun b H' x' i p => hk a g b H' x' i p h
end
variable {Dd : Ends} {σ : L2.St} {H : Hp} {ma mb : ME γ} {ta : MT γ} {s1 s2 : MS γ} {a : Expr}
theorem pb_snil : PSs X [] (RS B W mPass) := pss_w pss_nil fun Dd σ H ⟨S, e, g, R, h⟩ => h σ H R .refl
theorem pb_sone {st : Stmt} (h : PS X st (RS B W s1)) : PSs X [st] (RS B W s1) := pss_one h
theorem rs_seq (h : RS B W (mSeq s1 s2) Dd σ H) : tSeq (RS B W s1) (RS B W s2) Dd σ H := by
  obtain ⟨S, e, g, R, h⟩ := h
  refine ⟨S, e, g, R, ?_⟩
  unfold mSeq at h
  cases k : s1 e g with
  | no =>
    rw [k] at h
    exact h
  | ex x g' =>
    rw [k] at h
    exact h
  | ok f g' =>
    rw [k] at h
    cases f with
    | nx e1 => exact fun σ' H' R' s' => ⟨S, e1, g', R', RSK.late R' s' h⟩
    | rt r => exact h
    | bk e1 => exact h
    | ct e1 => exact h
theorem pb_scons {st : Stmt} {rest : List Stmt} (h1 : PS X st (RS B W s1)) (h2 : PSs X rest (RS B W s2)) : PSs X (st :: rest) (RS B W (mSeq s1 s2)) := pss_w (pss_cons h1 h2) fun _ _ _ => rs_seq
/-- ahead of a block a name's list becomes data -/
theorem frz_own {A : Act γ ι} {e : Env} {g : γ} {σ : L2.St} {H : Hp} (R : Rep A e g σ H) {i : Nat} {ds : List D} (hi : gt e i = .own ds) : Rep A (st e i (.dat (.lst ds))) g σ H ∧ Stp A e σ H (st e i (.dat (.lst ds))) σ H := by
  have q := R.sl i
  rw [hi] at q
  obtain ⟨p, xs, e1, k, al⟩ := q
  have own : ∀ b, OwnA (st e i (.dat (.lst ds))) σ b → OwnA e σ b ∧ b ≠ p := fun b ⟨j, h1, h2⟩ => by
    rw [gt_st] at h1
    by_cases c : j = i ∧ i < e.length
    · rw [if_pos c] at h1
      cases h1
    · rw [if_neg c] at h1
      refine ⟨⟨j, h1, h2⟩, fun z => ?_⟩
      subst z
      have hji := R.inj j i b h1 (by rw [hi]; rfl) h2 e1
      subst hji
      apply c
      refine ⟨rfl, ?_⟩
      by_cases hlt : j < e.length
      · exact hlt
      · rw [gt_out (by omega)] at hi
        cases hi
  have less : ∀ a, Om A (st e i (.dat (.lst ds))) σ a → Om A e σ a := fun a z => z.elim .inl fun z => .inr (own a z).1
  refine ⟨⟨by rw [len_st, R.len], fun j => ?_, fun j k2 q h1 h2 h3 h4 => ?_, fun a z => R.nx a (own a z).1, R.gh, R.fx, R.xs⟩, ⟨fun _ _ h _ => h, fun b z => .inl (own b z).1⟩⟩
  · rw [gt_st]
    by_cases c : j = i ∧ i < e.length
    · rw [if_pos c, c.1, e1]
      exact ⟨_, rfl, .lst k (fun z => z.elim (fun z => R.nx p (.of hi rfl e1) z) fun z => (own p z).2 rfl) (al.less less)⟩
    · rw [if_neg c]
      have q := R.sl j
      cases h : gt e j with
      | un => trivial
      | dat d2 =>
        rw [h] at q
        obtain ⟨w, e1, a1⟩ := q
        exact ⟨w, e1, a1.less less⟩
      | own es =>
        rw [h] at q
        obtain ⟨q2, ys, e1, k1, a1⟩ := q
        exact ⟨q2, ys, e1, k1, a1.less less⟩
      | xc y =>
        rw [h] at q
        exact q
      | gh y =>
        rw [h] at q
        exact q
      | owd t ks vs =>
        rw [h] at q
        obtain ⟨q2, us, e1, k1, a1⟩ := q
        exact ⟨q2, us, e1, k1, a1.less less⟩
  · rw [gt_st] at h1 h2
    by_cases c : j = i ∧ i < e.length
    · rw [if_pos c] at h1
      cases h1
    · by_cases c2 : k2 = i ∧ i < e.length
      · rw [if_pos c2] at h2
        cases h2
      · rw [if_neg c] at h1
        rw [if_neg c2] at h2
        exact R.inj j k2 q h1 h2 h3 h4
theorem frz_owd {A : Act γ ι} {e : Env} {g : γ} {σ : L2.St} {H : Hp} (R : Rep A e g σ H) {i : Nat} {tt : Bool} {ks vs : List D} (hi : gt e i = .owd tt ks vs) : Rep A (st e i (.dat (.dct tt ks vs))) g σ H ∧ Stp A e σ H (st e i (.dat (.dct tt ks vs))) σ H := by
  have q := R.sl i
  rw [hi] at q
  obtain ⟨p, us, e1, k, al⟩ := q
  have own : ∀ b, OwnA (st e i (.dat (.dct tt ks vs))) σ b → OwnA e σ b ∧ b ≠ p := fun b ⟨j, h1, h2⟩ => by
    rw [gt_st] at h1
    by_cases c : j = i ∧ i < e.length
    · rw [if_pos c] at h1
      cases h1
    · rw [if_neg c] at h1
      refine ⟨⟨j, h1, h2⟩, fun z => ?_⟩
      subst z
      have hji := R.inj j i b h1 (by rw [hi]; rfl) h2 e1
      subst hji
      apply c
      refine ⟨rfl, ?_⟩
      by_cases hlt : j < e.length
      · exact hlt
      · rw [gt_out (by omega)] at hi
        cases hi
  have less : ∀ a, Om A (st e i (.dat (.dct tt ks vs))) σ a → Om A e σ a := fun a z => z.elim .inl fun z => .inr (own a z).1
  refine ⟨⟨by rw [len_st, R.len], fun j => ?_, fun j k2 q h1 h2 h3 h4 => ?_, fun a z => R.nx a (own a z).1, R.gh, R.fx, R.xs⟩, ⟨fun _ _ h _ => h, fun b z => .inl (own b z).1⟩⟩
  · rw [gt_st]
    by_cases c : j = i ∧ i < e.length
    · rw [if_pos c, c.1, e1]
      exact ⟨_, rfl, .dct k (fun z => z.elim (fun z => R.nx p (.of hi rfl e1) z) fun z => (own p z).2 rfl) (al.less less)⟩
    · rw [if_neg c]
      have q := R.sl j
      cases h : gt e j with
      | un => trivial
      | dat d2 =>
        rw [h] at q
        obtain ⟨w, e1, a1⟩ := q
        exact ⟨w, e1, a1.less less⟩
      | own es =>
        rw [h] at q
        obtain ⟨q2, ys, e1, k1, a1⟩ := q
        exact ⟨q2, ys, e1, k1, a1.less less⟩
      | xc y =>
        rw [h] at q
        exact q
      | gh y =>
        rw [h] at q
        exact q
      | owd t ks1 vs1 =>
        rw [h] at q
        obtain ⟨q2, us, e1, k1, a1⟩ := q
        exact ⟨q2, us, e1, k1, a1.less less⟩
  · rw [gt_st] at h1 h2
    by_cases c : j = i ∧ i < e.length
    · rw [if_pos c] at h1
      cases h1
    · by_cases c2 : k2 = i ∧ i < e.length
      · rw [if_pos c2] at h2
        cases h2
      · rw [if_neg c] at h1
        rw [if_neg c2] at h2
        exact R.inj j k2 q h1 h2 h3 h4
theorem pb_frz (i : Nat) {sts : List Stmt} (h : PSs X sts (RS B W s2)) : PSs X sts (RS B W (mSeq (mFrz i) s2)) := pss_w h fun Dd σ H ⟨S, e, g, R, h⟩ => by
  unfold mSeq mFrz at h
  cases k : gt e i with
  | un =>
    rw [k] at h
    exact ⟨S, e, g, R, h⟩
  | dat d =>
    rw [k] at h
    exact ⟨S, e, g, R, h⟩
  | xc y =>
    rw [k] at h
    exact ⟨S, e, g, R, h⟩
  | gh y =>
    rw [k] at h
    exact ⟨S, e, g, R, h⟩
  | own ds =>
    rw [k] at h
    obtain ⟨R2, s2⟩ := frz_own R k
    exact ⟨S, _, g, R2, RSK.late R2 s2 h⟩
  | owd t ks vs =>
    rw [k] at h
    obtain ⟨R2, s2⟩ := frz_owd R k
    exact ⟨S, _, g, R2, RSK.late R2 s2 h⟩
theorem vret_of {A : Act γ ι} {e : Env} {g : γ} {σ : L2.St} {H H' : Hp} (R : Rep A e g σ H) {r : Rv} {v : V} (o : VOk A e σ H H' r v) : VRet A e σ H H' r v := by
  cases r with
  | dat d => exact At.less (fun a z => .inl z) o
  | own ds =>
    obtain ⟨p, xs, e1, h0, k, a⟩ := o
    exact ⟨p, xs, e1, .inr h0, fun z => R.xt p z h0, k, a.less fun a z => z.elim (fun z => .inl (.inl z)) .inr⟩
  | bor ds =>
    obtain ⟨p, xs, e1, h0, k, a⟩ := o
    exact ⟨p, xs, e1, .inl h0, R.nx p h0, k, a.less fun a z => z.elim .inl fun z => by
      rw [z]
      exact .inr h0⟩
theorem pb_ret (ha : PE X a (RE B W ma)) : PS X (.Return (some a) pos) (RS B W (mRet ma)) := ps_w (ps_ret ha) fun Dd σ H ⟨S, e, g, R, h⟩ =>
  ⟨S, e, g, R, RSK.bind R h fun x g1 v H1 x1 i1 o1 h1 => h1 v H1 (fun b o q n => x1 b o q fun z => n (.inl z)) i1 (vret_of R o1)⟩
theorem rs_lateE {A : Act γ ι} {e : Env} {g g1 : γ} {σ : L2.St} {H H1 : Hp} {r : Rs γ Fl} (R : Rep A e g σ H) (x1 : ExE A H H1) (i1 : A.G.I g1 H1) (h : RSK A W e σ H r Dd) : RSK A W e σ H1 r Dd := RSK.late (R.exe x1 i1) (.exe R x1) h
theorem pb_sif {c : Expr} {p q : List Stmt} (hc : PT X c (RT B W ta)) (hp : PSs X p (RS B W s1)) (hq : PSs X q (RS B W s2)) : PS X (.If c p q pos) (RS B W (mIfS ta s1 s2)) := ps_w (ps_if hc hp hq) fun Dd σ H ⟨S, e, g, R, h⟩ => by
  refine ⟨S, e, g, R, RSK.bind R h fun x g1 v H1 x1 i1 o1 h1 => ?_⟩
  cases o1
  cases x with
  | true =>
    rw [if_pos rfl]
    exact ⟨S, e, g1, R.exe x1 i1, rs_lateE R x1 i1 h1⟩
  | false =>
    rw [if_neg Bool.false_ne_true]
    exact ⟨S, e, g1, R.exe x1 i1, rs_lateE R x1 i1 h1⟩
theorem pb_set {i : Nat} {x : Str} {pos' : Pos} (hN : X.N.Nodup) (hi : X.N[i]? = some x) (hx : Loc X.env.scope x) (ha : PE X a (RE B W ma)) (hs : swapsWith a (some (.Name x pos')) pos.line X.env = pure false := by rfl) (hf : X.fn x = true ∨ X.env.scope.names.lookup x = some .local := by first | exact .inl rfl | exact .inr rfl | assumption) :
    PS X (.Assign [.Name x pos'] a pos) (RS B W (mSet i ma)) := ps_w (ps_set hN hi hx ha hs hf) fun Dd σ H ⟨S, e, g, R, h⟩ => by
  refine ⟨S, e, g, R, RSK.bind R h fun r g1 v H1 x1 i1 o1 h1 => ?_⟩
  have R1 := R.exe x1 i1
  cases r with
  | dat d =>
    have o1' : At B.K (Om ⟨B, S⟩ e σ) H1 v d := o1
    exact h1 _ _ (R1.set o1' i) (.trans R1 (.exe R x1) (.set R1 i))
  | own ds =>
    obtain ⟨R2, ow⟩ := Rep.setO R x1 R1 o1 i
    exact h1 _ _ R2 ⟨fun b o q n => x1 b o q fun z => n (.inl z), ow⟩
  | bor ds => exact h1.elim
theorem pb_par {i j : Nat} {x y : Str} {a b : Expr} {px py pt : Pos} {kt k2 pt2} (hc : X.calm = true) (hN : X.N.Nodup) (hi : X.N[i]? = some x) (hj : X.N[j]? = some y) (hij : i ≠ j)
    (hx : X.env.scope.names.lookup x = some .local) (hy : X.env.scope.names.lookup y = some .local) (ha : PE X a (RE B W ma)) (hb : PE X b (RE B W mb))
    (hw : swappedStores [.Tuple [.Name x px, .Name y py] kt pt] (.Tuple [a, b] k2 pt2) X.env = pure (some [x, y]) := by rfl)
    (hs : swapsWithSole [.Tuple [.Name x px, .Name y py] kt pt] (.Tuple [a, b] k2 pt2) pos.line X.env = pure false := by rfl)
    (hsa : starEach [a, b] X.env = (false, eval a X.env) :: starEach [b] X.env := by rfl) (hsb : starEach [b] X.env = (false, eval b X.env) :: starEach [] X.env := by rfl) :
    PS X (.Assign [.Tuple [.Name x px, .Name y py] kt pt] (.Tuple [a, b] k2 pt2) pos) (RS B W (mPar i j ma mb)) := by
  refine ps_w (ps_par hc hN hi hj hij hx hy (pa_cons ha (pa_cons hb pa_nil hsb) hsa) hw hs) fun Dd σ H ⟨S, e, g, R, h⟩ => ?_
  refine ⟨S, e, g, R, RSK.bind R h fun r g1 v H1 x1 i1 o1 h1 => ?_⟩
  have R1 := R.exe x1 i1
  refine ⟨S, e, g1, R1, RSK.bind R1 (rs_lateE R x1 i1 h1) fun r2 g2 v2 H2 x2 i2 o2 h2 => ?_⟩
  have R2 := R1.exe x2 i2
  split at h2
  · rename_i d1 d2
    have a1 : At B.K (Om ⟨B, S⟩ e σ) H2 v d1 := R.at x2 o1
    have a2 : At B.K (Om ⟨B, S⟩ e σ) H2 v2 _ := o2
    refine ⟨v, v2, rfl, ?_⟩
    have R3 := R2.set a1 i
    have s3 := Stp.set (v := v) (d := d1) R2 i
    have a2' := a2.go (s3.go R2)
    exact h2 _ _ (R3.set a2' j) (.trans R2 (.exe R1 x2) (.trans R3 s3 (.set R3 j)))
  · exact h2.elim
end
end PB
set_option Elab.async false
set_option linter.all false
set_option maxRecDepth 100000
set_option maxHeartbeats 4000000
namespace PB
open PySem PySem.Spec PyProof.Rows L2
variable [Kts]
section
variable {γ ι : Type} {B : Bs γ ι} {W : WX} {X : Cx} {pos pz : Pos}
theorem PI.or {tg iter : Expr} {w w' : TI} (h : PI X tg iter w) (h' : PI X tg iter w') : PI X tg iter (fun σ H R => w σ H R ∨ w' σ H R) := ⟨fun pins s σ H R I q => q.elim (h.run pins s σ H R I) (h'.run pins s σ H R I)⟩
def ItOk (A : Act γ ι) (e : Env) (σ : L2.St) (H' : Hp) (J : It) (ds : List D) : Prop := ∀ H1 : Hp, (∀ b o, H' b = some o → ¬ Mu A e σ b → H1 b = some o) →
  (∀ i, ds.length ≤ i → J.stop i H1) ∧ ∀ i d, ds[i]? = some d → J.go i H1 ∧ ∀ x H2, J.yld i H1 x H2 → Nw H1 H2 ∧ ∀ O' : Addr → Prop, (∀ a, O' a → Om A e σ a ∨ H' a = none) → (∀ a, O' a → H1 a ≠ none) → At A.K O' H2 x d
abbrev PIt : Act γ ι → Env → L2.St → Hp → Hp → List D → It → Prop := fun A e σ _ H' ds J => ItOk A e σ H' J ds
abbrev RI (B : Bs γ ι) (W : WX) (m : MI γ) : TI := RG PIt B W m
theorem at_it {A : Act γ ι} {e : Env} {g : γ} {σ : L2.St} {H0 H' H1 : Hp} (R : Rep A e g σ H0) {O' : Addr → Prop} (h1 : ∀ b o, H' b = some o → ¬ Mu A e σ b → H1 b = some o) (h2 : ∀ a, O' a → Om A e σ a ∨ H' a = none) {v : V} {d : D} (h : At A.K (Om A e σ) H' v d) : At A.K O' H1 v d :=
  h.go fun a o q n => ⟨h1 a o q fun z => n (R.muom z), fun z => (h2 a z).elim n fun z => by
    rw [z] at q
    cases q⟩
theorem it_list {A : Act γ ι} {e : Env} {g : γ} {σ : L2.St} {H0 H' : Hp} (R : Rep A e g σ H0) {p : Addr} {xs : List V} {ds : List D} (hp : H' p = some (.lst xs)) (np : ¬ Mu A e σ p) (al : AtL A.K (Om A e σ) H' xs ds) : ItOk A e σ H' (Itl A.K p) ds := fun H1 h1 => by
  have hp1 := h1 p _ hp np
  refine ⟨fun i hi => ⟨xs, SqL.of hp1, by rw [al.length]; exact hi⟩, fun i d hd => ?_⟩
  obtain ⟨v, hv, av⟩ := al.get hd
  refine ⟨⟨xs, v, SqL.of hp1, hv⟩, fun x H2 hy => ?_⟩
  obtain ⟨e1, hx⟩ := hy
  subst e1
  have : x = v := Option.some.inj ((hx xs (SqL.of hp1)).symm.trans hv)
  subst this
  exact ⟨.inl rfl, fun O' h2 h3 => at_it R h1 h2 av⟩
theorem it_tup {A : Act γ ι} {e : Env} {g : γ} {σ : L2.St} {H0 H' : Hp} (R : Rep A e g σ H0) {p : Addr} {xs : List V} {ds : List D} (hp : (H' p = some (.tup xs) ∧ ¬ Om A e σ p) ∨ KT A.K p xs) (al : AtL A.K (Om A e σ) H' xs ds) : ItOk A e σ H' (Itt A.K p) ds := fun H1 h1 => by
  have hp1 : SqT A.K H1 p xs := by
    rcases hp with ⟨a, b⟩ | k
    · exact SqT.of (h1 p _ a fun z => b (R.muom z))
    · exact .inr k.2
  refine ⟨fun i hi => ⟨xs, hp1, by rw [al.length]; exact hi⟩, fun i d hd => ?_⟩
  obtain ⟨v, hv, av⟩ := al.get hd
  refine ⟨⟨xs, v, hp1, hv⟩, fun x H2 hy => ?_⟩
  obtain ⟨e1, hx⟩ := hy
  subst e1
  have : x = v := Option.some.inj ((hx xs hp1).symm.trans hv)
  subst this
  exact ⟨.inl rfl, fun O' h2 h3 => at_it R h1 h2 av⟩
variable {a b c e : Expr} {es : List Expr} {ma mb mc : ME γ} {mr : MA γ} {tg : Expr}
theorem pb_items (hK : B.K = X.K) (h : PE X a (RE B W ma)) : PI X tg a (RI B W (mItems ma)) := by
  refine pi_w (PI.or (pi_list h) (pi_tup h)) fun σ H Q ⟨S, e, g, R, h⟩ => ?_
  cases q : ma e g with
  | no =>
    unfold mItems at h
    rw [q] at h
    exact h.elim
  | ex y g1 =>
    unfold mItems at h
    rw [q] at h
    refine .inl ⟨S, e, g, R, ?_⟩
    show RK _ _ _ _ _ _ (ma e g) _
    rw [q]
    exact h
  | ok r g1 =>
    unfold mItems at h
    rw [q] at h
    obtain ⟨ds, k, h1⟩ := RK.ofO (P := PIt) (A := ⟨B, S⟩) (o := seqOf r) (g := g1) h
    unfold seqOf at k
    split at k
    · cases k
      refine .inr ⟨S, e, g, R, ?_⟩
      show RK _ _ _ _ _ _ (ma e g) _
      rw [q]
      intro v H1 x1 i1 o1
      cases o1 with
      | @tup p xs _ k al =>
      exact ⟨p, rfl, ⟨xs, by rw [← hK]; exact tup_seq k⟩, by rw [← hK]; exact h1 _ H1 x1 i1 (it_tup R k al)⟩
    · cases k
      refine .inl ⟨S, e, g, R, ?_⟩
      show RK _ _ _ _ _ _ (ma e g) _
      rw [q]
      intro v H1 x1 i1 o1
      cases o1 with
      | @lst p xs _ k k2 al =>
      exact ⟨p, rfl, ⟨xs, SqL.of k⟩, by rw [← hK]; exact h1 _ H1 x1 i1 (it_list R k (fun z => k2 (R.muom z)) al)⟩
    · cases k
      refine .inl ⟨S, e, g, R, ?_⟩
      show RK _ _ _ _ _ _ (ma e g) _
      rw [q]
      intro v H1 x1 i1 o1
      obtain ⟨p, xs, e1, h0, k, al⟩ := o1
      subst e1
      exact ⟨p, rfl, ⟨xs, SqL.of k⟩, by rw [← hK]; exact h1 _ H1 x1 i1 (it_list R k (fun z => R.omt (R.muom z) h0) (al.less fun a z => .inl z))⟩
    · cases k
theorem rng_get (lo : Int) (n : Nat) : ∀ i, (rng lo n)[i]? = if i < n then some (.int (lo + i)) else none := by
  induction n generalizing lo with
  | zero => intro i; simp [rng]
  | succ n ih =>
    intro i
    cases i with
    | zero => simp [rng]
    | succ i =>
      simp only [rng, List.getElem?_cons_succ, ih]
      by_cases h : i < n
      · rw [if_pos h, if_pos (by omega)]
        congr 2
        omega
      · rw [if_neg h, if_neg (by omega)]
theorem rng_len (lo : Int) (n : Nat) : (rng lo n).length = n := by
  induction n generalizing lo with
  | zero => rfl
  | succ n ih => simp [rng, ih]
theorem it_rng {A : Act γ ι} {e : Env} {σ : L2.St} {H' : Hp} (lo : Int) (n : Nat) : ItOk A e σ H' (Itr lo n) (rng lo n) := fun H1 h1 => by
  refine ⟨fun i hi => by rw [rng_len] at hi; exact hi, fun i d hd => ?_⟩
  rw [rng_get] at hd
  by_cases hi : i < n
  · rw [if_pos hi] at hd
    cases hd
    refine ⟨hi, fun x H2 hy => ?_⟩
    obtain ⟨e1, e2⟩ := hy
    subst e1 e2
    exact ⟨.inl rfl, fun _ _ _ => .int _⟩
  · rw [if_neg hi] at hd
    cases hd
theorem rngOk_bd {n : Int} (h : RngOk n) : -(2 ^ 62) ≤ n ∧ n < 2 ^ 62 := by
  by_cases h0 : n.natAbs = 0
  · omega
  · have := (Nat.log2_lt h0).mp h
    omega
theorem pb_range1 {p : Pos} (hg : Gl X "range") (hm : X.mg "range" = none) (ha : PE X a (RE B W ma)) (hs : starEach [a] X.env = [(false, eval a X.env)] := by rfl) : PI X tg (.Call (.Name "range" p) [a] [] pos) (RI B W (mRange1 ma)) := by
  refine pi_w (pi_range1 hg hm (pa_cons ha pa_nil (by rw [hs] <;> rfl)) hs) fun σ H Q ⟨S, e, g, R, h⟩ => ?_
  refine ⟨S, e, g, R, RK.bind (.refl H) h fun x g1 vx H1 _ x1 i1 o1 h1 => ?_⟩
  split at h1
  · split at h1
    · rename_i c
      cases o1
      exact ⟨_, rfl, (rngOk_bd c).1, (rngOk_bd c).2, h1 _ H1 x1 i1 (it_rng _ _)⟩
    · exact h1.elim
  · exact h1.elim
theorem zip_get : ∀ (xs ys : List D) (i : Nat), (zipD xs ys)[i]? = match xs[i]?, ys[i]? with
    | some x, some y => some (.tup [x, y])
    | _, _ => none
  | [], ys, i => by cases ys <;> simp [zipD]
  | x :: xs, [], i => by
    simp only [zipD, List.getElem?_nil]
    split <;> first | rfl | (rename_i h; cases h)
  | x :: xs, y :: ys, 0 => rfl
  | x :: xs, y :: ys, i + 1 => by
    simp only [zipD, List.getElem?_cons_succ]
    exact zip_get xs ys i
theorem zip_len : ∀ (xs ys : List D), (zipD xs ys).length = min xs.length ys.length
  | [], ys => by cases ys <;> simp [zipD]
  | x :: xs, [] => by simp [zipD]
  | x :: xs, y :: ys => by
    simp only [zipD, List.length_cons, zip_len xs ys]
    omega
theorem it_zip {A : Act γ ι} {e : Env} {g : γ} {σ : L2.St} {H0 H' : Hp} (R : Rep A e g σ H0) {p q : Addr} {xs ys : List V} {ds es : List D} (hp : H' p = some (.lst xs)) (np : ¬ Mu A e σ p) (al : AtL A.K (Om A e σ) H' xs ds) (hq : H' q = some (.lst ys)) (nq : ¬ Mu A e σ q) (al2 : AtL A.K (Om A e σ) H' ys es) :
    ItOk A e σ H' (Itz A.K p q) (zipD ds es) := fun H1 h1 => by
  have hp1 := h1 p _ hp np
  have hq1 := h1 q _ hq nq
  refine ⟨fun i hi => ⟨xs, ys, SqL.of hp1, SqL.of hq1, by rw [zip_len] at hi; rw [al.length, al2.length]; omega⟩, fun i d hd => ?_⟩
  rw [zip_get] at hd
  split at hd
  · rename_i x y hx hy
    cases hd
    obtain ⟨v, hv, av⟩ := al.get hx
    obtain ⟨w, hw, aw⟩ := al2.get hy
    refine ⟨⟨xs, ys, v, w, SqL.of hp1, SqL.of hq1, hv, hw⟩, fun z H2 hz => ?_⟩
    obtain ⟨T, x', y', rfl, hT, rfl, f1, f2⟩ := hz
    have : x' = v := Option.some.inj ((f1 xs (SqL.of hp1)).symm.trans hv)
    subst this
    have : y' = w := Option.some.inj ((f2 ys (SqL.of hq1)).symm.trans hw)
    subst this
    refine ⟨.inr ⟨T, _, hT, rfl⟩, fun O' h2 h3 => ?_⟩
    have up : ∀ {v : V} {d : D}, At A.K O' H1 v d → At A.K O' (upd H1 T (.tup [x', y'])) v d := fun h => h.go fun a o q n => ⟨by rw [upd_ne (ne_of_none q hT)]; exact q, n⟩
    exact .tup (.inl ⟨upd_same, fun z => h3 T z hT⟩) (.cons (up (at_it R h1 h2 av)) (.cons (up (at_it R h1 h2 aw)) .nil))
  · cases hd
theorem it_zipT {A : Act γ ι} {e : Env} {g : γ} {σ : L2.St} {H0 H' : Hp} (R : Rep A e g σ H0) {p q : Addr} {xs ys : List V} {ds es : List D} (hp : (H' p = some (.tup xs) ∧ ¬ Om A e σ p) ∨ KT A.K p xs) (al : AtL A.K (Om A e σ) H' xs ds) (hq : (H' q = some (.tup ys) ∧ ¬ Om A e σ q) ∨ KT A.K q ys) (al2 : AtL A.K (Om A e σ) H' ys es) :
    ItOk A e σ H' (RZ.ItzT A.K p q) (zipD ds es) := fun H1 h1 => by
  have hp1 : SqT A.K H1 p xs := by
    rcases hp with ⟨a, b⟩ | k
    · exact SqT.of (h1 p _ a fun z => b (R.muom z))
    · exact .inr k.2
  have hq1 : SqT A.K H1 q ys := by
    rcases hq with ⟨a, b⟩ | k
    · exact SqT.of (h1 q _ a fun z => b (R.muom z))
    · exact .inr k.2
  refine ⟨fun i hi => ⟨xs, ys, hp1, hq1, by rw [zip_len] at hi; rw [al.length, al2.length]; omega⟩, fun i d hd => ?_⟩
  rw [zip_get] at hd
  split at hd
  · rename_i x y hx hy
    cases hd
    obtain ⟨v, hv, av⟩ := al.get hx
    obtain ⟨w, hw, aw⟩ := al2.get hy
    refine ⟨⟨xs, ys, v, w, hp1, hq1, hv, hw⟩, fun z H2 hz => ?_⟩
    obtain ⟨T, x', y', rfl, hT, rfl, f1, f2⟩ := hz
    have : x' = v := Option.some.inj ((f1 xs hp1).symm.trans hv)
    subst this
    have : y' = w := Option.some.inj ((f2 ys hq1).symm.trans hw)
    subst this
    refine ⟨.inr ⟨T, _, hT, rfl⟩, fun O' h2 h3 => ?_⟩
    have up : ∀ {v : V} {d : D}, At A.K O' H1 v d → At A.K O' (upd H1 T (.tup [x', y'])) v d := fun h => h.go fun a o q n => ⟨by rw [upd_ne (ne_of_none q hT)]; exact q, n⟩
    exact .tup (.inl ⟨upd_same, fun z => h3 T z hT⟩) (.cons (up (at_it R h1 h2 av)) (.cons (up (at_it R h1 h2 aw)) .nil))
  · cases hd
/-- where a new list or a datum's list stands, it is not changed by the run -/
theorem seq_lst {A : Act γ ι} {e : Env} {g : γ} {σ : L2.St} {H0 H1 H : Hp} (R : Rep A e g σ H0) (x : ExE A H0 H1) {g1 : γ} (i : A.G.I g1 H1) {r : Rv} {v : V} {ds : List D} (o : VOk A e σ H1 H r v) (hs : r = .dat (.lst ds) ∨ r = .own ds) : ∃ p xs, v = .ref p ∧ H p = some (.lst xs) ∧ ¬ Mu A e σ p ∧ AtL A.K (Om A e σ) H xs ds := by
  rcases hs with rfl | rfl
  · cases o with
    | @lst p xs _ k k2 al => exact ⟨p, xs, rfl, k, fun z => k2 (R.muom z), al⟩
  · obtain ⟨p, xs, e1, h0, k, al⟩ := o
    exact ⟨p, xs, e1, k, fun z => R.omt (R.muom z) (x.back h0 i), al.less fun a z => .inl z⟩
theorem pb_zip {p tpos : Pos} {elts : List Expr} {kk : Nat} (hK : B.K = X.K) (hg : Gl X "zip") (hm : X.mg "zip" = none) (ha : PE X a (RE B W ma)) (hb : PE X b (RE B W mb)) (hs : starEach [a, b] X.env = (false, eval a X.env) :: starEach [b] X.env := by rfl) (hs2 : starEach [b] X.env = (false, eval b X.env) :: starEach [] X.env := by rfl)
    (hpl : (backTo pos (starEach [b] X.env)).any (·.1) = false := by rfl) : PI X (.Tuple elts kk tpos) (.Call (.Name "zip" p) [a, b] [] pos) (RI B W (mZip2 ma mb)) := by
  refine pi_w (RZ.pi_zipA hg hm (pa_cons ha (pa_cons hb pa_nil hs2) hs) hs hpl) fun σ H Q ⟨S, e, g, R, h⟩ => ?_
  refine ⟨S, e, g, R, RK.bind (.refl H) h fun x g1 vx H1 _ x1 i1 o1 h1 => ?_⟩
  refine ⟨S, e, g1, R.exe x1 i1, RK.bind x1 h1 fun y g2 vy H2 x12 x2 i2 o2 h2 => ?_⟩
  have o1' := o1.step R x12
  have o2' := o2.pre x1 i1
  rw [← hK]
  obtain ⟨zs, k, h2⟩ := h2.ofO
  unfold zip2 at k
  split at k
  · cases k
    cases o1' with
    | @tup p xs _ k al =>
    cases o2' with
    | @tup q ys _ k2 al2 =>
    exact ⟨p, q, xs, ys, rfl, .inr ⟨tup_seq k, tup_seq k2, h2 _ H2 x2 i2 (it_zipT R k al k2 al2)⟩⟩
  all_goals first
    | (cases k; done)
    | (cases k
       obtain ⟨p, xs, e1, k, n, al⟩ := seq_lst R (.refl H) R.gh o1' (by first | exact .inl rfl | exact .inr rfl)
       obtain ⟨q, ys, e2, k2, n2, al2⟩ := seq_lst R (.refl H) R.gh o2' (by first | exact .inl rfl | exact .inr rfl)
       subst e1 e2
       exact ⟨p, q, xs, ys, rfl, .inl ⟨SqL.of k, SqL.of k2, h2 _ H2 x2 i2 (it_zip R k n al k2 n2 al2)⟩⟩)
def TgS (B : Bs γ ι) (g : TG) (tg : MG) (is : List Nat) : Prop := ∀ (S : Addr → Prop) (e : Env) (gm : γ) (σ : L2.St) (H : Hp) (v : V) (d : D) (e' : Env) (Q : L2.St → Hp → Prop), Rep ⟨B, S⟩ e gm σ H → At B.K (Om ⟨B, S⟩ e σ) H v d → tg d e = some e' →
  (∀ σ', Rep ⟨B, S⟩ e' gm σ' H → Stp ⟨B, S⟩ e σ H e' σ' H → σ'.length = σ.length → (∀ j, j ∉ is → gt e' j = gt e j ∧ σ'[j]? = σ[j]?) → Q σ' H) → g v σ H Q
theorem ts_name (i : Nat) : TgS B (gName i) (tgN i) [i] := fun S e gm σ H v d e' Q R a h q => by
  cases h
  refine q _ (R.set a i) (.set R i) List.length_set fun j hj => ?_
  have hj : j ≠ i := by simpa using hj
  rw [gt_st, if_neg (fun z => hj z.1), List.getElem?_set_ne (Ne.symm hj)]
  exact ⟨rfl, rfl⟩
/-- the targets of a tuple, one after another -/
inductive TgL (B : Bs γ ι) : TGs → List Nat → Prop
  | nil : TgL B gNil []
  | cons {u : TGs} {i : Nat} {is : List Nat} (h : TgL B u is) : TgL B (gCons (gName i) u) (i :: is)
theorem ts_list {u : TGs} {is : List Nat} (h : TgL B u is) : ∀ (S : Addr → Prop) (e : Env) (gm : γ) (σ : L2.St) (H : Hp) (vs : List V) (ds : List D) (e' : Env) (Q : L2.St → Hp → Prop), Rep ⟨B, S⟩ e gm σ H → AtL B.K (Om ⟨B, S⟩ e σ) H vs ds → tgL is ds e = some e' →
    (∀ σ', Rep ⟨B, S⟩ e' gm σ' H → Stp ⟨B, S⟩ e σ H e' σ' H → σ'.length = σ.length → (∀ j, j ∉ is → gt e' j = gt e j ∧ σ'[j]? = σ[j]?) → Q σ' H) → u vs σ H Q := by
  induction h with
  | nil =>
    intro S e gm σ H vs ds e' Q R a h q
    cases ds with
    | nil =>
      cases a
      cases h
      exact ⟨rfl, q σ R .refl rfl fun _ _ => ⟨rfl, rfl⟩⟩
    | cons d ds => cases h
  | @cons u i is _ ih =>
    intro S e gm σ H vs ds e' Q R a h q
    cases ds with
    | nil => cases h
    | cons d ds =>
      cases a with
      | @cons v _ vs _ a1 a2 =>
      have R1 := R.set a1 i
      have s1 := Stp.set (v := v) (d := d) R i
      refine ⟨v, vs, rfl, ih S _ gm _ H vs ds e' Q R1 (a2.go (s1.go R)) h fun σ' R' s' l k => q σ' R' (.trans R1 s1 s') (by rw [l, List.length_set]) fun j hj => ?_⟩
      have hj1 : j ≠ i := fun z => hj (by rw [z]; exact List.mem_cons_self)
      obtain ⟨k1, k2⟩ := k j fun z => hj (List.mem_cons_of_mem _ z)
      rw [k1, k2, gt_st, if_neg (fun z => hj1 z.1), List.getElem?_set_ne (Ne.symm hj1)]
      exact ⟨rfl, rfl⟩
theorem tgL_len : ∀ {is : List Nat} {ds : List D} {e e' : Env}, tgL is ds e = some e' → ds.length = is.length
  | [], [], _, _, _ => rfl
  | [], _ :: _, _, _, h => by cases h
  | _ :: _, [], _, _, h => by cases h
  | _ :: is, _ :: ds, _, _, h => by
    rw [List.length_cons, List.length_cons, tgL_len (is := is) (ds := ds) h]
theorem ts_tup {u : TGs} {is : List Nat} {n : Nat} {K : Frag} (hK : B.K = K) (hn : is.length = n) (h : TgL B u is) : TgS B (gTup K n u) (tgT is) is := fun S e gm σ H v d e' Q R a ht q => by
  subst hn hK
  unfold tgT at ht
  split at ht
  · cases a with
    | @tup p xs _ k al =>
    exact ⟨p, xs, rfl, tup_seq k, by rw [al.length]; exact tgL_len ht, ts_list h S e gm σ H xs _ e' Q R al ht q⟩
  · cases ht
theorem drop_at {α : Type} {l : List α} {i : Nat} {d : α} (h : l[i]? = some d) : l.drop i = d :: l.drop (i + 1) := by
  obtain ⟨hl, e⟩ := List.getElem?_eq_some_iff.mp h
  rw [List.drop_eq_getElem_cons hl, e]
theorem pb_for {iter : Expr} {body : List Stmt} {g : TG} {tgm : MG} {is : List Nat} {mi : MI γ} {sb : MS γ} (hp : PassesOwn (model X.prog X.w) X.A X.env X.xe) (hc : X.calm = true) (hi : PI X tg iter (RI B W mi)) (hg : PG X tg g) (ts : TgS B g tgm is) (hb : PSs X body (RS B W sb))
    (hs : ∀ x, foldedSetIterable iter X.env x = pure x := by intro _; rfl) : PS X (.For tg iter body [] pos) (RS B W (mFor mi tgm sb)) := by
  refine ps_w (ps_for hp hc hi hg hb hs) fun Dd σ H ⟨S, e, gm, R, h⟩ => ?_
  refine ⟨S, e, gm, R, RSK.bind R h fun ds g1 J H1 x1 i1 it h1 => ?_⟩
  have R1 := R.exe x1 i1
  have h1' := rs_lateE R x1 i1 h1
  refine ⟨fun i m σ1 H2 => ∃ e1 g2, Rep ⟨B, S⟩ e1 g2 σ1 H2 ∧ Stp ⟨B, S⟩ e σ H1 e1 σ1 H2 ∧ m = ds.length - i ∧ i ≤ ds.length ∧ RSK ⟨B, S⟩ W e1 σ1 H2 (forL tgm sb (ds.drop i) e1 g2) Dd, ⟨ds.length, e, g1, R1, .refl, by simp, Nat.zero_le _, h1'⟩, ?_⟩
  rintro i m σ1 H2 ⟨e1, g2, R2, st2, rfl, hi, h2⟩
  obtain ⟨stop, go⟩ := it H2 st2.keep
  by_cases hlt : i < ds.length
  · obtain ⟨d, hd⟩ : ∃ d, ds[i]? = some d := ⟨ds[i], by simp [hlt]⟩
    obtain ⟨g1', gy⟩ := go i d hd
    rw [drop_at hd] at h2
    unfold forL at h2
    refine .inr ⟨g1', fun σ' H' => ∃ e3 g3, Rep ⟨B, S⟩ e3 g3 σ' H' ∧ Stp ⟨B, S⟩ e σ H1 e3 σ' H' ∧ RSK ⟨B, S⟩ W e3 σ' H' (forL tgm sb (ds.drop (i + 1)) e3 g3) Dd, fun σ' H' ⟨e3, g3, R3, s3, h3⟩ => ⟨ds.length - (i + 1), by omega, e3, g3, R3, s3, rfl, hlt, h3⟩, fun x Hy hy => ?_⟩
    obtain ⟨nw, at1⟩ := gy x Hy hy
    have a1 := at1 (Om ⟨B, S⟩ e1 σ1) (fun a z => z.elim (fun z => .inl (.inl z)) fun z => (st2.mu a z).elim (fun z => .inl (.inr z)) .inr) (fun a z => R2.omt z)
    have Ry := R2.exe nw.exe (nw.gh R2.gh)
    have sy : Stp ⟨B, S⟩ e1 σ1 H2 e1 σ1 Hy := .exe R2 nw.exe
    cases kt : tgm d e1 with
    | none =>
      rw [kt] at h2
      exact h2.elim
    | some e2 =>
      rw [kt] at h2
      refine ts S e1 g2 σ1 Hy x d e2 _ Ry a1 kt fun σ2 R3 s3 _ _ => ?_
      have s13 : Stp ⟨B, S⟩ e1 σ1 H2 e2 σ2 Hy := .trans Ry sy s3
      have h3 := RSK.late R3 s13 h2
      have stq := Stp.trans R2 st2 s13
      refine ⟨S, e2, g2, R3, ?_⟩
      simp only at h3
      cases kb : sb e2 g2 with
      | no =>
        rw [kb] at h3
        exact h3
      | ex y g3 =>
        rw [kb] at h3
        exact h3
      | ok f g3 =>
        rw [kb] at h3
        cases f with
        | nx e3 => exact fun σ' H' R' s' => ⟨e3, g3, R', .trans R3 stq s', RSK.late R' s' h3⟩
        | ct e3 => exact fun σ' H' R' s' => ⟨e3, g3, R', .trans R3 stq s', RSK.late R' s' h3⟩
        | bk e3 => exact h3
        | rt r => exact h3
  · have e2 : i = ds.length := by omega
    subst e2
    rw [List.drop_length] at h2
    exact .inl ⟨stop _ (Nat.le_refl _), h2 σ1 H2 R2 .refl⟩
theorem pb_while {c : Expr} {body : List Stmt} {tc : MT γ} {sb : MS γ} (n : Nat) (hp : PassesOwn (model X.prog X.w) X.A X.env X.xe) (hc : PT X c (RT B W tc)) (hb : PSs X body (RS B W sb)) : PS X (.While c body [] pos) (RS B W (mWhile tc sb n)) := by
  refine ps_w (ps_while hp hc hb) fun Dd σ H ⟨S, e, g, R, h⟩ => ?_
  refine ⟨fun m σ1 H1 => ∃ e1 g1, Rep ⟨B, S⟩ e1 g1 σ1 H1 ∧ RSK ⟨B, S⟩ W e1 σ1 H1 (mWhile tc sb m e1 g1) Dd, ⟨n, e, g, R, h⟩, ?_⟩
  rintro m σ1 H1 ⟨e1, g1, R1, h1⟩
  cases m with
  | zero => exact h1.elim
  | succ m =>
    unfold mWhile at h1
    refine ⟨S, e1, g1, R1, ?_⟩
    cases kc : tc e1 g1 with
    | no =>
      rw [kc] at h1
      exact h1
    | ex y g2 =>
      rw [kc] at h1
      exact fun c od H' x i r => h1 c od σ1 H' (fun b o q n => x b o q fun z => n (.inl z)) i r
    | ok b g2 =>
      rw [kc] at h1
      intro b' H2 x2 i2 eb
      cases eb
      have R2 := R1.exe x2 i2
      have s2 : Stp ⟨B, S⟩ e1 σ1 H1 e1 σ1 H2 := .exe R1 x2
      cases b with
      | false =>
        rw [if_neg Bool.false_ne_true]
        exact h1 σ1 H2 R2 s2
      | true =>
        rw [if_pos rfl]
        refine ⟨fun σ' H' => ∃ e1 g1, Rep ⟨B, S⟩ e1 g1 σ' H' ∧ RSK ⟨B, S⟩ W e1 σ' H' (mWhile tc sb m e1 g1) Dd, fun σ' H' q => ⟨m, Nat.lt_succ_self m, q⟩, S, e1, g2, R2, ?_⟩
        have h3 := RSK.late R2 s2 h1
        simp only at h3
        cases kb : sb e1 g2 with
        | no =>
          rw [kb] at h3
          exact h3
        | ex y g3 =>
          rw [kb] at h3
          exact h3
        | ok f g3 =>
          rw [kb] at h3
          cases f with
          | nx e3 => exact fun σ' H' R' s' => ⟨e3, g3, R', RSK.late R' s' h3⟩
          | ct e3 => exact fun σ' H' R' s' => ⟨e3, g3, R', RSK.late R' s' h3⟩
          | bk e3 => exact h3
          | rt r => exact h3
end
end PB
set_option Elab.async false
set_option linter.all false
set_option maxRecDepth 100000
set_option maxHeartbeats 4000000
namespace PB
open PySem PySem.Spec PyProof.Rows L2
variable [Kts]
section
variable {γ ι : Type} {B : Bs γ ι} {W : WX} {X : Cx} {pos : Pos} {a b c e : Expr} {es : List Expr} {ma mb mc : ME γ} {mr : MA γ} {tg : Expr}
theorem gt_wp : ∀ (is : List Nat) (e : Env) (j : Nat), gt (wp e is) j = if j ∈ is then .un else gt e j
  | [], e, j => by simp [wp]
  | i :: is, e, j => by
    unfold wp
    rw [gt_wp is, gt_st]
    by_cases h : j ∈ is
    · rw [if_pos h, if_pos (List.mem_cons_of_mem _ h)]
    · rw [if_neg h]
      by_cases h2 : j = i
      · subst h2
        rw [if_pos (List.mem_cons_self)]
        by_cases h3 : j < e.length
        · rw [if_pos ⟨rfl, h3⟩]
        · rw [if_neg (fun z => h3 z.2), gt_out (by omega)]
      · rw [if_neg (fun z => h2 z.1), if_neg (by simp [h2, h])]
theorem len_wp : ∀ (is : List Nat) (e : Env), (wp e is).length = e.length
  | [], e => rfl
  | i :: is, e => by
    unfold wp
    rw [len_wp is, len_st]
theorem wipe_get : ∀ (vs : List Nat) (σ : L2.St) (j : Nat), (wipe σ vs)[j]? = if j ∈ vs then (if j < σ.length then some none else none) else σ[j]?
  | [], σ, j => by simp [wipe]
  | v :: vs, σ, j => by
    unfold wipe
    rw [set_at, wipe_length, wipe_get vs σ j]
    by_cases h : j = v
    · subst h
      rw [if_pos List.mem_cons_self]
      by_cases h3 : j < σ.length
      · rw [if_pos ⟨rfl, h3⟩, if_pos h3]
      · rw [if_neg (fun z => h3 z.2), if_neg h3]
        split <;> first | rfl | exact List.getElem?_eq_none (by omega)
    · rw [if_neg (fun z => h z.1)]
      by_cases h2 : j ∈ vs
      · rw [if_pos h2, if_pos (List.mem_cons_of_mem _ h2)]
      · rw [if_neg h2, if_neg (by simp [h, h2])]
theorem wipe_eq {σ σ' : L2.St} {vs is : List Nat} (hl : σ'.length = σ.length) (hs : ∀ i ∈ is, i ∈ vs) (h : ∀ j, j ∉ is → σ'[j]? = (wipe σ vs)[j]?) : wipe σ' vs = wipe σ vs := by
  apply List.ext_getElem?
  intro j
  rw [wipe_get, wipe_get, hl]
  by_cases hj : j ∈ vs
  · rw [if_pos hj, if_pos hj]
  · rw [if_neg hj, if_neg hj, h j (fun z => hj (hs j z)), wipe_get, if_neg hj]
/-- all but what lies beside is kept -/
theorem Rep.exX {A : Act γ ι} {e : Env} {g g' : γ} {σ : L2.St} {H H' : Hp} (R : Rep A e g σ H) (x : ∀ b o, H b = some o → ¬ A.X b → H' b = some o) (t : ∀ a, A.X a → Stk (H' a)) (i : A.G.I g' H') : Rep A e g' σ H' where
  len := R.len
  sl := fun j => by
    have q := R.sl j
    cases h : gt e j with
    | un => trivial
    | dat d =>
      rw [h] at q
      obtain ⟨v, e1, a⟩ := q
      exact ⟨v, e1, a.go fun a o q n => ⟨x a o q fun z => n (.inl z), n⟩⟩
    | own ds =>
      rw [h] at q
      obtain ⟨p, xs, e1, k, a⟩ := q
      exact ⟨p, xs, e1, x p _ k (R.nx p (.of h rfl e1)), a.go fun a o q n => ⟨x a o q fun z => n (.inl z), n⟩⟩
    | xc y =>
      rw [h] at q
      exact ⟨q.1, q.2.go fun p fs k => x p _ k fun z => R.nxd k (.inl z)⟩
    | gh y =>
      rw [h] at q
      exact q
    | owd tt ks vs =>
      rw [h] at q
      obtain ⟨p, us, e1, k, a⟩ := q
      exact ⟨p, us, e1, k.go fun o e => x p _ e (R.nx p (.of h rfl e1)), a.go fun a o q n => ⟨x a o q fun z => n (.inl z), n⟩⟩
  inj := R.inj
  nx := R.nx
  gh := i
  fx := R.fx
  xs := t
/-- within a comprehension: the new list lies beside -/
def Bl (A : Act γ ι) (e : Env) (σ : L2.St) (vs : List Nat) (Dp : Addr) : Addr → Prop := fun a => (Om A e σ a ∧ ¬ OwnA (wp e vs) (wipe σ vs) a) ∨ a = Dp
theorem own_wp {e : Env} {σ : L2.St} {vs : List Nat} {a : Addr} (h : OwnA (wp e vs) (wipe σ vs) a) : OwnA e σ a := by
  obtain ⟨j, h1, h2⟩ := h
  rw [gt_wp] at h1
  rw [wipe_get] at h2
  by_cases hj : j ∈ vs
  · rw [if_pos hj] at h1
    cases h1
  · rw [if_neg hj] at h1 h2
    exact ⟨j, h1, h2⟩
theorem bl_om {A : Act γ ι} {e : Env} {σ : L2.St} {vs : List Nat} {Dp a : Addr} : Om ⟨A.B, Bl A e σ vs Dp⟩ (wp e vs) (wipe σ vs) a ↔ (Om A e σ a ∨ a = Dp) := by
  constructor
  · rintro (z | z)
    · exact z.elim (fun z => .inl z.1) .inr
    · exact .inl (.inr (own_wp z))
  · rintro (z | z)
    · by_cases q : OwnA (wp e vs) (wipe σ vs) a
      · exact .inr q
      · exact .inl (.inl ⟨z, q⟩)
    · exact .inl (.inr z)
theorem Rep.blk {A : Act γ ι} {e : Env} {g : γ} {σ : L2.St} {H : Hp} (R : Rep A e g σ H) (vs : List Nat) {Dp : Addr} (hD : H Dp = none) (xs : List V) : Rep ⟨A.B, Bl A e σ vs Dp⟩ (wp e vs) g (wipe σ vs) (upd H Dp (.lst xs)) where
  len := by rw [wipe_length, len_wp, R.len]
  sl := fun j => by
    rw [gt_wp, wipe_get]
    by_cases hj : j ∈ vs
    · rw [if_pos hj]
      trivial
    · rw [if_neg hj, if_neg hj]
      have q := R.sl j
      have go : ∀ a o, H a = some o → ¬ Om A e σ a → upd H Dp (.lst xs) a = some o ∧ ¬ Om ⟨A.B, Bl A e σ vs Dp⟩ (wp e vs) (wipe σ vs) a := fun a o q n => ⟨by rw [upd_ne (ne_of_none q hD)]; exact q, fun z => (bl_om.mp z).elim n fun z => by
        rw [z, hD] at q
        cases q⟩
      cases h : gt e j with
      | un => trivial
      | dat d =>
        rw [h] at q
        obtain ⟨v, e1, a⟩ := q
        exact ⟨v, e1, a.go go⟩
      | own ds =>
        rw [h] at q
        obtain ⟨p, ys, e1, k, a⟩ := q
        exact ⟨p, ys, e1, by rw [upd_ne (ne_of_none k hD)]; exact k, a.go go⟩
      | xc y =>
        rw [h] at q
        exact ⟨q.1, q.2.go fun p fs k => by rw [upd_ne (ne_of_none k hD)]; exact k⟩
      | gh y =>
        rw [h] at q
        exact q
      | owd tt ks us =>
        rw [h] at q
        obtain ⟨p, ys, e1, k, a⟩ := q
        exact ⟨p, ys, e1, k.go fun o e => by rw [upd_ne (ne_of_none e hD)]; exact e, a.go go⟩
  inj := fun i j p h1 h2 h3 h4 => by
    rw [gt_wp] at h1 h2
    rw [wipe_get] at h3 h4
    by_cases hi : i ∈ vs
    · rw [if_pos hi] at h1
      cases h1
    · by_cases hj : j ∈ vs
      · rw [if_pos hj] at h2
        cases h2
      · rw [if_neg hi] at h1 h3
        rw [if_neg hj] at h2 h4
        exact R.inj i j p h1 h2 h3 h4
  nx := fun a z q => by
    rcases q with q | q
    · exact q.2 z
    · exact ((own_wp z).stk R).1.1 (by rw [q]; exact hD)
  gh := Gho.new R.gh hD
  fx := fun a z => .inl ⟨.inl (R.fx a z), fun q => R.nx a (own_wp q) (R.fx a z)⟩
  xs := fun a z => by
    rcases z with z | z
    · have := R.oms z.1
      by_cases q : a = Dp
      · rw [q]
        exact .lst upd_same
      · rw [upd_ne q]
        exact this
    · rw [z]
      exact .lst upd_same
theorem pts_yes {X : Cx} : PTs X [] (RT B W0 mYes) := ⟨fun pins s σ H Q I ⟨S, e, g, R, h⟩ => pts_nil.run pins s σ H Q I (h true H (.refl H) R.gh rfl)⟩
theorem lc_go {mi : MI γ} {g : TG} {tgm : MG} {is vs : List Nat} {mt : MT γ} {me : ME γ} (ts : TgS B g tgm is) (hsub : ∀ i ∈ is, i ∈ vs) {σ : L2.St} {H : Hp} {Q : VK} (h : RE B W (mLc mi tgm mt me vs) σ H Q) : tLc (RI B W mi) g (RT B W0 mt) (RE B W0 me) vs σ H Q := by
  obtain ⟨S, e, gm, R, h⟩ := h
  refine ⟨S, e, gm, R, RK.bind (.refl H) h fun ds g1 J H1 _ x1 i1 it h1 => fun Dp hD => ?_⟩
  have R1 := R.exe x1 i1
  refine ⟨fun i m H2 => ∃ gi acc av, Rep ⟨B, Bl ⟨B, S⟩ e σ vs Dp⟩ (wp e vs) gi (wipe σ vs) H2 ∧ (∀ b o, H1 b = some o → ¬ (B.fam B.i).F b → H2 b = some o) ∧ H2 Dp = some (.lst av) ∧ AtL B.K (fun a => Om ⟨B, S⟩ e σ a ∨ a = Dp) H2 av acc ∧ m = ds.length - i ∧ i ≤ ds.length ∧
      RK VOk ⟨B, S⟩ W e σ H (lcL tgm mt me (wp e vs) (ds.drop i) acc gi) Q, ⟨ds.length, g1, [], [], R1.blk vs hD [], fun b o q _ => by rw [upd_ne (ne_of_none q hD)]; exact q, upd_same, .nil, by simp, Nat.zero_le _, h1⟩, ?_⟩
  rintro i m H2 ⟨gi, acc, av, Ri, kp, hD2, aacc, rfl, hi, hr⟩
  have nF : ∀ a, (B.fam B.i).F a → H1 a ≠ none := fun a z => (B.fam B.i).trk _ _ _ i1 z
  have DF : ¬ (B.fam B.i).F Dp := fun z => nF Dp z hD
  obtain ⟨stop, go⟩ := it H2 fun b o q n => kp b o q fun z => n (.inl z)
  by_cases hlt : i < ds.length
  · obtain ⟨d, hd⟩ : ∃ d, ds[i]? = some d := ⟨ds[i], by simp [hlt]⟩
    obtain ⟨gJ, gy⟩ := go i d hd
    rw [drop_at hd] at hr
    unfold lcL at hr
    refine .inr ⟨gJ, fun H' => ∃ m', m' < ds.length - i ∧ ∃ gi acc av, Rep ⟨B, Bl ⟨B, S⟩ e σ vs Dp⟩ (wp e vs) gi (wipe σ vs) H' ∧ (∀ b o, H1 b = some o → ¬ (B.fam B.i).F b → H' b = some o) ∧ H' Dp = some (.lst av) ∧ AtL B.K (fun a => Om ⟨B, S⟩ e σ a ∨ a = Dp) H' av acc ∧ m' = ds.length - (i + 1) ∧ i + 1 ≤ ds.length ∧
      RK VOk ⟨B, S⟩ W e σ H (lcL tgm mt me (wp e vs) (ds.drop (i + 1)) acc gi) Q, fun H' q => q, fun x Hy hy => ?_⟩
    obtain ⟨nw, at1⟩ := gy x Hy hy
    have a1 := at1 (Om ⟨B, Bl ⟨B, S⟩ e σ vs Dp⟩ (wp e vs) (wipe σ vs)) (fun a z => (bl_om.mp z).elim .inl fun z => .inr (by rw [z]; exact hD)) (fun a z => Ri.omt z)
    have Ry := Ri.exe nw.exe (nw.gh Ri.gh)
    cases kt : tgm d (wp e vs) with
    | none =>
      rw [kt] at hr
      exact hr.elim
    | some e2 =>
      rw [kt] at hr
      refine ts _ (wp e vs) gi (wipe σ vs) Hy x d e2 _ Ry a1 kt fun σ2 R2 s2 wl kj => ?_
      refine ⟨wipe_eq (by rw [wl, wipe_length]) hsub fun j hj => (kj j hj).2, ?_⟩
      -- what a name holds around the comprehension is held in the turn
      have own2 : ∀ a, OwnA (wp e vs) (wipe σ vs) a → OwnA e2 σ2 a := fun a ⟨j, k1, k2⟩ => by
        have hj : j ∉ is := fun z => by
          rw [gt_wp, if_pos (hsub j z)] at k1
          cases k1
        obtain ⟨q1, q2⟩ := kj j hj
        exact ⟨j, by rw [q1]; exact k1, by rw [q2]; exact k2⟩
      have om2 : ∀ a, (Om ⟨B, S⟩ e σ a ∨ a = Dp) → Om ⟨B, Bl ⟨B, S⟩ e σ vs Dp⟩ e2 σ2 a := fun a z => by
        rcases bl_om.mpr z with q | q
        · exact .inl q
        · exact .inr (own2 a q)
      have nxD : ∀ b, (B.fam B.i).F b → Bl ⟨B, S⟩ e σ vs Dp b := fun b z => R2.fx b z
      refine ⟨_, e2, gi, R2, ?_⟩
      have hr2 : RK VOk ⟨B, S⟩ W e σ H (match mt e2 gi with
        | .ok true g1 => match me e2 g1 with
          | .ok r g2 => match r.sto with
            | some y => if acc.length < SZ then lcL tgm mt me (wp e vs) (ds.drop (i + 1)) (acc ++ [y]) g2 else .no
            | none => .no
          | _ => .no
        | .ok false g1 => lcL tgm mt me (wp e vs) (ds.drop (i + 1)) acc g1
        | _ => .no) Q := hr
      cases km : mt e2 gi with
      | no =>
        rw [km] at hr2
        exact hr2.elim
      | ex y g3 =>
        rw [km] at hr2
        exact hr2.elim
      | ok b g3 =>
        rw [km] at hr2
        intro b' H3 x3 i3 eb
        cases eb
        have R3 := R2.exe x3 i3
        have kp3 : ∀ b o, H1 b = some o → ¬ (B.fam B.i).F b → H3 b = some o := fun b o q n => x3 b o (nw.exe (A := ⟨B, S⟩) b o (kp b o q n) n) n
        have hDy : Hy Dp = some (.lst av) := nw.exe (A := ⟨B, S⟩) Dp _ hD2 DF
        have hD3 : H3 Dp = some (.lst av) := x3 Dp _ hDy DF
        have goD : ∀ {Ha Hb : Hp}, (∀ b o, Ha b = some o → ¬ (B.fam B.i).F b → Hb b = some o) → ∀ a o, Ha a = some o → ¬ (Om ⟨B, S⟩ e σ a ∨ a = Dp) → Hb a = some o ∧ ¬ (Om ⟨B, S⟩ e σ a ∨ a = Dp) := fun {Ha Hb} k a o q n => ⟨k a o q fun z => n (.inl (.inl (R.fx a z))), n⟩
        have acc3 : AtL B.K (fun a => Om ⟨B, S⟩ e σ a ∨ a = Dp) H3 av acc := (aacc.go (goD (nw.exe (A := ⟨B, S⟩)))).go (goD x3)
        cases b with
        | false =>
          rw [if_neg Bool.false_ne_true]
          exact ⟨ds.length - (i + 1), by omega, g3, acc, av, (Ry.exe x3 i3), kp3, hD3, acc3, rfl, hlt, hr2⟩
        | true =>
          rw [if_pos rfl]
          refine ⟨_, e2, g3, R3, ?_⟩
          have hr3 : RK VOk ⟨B, S⟩ W e σ H (match me e2 g3 with
            | .ok r g2 => match r.sto with
              | some y => if acc.length < SZ then lcL tgm mt me (wp e vs) (ds.drop (i + 1)) (acc ++ [y]) g2 else .no
              | none => .no
            | _ => .no) Q := hr2
          cases ke : me e2 g3 with
          | no =>
            rw [ke] at hr3
            exact hr3.elim
          | ex y g4 =>
            rw [ke] at hr3
            exact hr3.elim
          | ok r g4 =>
            rw [ke] at hr3
            intro yv H4 x4 i4 oy
            have hr4 : RK VOk ⟨B, S⟩ W e σ H (match r.sto with
              | some y => if acc.length < SZ then lcL tgm mt me (wp e vs) (ds.drop (i + 1)) (acc ++ [y]) g4 else .no
              | none => .no) Q := hr3
            cases ks : r.sto with
            | none =>
              rw [ks] at hr4
              exact hr4.elim
            | some y =>
              rw [ks] at hr4
              have hr5 : RK VOk ⟨B, S⟩ W e σ H (if acc.length < SZ then lcL tgm mt me (wp e vs) (ds.drop (i + 1)) (acc ++ [y]) g4 else .no) Q := hr4
              by_cases hz : acc.length < SZ
              · rw [if_pos hz] at hr5
                have ay : At B.K (fun a => Om ⟨B, S⟩ e σ a ∨ a = Dp) H4 yv y := (oy.sto R3 ks).less om2
                have hD4 : H4 Dp = some (.lst av) := x4 Dp _ hD3 DF
                have acc4 : AtL B.K (fun a => Om ⟨B, S⟩ e σ a ∨ a = Dp) H4 av acc := acc3.go (goD x4)
                refine ⟨av, hD4, by rw [acc4.length]; exact szlt hz, ds.length - (i + 1), by omega, g4, acc ++ [y], av ++ [yv], ?_, fun b o q n => ?_, upd_same, ?_, rfl, hlt, hr5⟩
                · have R4 := (Ry.exe x3 i3).exe x4 i4
                  refine R4.exX (fun b o q n => ?_) (fun a z => ?_) ((B.fam B.i).stab _ _ _ i4 (fun a z => ?_) (fun a xs q => by rw [upd_ne (fun z => by rw [z, hD4] at q; cases q)]; exact q))
                  · have : b ≠ Dp := fun z => n (.inr z)
                    rw [upd_ne this]
                    exact q
                  · by_cases q : a = Dp
                    · rw [q]
                      exact .lst upd_same
                    · rw [upd_ne q]
                      exact R4.xs a z
                  · have : a ≠ Dp := fun q => DF (by rw [← q]; exact z)
                    rw [upd_ne this]
                · have : b ≠ Dp := ne_of_none q hD
                  rw [upd_ne this]
                  exact x4 b o (kp3 b o q n) n
                · have go : ∀ a o, H4 a = some o → ¬ (Om ⟨B, S⟩ e σ a ∨ a = Dp) → upd H4 Dp (.lst (av ++ [yv])) a = some o ∧ ¬ (Om ⟨B, S⟩ e σ a ∨ a = Dp) := fun a o q n => ⟨by rw [upd_ne (fun z => n (.inr z))]; exact q, n⟩
                  exact (acc4.go go).app (.cons (ay.go go) .nil)
              · rw [if_neg hz] at hr5
                exact hr5.elim
  · have e2 : i = ds.length := by omega
    subst e2
    rw [List.drop_length] at hr
    refine .inl ⟨stop _ (Nat.le_refl _), hr (.ref Dp) H2 (fun b o q n => kp b o (x1 b o q n) n) Ri.gh ⟨Dp, av, rfl, x1.back hD i1, hD2, aacc⟩⟩
theorem pb_lc {elt iter : Expr} {ifs : List Expr} {scope : Scope} {own : List (Str × Nat)} {mi : MI γ} {g : TG} {tgm : MG} {is : List Nat} {mt : MT γ} {me : ME γ} (hc : X.calm = true) (hN : X.N.Nodup) (hi : PI X tg iter (RI B W mi)) (ok : BlkOk X.N X.env.scope scope own)
    (hg : ∀ (s : Shared) (H : Hp) (C : Addr) (cl : List (Str × Addr)) (fp : List Addr), PG (X.blk s H scope (compEnvC scope cl C X.env) fp) tg g) (ts : TgS B g tgm is) (hsub : ∀ i ∈ is, i ∈ own.map (·.2)) (ht : ∀ (s : Shared) (H : Hp) (C : Addr) (cl : List (Str × Addr)) (fp : List Addr), PTs (X.blk s H scope (compEnvC scope cl C X.env) fp) ifs (RT B W0 mt))
    (he : ∀ (s : Shared) (H : Hp) (C : Addr) (cl : List (Str × Addr)) (fp : List Addr), PE (X.blk s H scope (compEnvC scope cl C X.env) fp) elt (RE B W0 me)) (hs : ∀ x, foldedSetIterable iter X.env x = pure x := by intro _; rfl) :
    PE X (.ListComp elt [⟨tg, iter, ifs, 0⟩] scope pos) (RE B W (mLc mi tgm mt me (own.map (·.2)))) := pe_w (pe_lc hc hN hi ok hg ht he hs) fun _ _ _ => lc_go ts hsub
theorem pb_setLc {i : Nat} {y : Str} {py spos : Pos} {elt iter : Expr} {ifs : List Expr} {scope : Scope} {own : List (Str × Nat)} {mi : MI γ} {g : TG} {tgm : MG} {is : List Nat} {mt : MT γ} {me : ME γ} (hc : X.calm = true) (hN : X.N.Nodup) (hy : X.N[i]? = some y) (hyl : X.env.scope.names.lookup y = some .local)
    (hsw : swapsWith (.ListComp elt [⟨tg, iter, ifs, 0⟩] scope pos) (some (.Name y py)) spos.line X.env = pure true) (hi : PI X tg iter (RI B W mi)) (ok : BlkOk X.N X.env.scope scope own)
    (hg : ∀ (s : Shared) (H : Hp) (C : Addr) (cl : List (Str × Addr)) (fp : List Addr), PG (X.blk s H scope (compEnvC scope cl C X.env) fp) tg g) (ts : TgS B g tgm is) (hsub : ∀ i ∈ is, i ∈ own.map (·.2)) (ht : ∀ (s : Shared) (H : Hp) (C : Addr) (cl : List (Str × Addr)) (fp : List Addr), PTs (X.blk s H scope (compEnvC scope cl C X.env) fp) ifs (RT B W0 mt))
    (he : ∀ (s : Shared) (H : Hp) (C : Addr) (cl : List (Str × Addr)) (fp : List Addr), PE (X.blk s H scope (compEnvC scope cl C X.env) fp) elt (RE B W0 me)) (hs : ∀ x, foldedSetIterable iter X.env x = pure x := by intro _; rfl) :
    PS X (.Assign [.Name y py] (.ListComp elt [⟨tg, iter, ifs, 0⟩] scope pos) spos) (RS B W (mSet i (mLc mi tgm mt me (own.map (·.2))))) := by
  refine ps_w (ps_setLc hc hN hy hyl hsw hi ok hg ht he hs) fun Dd σ H ⟨S, e, g, R, h⟩ => ?_
  have q : RE B W (mLc mi tgm mt me (own.map (·.2))) σ H fun v H1 => Dd.nx (σ.set i (some v)) H1 := by
    refine ⟨S, e, g, R, RSK.bind R h fun r g1 v H1 x1 i1 o1 h1 => ?_⟩
    have R1 := R.exe x1 i1
    cases r with
    | dat d =>
      have o1' : At B.K (Om ⟨B, S⟩ e σ) H1 v d := o1
      exact h1 _ _ (R1.set o1' i) (.trans R1 (.exe R x1) (.set R1 i))
    | own ds =>
      obtain ⟨R2, ow⟩ := Rep.setO R x1 R1 o1 i
      exact h1 _ _ R2 ⟨fun b o q n => x1 b o q fun z => n (.inl z), ow⟩
    | bor ds => exact h1.elim
  exact lc_go ts hsub q
end
end PB
set_option Elab.async false
set_option linter.all false
set_option maxRecDepth 100000
set_option maxHeartbeats 4000000
namespace PB
open PySem PySem.Spec PyProof.Rows L2
variable [Kts]
section
variable {γ ι : Type} {B : Bs γ ι} {W : WX} {X : Cx} {pos : Pos} {a b c e : Expr} {es : List Expr} {ma mb mc : ME γ} {mr : MA γ} {tg : Expr}
theorem os_is2 : OpS2 B oIs2 rIsB := by
  intro S e g g1 σ H0 H x y z vx vy Q R x0 i1 ox oy hz hq
  unfold oIs2 at hz
  split at hz
  · cases hz
    cases ox
    cases oy
    exact ⟨_, _, rfl, rfl, hq _ H (.inl rfl) (.bl _)⟩
  · cases hz
/-- isinstance of a built-in class -/
def Ty.nm : Ty → String
  | .int => "int" | .bool => "bool" | .str => "str" | .tuple => "tuple" | .list => "list"
theorem kit_tab (K : Frag) (t n : String) (b : Bool) (h : (t = "NoneType" ∨ t = "int" ∨ t = "bool" ∨ t = "str" ∨ t = "tuple" ∨ t = "list") ∧ (n = "int" ∨ n = "bool" ∨ n = "str" ∨ n = "tuple" ∨ n = "list")) (hb : b = (t == n || (t == "bool" && n == "int"))) : PySem.W.kitOne K (.type t) (.type n) = some b := by
  subst hb
  obtain ⟨h1, h2⟩ := h
  rcases h1 with rfl | rfl | rfl | rfl | rfl | rfl <;> rcases h2 with rfl | rfl | rfl | rfl | rfl <;> exact kit_ty (by decide +kernel)
theorem ty_of {K : Frag} {O : Addr → Prop} {H : Hp} {v : V} {d : D} (h : At K O H v d) (hd : ∀ n, d ≠ .ref n) (hd2 : ∀ t ks vs, d ≠ .dct t ks vs) (T : Ty) : ∃ t, TyX K H v t ∧ PySem.W.kitOne K t (.type T.nm) = some (isTy T d) := by
  cases h with
  | non => exact ⟨_, .base .non, by cases T <;> exact kit_tab K "NoneType" _ _ (by simp [Ty.nm]) (by simp [Ty.nm])⟩
  | bl b => exact ⟨_, .base (.bl b), by cases T <;> exact kit_tab K "bool" _ _ (by simp [Ty.nm]) (by simp [Ty.nm])⟩
  | int i => exact ⟨_, .base (.int i), by cases T <;> exact kit_tab K "int" _ _ (by simp [Ty.nm]) (by simp [Ty.nm])⟩
  | str l h1 h2 => exact ⟨_, .base (.str _), by cases T <;> exact kit_tab K "str" _ _ (by simp [Ty.nm]) (by simp [Ty.nm])⟩
  | @tup a xs ds h1 h2 =>
    refine ⟨.type "tuple", ?_, by cases T <;> exact kit_tab K "tuple" _ _ (by simp [Ty.nm]) (by simp [Ty.nm])⟩
    rcases h1 with ⟨k, _⟩ | ⟨_, o, its, n, k, hc, _⟩
    · exact .base (.tup k)
    · exact .kTuple k hc
  | @lst a xs ds h1 h2 h3 => exact ⟨_, .base (.lst h1), by cases T <;> exact kit_tab K "list" _ _ (by simp [Ty.nm]) (by simp [Ty.nm])⟩
  | ref a => exact absurd rfl (hd a)
  | dct _ _ _ => exact absurd rfl (hd2 _ _ _)
/-- isinstance(x, T): the class is no datum -/
theorem pb_isi {p p2 : Pos} {T : Str} (t : Ty) (hK : B.K = X.K) (hg : Gl X "isinstance") (hm : X.mg "isinstance" = none) (hgT : Gl X T) (hmT : X.mg T = none) (hvT : bootBuiltins T = some (.type t.nm)) (ha : PE X a (RE B W ma))
    (hnT : T ≠ "__name__" := by decide) (hdT : (T == ("__debug__" : Str)) = false := by decide)
    (hs : starEach [a, .Name T p2] X.env = (false, eval a X.env) :: starEach [.Name T p2] X.env := by rfl) (hs2 : starEach [.Name T p2] X.env = (false, eval (.Name T p2) X.env) :: starEach [] X.env := by rfl) (hpl : (backTo pos (starEach [.Name T p2] X.env)).any (·.1) = false := by rfl) :
    PE X (.Call (.Name "isinstance" p) [a, .Name T p2] [] pos) (RE B W (mOp1 (oIs t) ma)) := by
  refine pe_w (pe_callB call_isi hg hm (by decide +kernel) (pa_cons ha (pa_cons (pe_bltn (v := .ty t.nm) hgT hmT hvT rfl hnT hdT) pa_nil hs2) hs) (by decide) (by decide) hs hpl) fun σ H Q ⟨S, e, g, R, h⟩ => ?_
  refine ⟨S, e, g, R, RK.bind (.refl H) h fun x g1 vx H1 _ x1 i1 o1 h1 => ?_⟩
  obtain ⟨z, ez, q⟩ := h1.ofO
  have w := o1.weak R
  unfold oIs at ez
  split at ez
  · cases ez
  · cases ez
  · rename_i hn hn2
    cases ez
    obtain ⟨ty, h2, h3⟩ := ty_of w (by
      cases x with
      | dat d => exact fun n z => hn n (by rw [show d = .ref n from z])
      | own ds => exact fun n z => by cases z
      | bor ds => exact fun n z => by cases z) (by
      cases x with
      | dat d => exact fun t ks vs z => hn2 t ks vs (by rw [show d = .dct t ks vs from z])
      | own ds => exact fun t ks vs z => by cases z
      | bor ds => exact fun t ks vs z => by cases z) t
    rw [← hK]
    exact ⟨vx, .ty t.nm, ty, .type t.nm, _, rfl, .ty _, h2, h3, q _ H1 x1 i1 (.bl _)⟩
theorem po_part {o : Option Expr} {m : Option (ME γ)} (h : match o, m with
    | none, none => True
    | some e, some m => PE X e (RE B W m)
    | _, _ => False) : PO X o (fun σ H Q => ∃ (S : Addr → Prop) (e : Env) (g : γ), Rep ⟨B, S⟩ e g σ H ∧ RK (fun _ _ _ _ _ a b => a = b) ⟨B, S⟩ W e σ H (mPart m e g) Q) := by
  cases o with
  | none =>
    cases m with
    | none => exact po_w po_none fun σ H Q ⟨S, e, g, R, h⟩ => h none H (.refl H) R.gh rfl
    | some m => exact h.elim
  | some a =>
    cases m with
    | none => exact h.elim
    | some m =>
      refine po_w (po_some h) fun σ H Q ⟨S, e, g, R, h⟩ => ?_
      refine ⟨S, e, g, R, RK.bind (.refl H) h fun x g1 vx H1 _ x1 i1 o1 h1 => ?_⟩
      split at h1
      · cases o1
        exact ⟨_, rfl, h1 _ H1 x1 i1 rfl⟩
      · exact h1.elim
theorem cut_len {α : Type} (xs : List α) (lo hi : Option Int) : (PB.cut xs lo hi).length ≤ xs.length := by
  unfold PB.cut
  rw [List.length_take, List.length_drop]
  omega
theorem pb_slice {lo hi : Option Expr} {ml mh : Option (ME γ)} {p2 : Pos} (hK : B.K = X.K) (ha : PE X a (RE B W ma)) (hl : match lo, ml with
    | none, none => True
    | some e, some m => PE X e (RE B W m)
    | _, _ => False) (hh : match hi, mh with
    | none, none => True
    | some e, some m => PE X e (RE B W m)
    | _, _ => False) : PE X (.Subscript a (.Slice lo hi none p2) pos) (RE B W (mCut ma ml mh)) := by
  refine pe_w (pe_slice (SlR.or sl_list (SlR.or sl_tupA sl_str)) ha (po_part hl) (po_part hh)) fun σ H Q ⟨S, e, g, R, h⟩ => ?_
  refine ⟨S, e, g, R, RK.bind (.refl H) h fun x g1 vx H1 _ x1 i1 o1 h1 => ?_⟩
  refine ⟨S, e, g1, R.exe x1 i1, RK.bind x1 h1 fun l g2 l' H2 x12 x2 i2 o2 h2 => ?_⟩
  cases o2
  refine ⟨S, e, g2, R.exe x2 i2, RK.bind x2 h2 fun u g3 u' H3 x23 x3 i3 o3 h3 => ?_⟩
  cases o3
  obtain ⟨z, ez, q⟩ := h3.ofO
  have o1' := (o1.step R x12).step R x23
  rw [← hK]
  unfold oCut at ez
  split at ez
  · rename_i ds
    cases ez
    cases o1' with
    | @tup p xs _ k al =>
    refine .inr (.inl ⟨p, xs, rfl, tup_seq k, fun hw => ?_, fun hw r hr => ?_⟩)
    · have : PB.cut ds l u = ds := by
        have hw' : PB.sIx ds.length 0 l = 0 ∧ PB.sIx ds.length ds.length u = ds.length := by
          rw [← al.length]
          exact hw
        unfold PB.cut
        rw [hw'.1, hw'.2]
        simp
      rw [this] at q
      exact q _ H3 x3 i3 (.tup k al)
    · have q2 := At.mkT (A := ⟨B, S⟩) R x3 i3 (al.cut l u) hr
      exact q _ _ (x3.trans (.new hr)) (Gho.new i3 hr) q2
  · rename_i s
    cases ez
    cases o1' with
    | str _ k1 k2 =>
    refine .inr (.inr ⟨mkS s, rfl, by rw [mkS_len]; exact szle k1, ?_⟩)
    have : cutS (mkS s) l u = mkS (PB.cut s l u) := by
      unfold cutS
      rw [mkS_len, mkS_list]
      rfl
    rw [this]
    exact q _ H3 x3 i3 (.str _ (Nat.le_trans (cut_len s l u) k1) (all_cut k2 l u))
  · split at ez
    · rename_i ds kd
      cases ez
      obtain ⟨p, xs, rfl, hp, al⟩ := o1'.items R kd
      exact .inl ⟨p, xs, rfl, SqL.of hp, fun r hr => q _ _ (x3.trans (.new hr)) (Gho.new i3 hr) (VOk.mk x3 i3 (al.cut l u) hr)⟩
    · cases ez
theorem pb_tgt {tgm : MG} {is : List Nat} {g : TG} {tge : Expr} (ha : PE X a (RE B W ma)) (hg : PG X tge g) (ts : TgS B g tgm is) (hs : swapsWithSole [tge] a pos.line X.env = pure false := by rfl) (hw : swappedStores [tge] a X.env = pure none := by rfl)
    (h1 : (assignEach [tge] X.env).map (·.2) = [assign tge X.env] := by rfl) : PS X (.Assign [tge] a pos) (RS B W (mTgt tgm ma)) := by
  refine ps_w (ps_asg ha hg hs hw h1) fun Dd σ H ⟨S, e, g, R, h⟩ => ?_
  refine ⟨S, e, g, R, RSK.bind R h fun r g1 v H1 x1 i1 o1 h1 => ?_⟩
  have R1 := R.exe x1 i1
  split at h1
  · rename_i d
    split at h1
    · rename_i e1 kt
      exact ts S e g1 σ H1 v d e1 _ R1 o1 kt fun σ' R' s' _ _ => h1 σ' H1 R' (.trans R1 (.exe R x1) s')
    · exact h1.elim
  · exact h1.elim
/-- x op= e: numbers, texts -/
theorem pb_aug {i : Nat} {x : Str} {op : Operator} {f : Op2} {r : R2} {pos' : Pos} (ho : OpR X (inplaceOp op) r) (hf2 : OpS2 B f r) (hN : X.N.Nodup) (hi : X.N[i]? = some x) (hx : Loc X.env.scope x) (ha : PE X a (RE B W ma)) (hf : X.fn x = true ∨ X.env.scope.names.lookup x = some .local := by first | exact .inl rfl | exact .inr rfl | assumption) :
    PS X (.AugAssign (.Name x pos') op a pos) (RS B W (mAug i f ma)) := by
  have hp : PIp X op r := fun pins s σ H x y v u Q I rx ry q => ho pins s σ H x y v u Q I rx ry q
  refine ps_w (ps_aug hN hi hx ha hp hf) fun Dd σ H ⟨S, e, g, R, h⟩ => ?_
  unfold mAug at h
  have sl := R.sl i
  cases k : gt e i with
  | un =>
    rw [k] at h
    exact h.elim
  | xc y =>
    rw [k] at h
    exact h.elim
  | gh y =>
    rw [k] at h
    exact h.elim
  | owd tt ks vs =>
    rw [k] at h
    exact h.elim
  | own ds =>
    rw [k] at h
    exact h.elim
  | dat d =>
    rw [k] at h sl
    obtain ⟨v, ev, av⟩ := sl
    refine ⟨v, ev, S, e, g, R, RSK.bind R h fun y g1 vy H1 x1 i1 o1 h1 => ?_⟩
    have R1 := R.exe x1 i1
    split at h1
    · rename_i r kf
      refine hf2 S e g g1 σ H H1 (.dat d) y r v vy _ R x1 i1 (R.at x1 av) o1 kf fun w H2 n o => ?_
      have xt := x1.trans (n.exe (A := ⟨B, S⟩))
      have R2 := R.exe xt (n.gh i1)
      cases r with
      | dat d' =>
        have o' : At B.K (Om ⟨B, S⟩ e σ) H2 w d' := o
        exact h1 _ _ (R2.set o' i) (.trans R2 (.exe R xt) (.set R2 i))
      | own ds =>
        obtain ⟨R3, ow⟩ := Rep.setO R xt R2 o i
        exact h1 _ _ R3 ⟨fun b o q n => xt b o q fun z => n (.inl z), ow⟩
      | bor ds => exact h1.elim
    · exact h1.elim
/-- what a name holds is changed -/
theorem Rep.upd_any {A : Act γ ι} {e : Env} {g : γ} {σ : L2.St} {H : Hp} (R : Rep A e g σ H) {i : Nat} {s' : Sl} {p : Addr} {u : HO} (hi : (gt e i).hs = true) (hs : s'.hs = true) (hp : σ[i]? = some (some (.ref p))) (hc : Cont u)
    (sok : ∀ O : Addr → Prop, (∀ a o, H a = some o → ¬ Om A e σ a → upd H p u a = some o ∧ ¬ O a) → SlOk A.B O (upd H p u) s' (some (some (.ref p)))) :
    Rep A (st e i s') g σ (upd H p u) ∧ Stp A e σ H (st e i s') σ (upd H p u) := by
  have op : OwnA e σ p := ⟨i, hi, hp⟩
  have hil : i < e.length := by
    by_cases hlt : i < e.length
    · exact hlt
    · rw [gt_out (by omega)] at hi
      cases hi
  have own : ∀ b, OwnA (st e i s') σ b ↔ OwnA e σ b := fun b => by
    constructor
    · rintro ⟨j, h1, h2⟩
      rw [gt_st] at h1
      by_cases c : j = i ∧ i < e.length
      · rw [c.1] at h2
        exact ⟨i, hi, h2⟩
      · rw [if_neg c] at h1
        exact ⟨j, h1, h2⟩
    · rintro ⟨j, h1, h2⟩
      by_cases c : j = i
      · exact ⟨i, by rw [gt_st, if_pos ⟨rfl, hil⟩]; exact hs, by rw [← c]; exact h2⟩
      · exact ⟨j, by rw [gt_st, if_neg (fun z => c z.1)]; exact h1, h2⟩
  have go : ∀ a o, H a = some o → ¬ Om A e σ a → upd H p u a = some o ∧ ¬ Om A (st e i s') σ a := fun a o q n =>
    ⟨by rw [upd_ne (fun z => n (.inr (by rw [z]; exact op)))]; exact q, fun z => z.elim (fun z => n (.inl z)) fun z => n (.inr ((own a).mp z))⟩
  refine ⟨⟨by rw [len_st, R.len], fun j => ?_, fun j k2 q h1 h2 h3 h4 => ?_, fun a z => R.nx a ((own a).mp z), A.G.stab _ _ _ R.gh (fun a z => upd_ne fun q => R.notF op (by rw [← q]; exact z)) (fun a xs q => by rw [upd_ne (fun z => (op.stk R).notT xs (by rw [← z]; exact q))]; exact q), R.fx, fun a z => ?_⟩, ⟨fun b o q n => by rw [upd_ne (fun z => n (.inr (by rw [z]; exact op)))]; exact q, fun b z => .inl ((own b).mp z)⟩⟩
  · rw [gt_st]
    by_cases c : j = i ∧ i < e.length
    · rw [if_pos c, c.1, hp]
      exact sok _ go
    · rw [if_neg c]
      have q := R.sl j
      cases h : gt e j with
      | un => trivial
      | dat d2 =>
        rw [h] at q
        obtain ⟨w, e1, a1⟩ := q
        exact ⟨w, e1, a1.go go⟩
      | own fs =>
        rw [h] at q
        obtain ⟨q2, zs, e1, k1, a1⟩ := q
        have : q2 ≠ p := fun z => c ⟨R.inj j i p (by rw [h]; rfl) hi (by rw [← z]; exact e1) hp, hil⟩
        exact ⟨q2, zs, e1, by rw [upd_ne this]; exact k1, a1.go go⟩
      | xc y =>
        rw [h] at q
        refine ⟨q.1, q.2.go fun b fs k => ?_⟩
        have : b ≠ p := fun z => R.nxd k (.inr (by rw [z]; exact op))
        rw [upd_ne this]
        exact k
      | gh y =>
        rw [h] at q
        exact q
      | owd tt ks vs =>
        rw [h] at q
        obtain ⟨q2, us, e1, k1, a1⟩ := q
        have : q2 ≠ p := fun z => c ⟨R.inj j i p (by rw [h]; rfl) hi (by rw [← z]; exact e1) hp, hil⟩
        exact ⟨q2, us, e1, k1.go fun o e => by rw [upd_ne this]; exact e, a1.go go⟩
  · rw [gt_st] at h1 h2
    have f1 : (gt e j).hs = true := by
      by_cases c : j = i ∧ i < e.length
      · rw [c.1]
        exact hi
      · rw [if_neg c] at h1
        exact h1
    have f2 : (gt e k2).hs = true := by
      by_cases c : k2 = i ∧ i < e.length
      · rw [c.1]
        exact hi
      · rw [if_neg c] at h2
        exact h2
    exact R.inj j k2 q f1 f2 h3 h4
  · by_cases q : a = p
    · rw [q]
      exact .of upd_same hc
    · rw [upd_ne q]
      exact R.xs a z
/-- a list that a name holds is changed -/
theorem Rep.upd_own {A : Act γ ι} {e : Env} {g : γ} {σ : L2.St} {H : Hp} (R : Rep A e g σ H) {i : Nat} {ds es : List D} {p : Addr} {ys : List V} (hi : gt e i = .own ds) (hp : σ[i]? = some (some (.ref p))) (al : AtL A.K (Om A e σ) H ys es) :
    Rep A (st e i (.own es)) g σ (upd H p (.lst ys)) ∧ Stp A e σ H (st e i (.own es)) σ (upd H p (.lst ys)) :=
  R.upd_any (by rw [hi]; rfl) rfl hp trivial fun O go => ⟨p, ys, rfl, upd_same, al.go go⟩
theorem pb_app {i : Nat} {x : Str} {px apos : Pos} (hK : B.K = X.K) (hN : X.N[i]? = some x) (ha : PE X a (RE B W ma)) (hv : Vis X.env.scope x := by first | exact Or.inl rfl | exact Or.inr (Or.inl rfl)) (hd : (x == ("__debug__" : Str)) = false := by decide) (hcd : (x == ("__classdict__" : Str)) = false := by decide)
    (hbase : attributeBase (.Name x px) "append" X.env (eval (.Name x px) X.env) = eval (.Name x px) X.env := by rfl)
    (hfew : ((backTo pos (starEach [a] X.env)).all (fun x => !x.1) && (backToKw pos (keywordEach [] X.env)).all (fun x => x.1.isSome)
      && decide ([a].length + ([] : List Keyword).length + (if ([] : List Keyword).isEmpty then 0 else 1) < 30)) = true := by rfl)
    (hline : (apos.endLine == pos.line) = true := by rfl) (hs : starEach [a] X.env = (false, eval a X.env) :: starEach [] X.env := by rfl) (hplain : (backTo pos (starEach [] X.env)).any (·.1) = false := by rfl) {epos : Pos}
    (hsw : swapsWith (.Call (.Attribute (.Name x px) "append" apos) [a] [] pos) none epos.line X.env = pure false := by rfl) :
    PS X (.Expr (.Call (.Attribute (.Name x px) "append" apos) [a] [] pos) epos) (RS B W (mApp i ma)) := by
  refine ps_w (ps_expr (pe_bm PySem.F.plainAttrs_list PySem.F.slot_list_append PySem.F.type_list_append mt_append (pe_var hN hv hd hcd) (pa_cons ha pa_nil hs) hbase hfew hline hs hplain) hsw) fun Dd σ H ⟨S, e, g, R, h⟩ => ?_
  unfold mApp at h
  have sl := R.sl i
  cases k : gt e i with
  | un =>
    rw [k] at h
    exact h.elim
  | dat d =>
    rw [k] at h
    exact h.elim
  | xc y =>
    rw [k] at h
    exact h.elim
  | gh y =>
    rw [k] at h
    exact h.elim
  | owd tt ks vs =>
    rw [k] at h
    exact h.elim
  | own ds =>
    rw [k] at h sl
    obtain ⟨p, xs, ev, hp, al⟩ := sl
    refine ⟨.ref p, ev, .inl ⟨rfl, xs, SqL.of hp⟩, S, e, g, R, RSK.bind R h fun y g1 vy H1 x1 i1 o1 h1 => ?_⟩
    have R1 := R.exe x1 i1
    split at h1
    · rename_i d ks
      split at h1
      · rename_i hz
        have op : OwnA e σ p := .of k rfl ev
        have hp1 : H1 p = some (.lst xs) := x1 p _ hp (R.notF op)
        have al1 := R.atL x1 al
        obtain ⟨R2, s2⟩ := R1.upd_own (es := ds ++ [d]) k ev (al1.app (.cons (o1.sto R ks) .nil))
        exact ⟨p, xs, vy, rfl, rfl, hp1, by rw [al1.length]; exact szlt hz, h1 _ _ R2 (.trans R1 (.exe R x1) s2)⟩
      · exact h1.elim
    · exact h1.elim
theorem pb_put {i : Nat} {x : Str} {px tp : Pos} {ke : Expr} {mk : ME γ} (hN : X.N[i]? = some x) (hk : PE X ke (RE B W mk)) (ha : PE X a (RE B W ma)) (hv : Vis X.env.scope x := by first | exact Or.inl rfl | exact Or.inr (Or.inl rfl)) (hd : (x == ("__debug__" : Str)) = false := by decide) (hcd : (x == ("__classdict__" : Str)) = false := by decide)
    (hasg : ∀ v, assign (.Subscript (.Name x px) ke tp) X.env v = (do
      let ov ← holding [v] (eval (.Name x px) X.env)
      let iv ← holding [v, ov] (eval ke X.env)
      standAt tp
      holding [v, ov, iv] (setItem ov iv v)
      release [v, ov, iv] []) := by intro _; rfl)
    (hs : swapsWithSole [.Subscript (.Name x px) ke tp] a pos.line X.env = pure false := by rfl) (hw : swappedStores [.Subscript (.Name x px) ke tp] a X.env = pure none := by rfl)
    (h1 : (assignEach [.Subscript (.Name x px) ke tp] X.env).map (·.2) = [assign (.Subscript (.Name x px) ke tp) X.env] := by rfl) :
    PS X (.Assign [.Subscript (.Name x px) ke tp] a pos) (RS B W (mPut i mk ma)) := by
  refine ps_w (ps_asg ha (pg_sub (pe_var hN hv hd hcd) hk set_list hasg) hs hw h1) fun Dd σ H ⟨S, e, g, R, h⟩ => ?_
  refine ⟨S, e, g, R, RSK.bind R h fun y g1 vy H1 x1 i1 o1 h1 => ?_⟩
  have R1 := R.exe x1 i1
  have sl := R1.sl i
  cases k : gt e i with
  | un =>
    rw [k] at h1
    exact h1.elim
  | dat d =>
    rw [k] at h1
    exact h1.elim
  | xc y =>
    rw [k] at h1
    exact h1.elim
  | gh y =>
    rw [k] at h1
    exact h1.elim
  | owd tt ks vs =>
    rw [k] at h1
    exact h1.elim
  | own ds =>
    rw [k] at h1 sl
    obtain ⟨p, xs, ev, hp, al⟩ := sl
    refine ⟨.ref p, ev, S, e, g1, R1, RSK.bind R1 (rs_lateE R x1 i1 h1) fun z g2 vz H2 x2 i2 o2 h2 => ?_⟩
    have R2 := R1.exe x2 i2
    split at h2
    · rename_i d n ks
      split at h2
      · rename_i j kj
        cases o2
        have op : OwnA e σ p := .of k rfl ev
        have hp2 : H2 p = some (.lst xs) := x2 p _ hp (R.notF op)
        have al2 := R1.atL x2 al
        have oy := R.at x2 (o1.sto R ks)
        obtain ⟨R3, s3⟩ := R2.upd_own (es := ds.set j d) k ev (al2.set j oy)
        exact ⟨p, xs, n, j, rfl, rfl, hp2, by rw [al2.length]; exact kj, h2 _ _ R3 (.trans R2 (.exe R1 x2) s3)⟩
      · exact h2.elim
    · exact h2.elim
theorem start_rep {A : Act γ ι} {N : List Str} {vs : List V} {ds : List D} {g : γ} {H : Hp} (fx : ∀ a, A.G.F a → A.X a) (xt : ∀ a, A.X a → Stk (H a)) (al : AtL A.K A.X H vs ds) (gh : A.G.I g H) (hn : vs.length ≤ N.length) :
    Rep A (ds.map Sl.dat ++ List.replicate (N.length - ds.length) .un) g (L2.start N vs) H := by
  have hl := al.length
  have gtm : ∀ (ds : List D) (m j : Nat), gt (ds.map Sl.dat ++ List.replicate m .un) j = match ds[j]? with
      | some d => .dat d
      | none => .un := by
    intro ds m
    induction ds with
    | nil =>
      intro j
      simp only [List.map_nil, List.nil_append, List.getElem?_nil]
      induction m generalizing j with
      | zero => rfl
      | succ m ih =>
        rw [List.replicate_succ]
        cases j with
        | zero => rfl
        | succ j => exact ih j
    | cons d ds ih =>
      intro j
      cases j with
      | zero => rfl
      | succ j => exact ih j
  have nown : ∀ σ a, ¬ OwnA (ds.map Sl.dat ++ List.replicate (N.length - ds.length) .un) σ a := fun σ a ⟨j, h1, _⟩ => by
    rw [gtm] at h1
    split at h1 <;> cases h1
  refine ⟨?_, fun j => ?_, fun i j p h1 _ _ _ => ?_, fun a z => absurd z (nown _ a), gh, fx, xt⟩
  · unfold L2.start
    simp only [List.length_append, List.length_map, List.length_replicate]
    omega
  · rw [gtm]
    cases k : ds[j]? with
    | none => trivial
    | some d =>
      obtain ⟨v, hv, av⟩ := al.get k
      refine ⟨v, ?_, av.less fun a z => z.elim id fun z => absurd z (nown _ a)⟩
      have hj : j < vs.length := (List.getElem?_eq_some_iff.mp hv).1
      unfold L2.start
      rw [List.getElem?_append_left (by simpa using hj), List.getElem?_map, hv]
      rfl
  · rw [gtm] at h1
    split at h1 <;> cases h1
section
variable {P : Program} {w : World} {K : Frag} {mg : Str → Option Value} {base : Heap} {Tx : XT} {xa : Addr × Value × Option Addr} {fam : ι → Gho γ}
/-- THE RULE for a def that no exception leaves -/
theorem fn_pb {x qual : Str} {st : Stmt} {f : Addr} {fd : FuncData} {N ps : List Str} {k : Nat} {m : MS γ} {dvs : List V} (F : FunD K x qual (defArgs st) (defBody st) (defScope st) dvs [] f fd) (Sc : FnScope N ps (defScope st)) (hn : ps.length ≤ N.length)
    (hb : ∀ (i : ι) (cdv : Value) (A : Around) (outer : List PySem.Env) (s : Shared) (H : Hp) (E : XK), Room k (A.deeper (envOfC qual (defScope st) s.heap.objs.size f cdv)) →
      PSs (cxOf CX0 P w K mg base N qual (defScope st) f cdv A outer s H E).nox (defBody st) (RS ⟨K, Tx, fam, i, xa⟩ W0 m)) :
    FnOk P w K mg base CX0 (k + 1) f fd ps (spOf K fam ps.length (mDef N.length ps.length m)) := by
  refine F.ok Sc (fun vs H Q E h => ?_) (fun cdv A outer s H vs Q E hr h => ?_)
  · obtain ⟨i, S, ds, g, hl, _⟩ := h
    exact hl
  · obtain ⟨i, S, ds, g, hl, fx, xt, al, gh, hq⟩ := h
    refine ⟨_, (hb i cdv A outer s H E hr).nox, S, _, g, start_rep (A := ⟨⟨K, Tx, fam, i, xa⟩, S⟩) (N := N) fx xt al gh (by omega), ?_⟩
    have nown : ∀ a, ¬ OwnA (ds.map Sl.dat ++ List.replicate (N.length - ds.length) .un) (L2.start N vs) a := fun a ⟨j, h1, h2⟩ => by
      have gtm : ∀ (ds : List D) (m j : Nat), gt (ds.map Sl.dat ++ List.replicate m .un) j = match ds[j]? with
          | some d => .dat d
          | none => .un := by
        intro ds m
        induction ds with
        | nil =>
          intro j
          simp only [List.map_nil, List.nil_append, List.getElem?_nil]
          induction m generalizing j with
          | zero => rfl
          | succ m ih =>
            rw [List.replicate_succ]
            cases j with
            | zero => rfl
            | succ j => exact ih j
        | cons d ds ih =>
          intro j
          cases j with
          | zero => rfl
          | succ j => exact ih j
      rw [gtm] at h1
      split at h1 <;> cases h1
    have nmu : ∀ b, ¬ (fam i).F b → ¬ Mu (⟨⟨K, Tx, fam, i, xa⟩, S⟩ : Act γ ι) (ds.map Sl.dat ++ List.replicate (N.length - ds.length) .un) (L2.start N vs) b := fun b n z => z.elim n (nown b)
    have hdl : ds.length = ps.length := by rw [← al.length]; exact hl
    unfold mDef at hq
    rw [if_pos hdl] at hq
    rw [hdl]
    rw [hdl] at nmu nown
    cases km : m (ds.map Sl.dat ++ List.replicate (N.length - ps.length) .un) g with
    | no =>
      rw [km] at hq
      exact hq
    | ex y g1 =>
      rw [km] at hq
      exact hq.elim
    | ok f g1 =>
      rw [km] at hq
      cases f with
      | nx e' => exact fun σ' H' R' s' => hq .non H' (fun b o q n => s'.keep b o q (nmu b n)) R'.gh .non
      | bk e' => exact hq.elim
      | ct e' => exact hq.elim
      | rt r =>
        intro v H' kp i' vr
        refine hq v H' (fun b o q n => kp b o q (nmu b n)) i' ?_
        have vr' : VRet (⟨⟨K, Tx, fam, i, xa⟩, S⟩ : Act γ ι) _ _ H H' r v := vr
        unfold VRet at vr'
        show FRet K S H H' r.ret v
        cases kr : r.ret with
        | dat d =>
          rw [kr] at vr'
          exact vr'
        | own es =>
          rw [kr] at vr'
          obtain ⟨p, xs, e1, h0, nx, k1, a1⟩ := vr'
          exact ⟨p, xs, e1, h0.elim (fun z => absurd z (nown p)) id, k1, a1⟩
        | bor es =>
          rw [kr] at vr'
          exact vr'.elim
end
end
end PB
set_option Elab.async false
set_option linter.all false
set_option maxRecDepth 100000
set_option maxHeartbeats 4000000
namespace PB
open PySem PySem.Spec PyProof.Rows L2
variable [Kts]
abbrev LI := Addr × Addr × Addr
structure LsAt (i : LI) (s : LS) (H : Hp) : Prop where
  ea : s.a = i.1
  ha : H i.1 = some (.lst [.ref i.2.1, .int s.told, .ref i.2.2, .int (s.cnt : Int)])
  hg : H i.2.1 = some (.lst (s.gr.map V.int))
  hc : H i.2.2 = some (.lst (s.cs.map V.int))
  n1 : i.1 ≠ i.2.1
  n2 : i.1 ≠ i.2.2
  n3 : i.2.1 ≠ i.2.2
def lsG (i : LI) : Gho LS where
  F := fun a => a = i.1 ∨ a = i.2.1 ∨ a = i.2.2
  I := fun s H => LsAt i s H
  stab := fun s H H' h k _ => ⟨h.ea, by rw [k _ (.inl rfl)]; exact h.ha, by rw [k _ (.inr (.inl rfl))]; exact h.hg, by rw [k _ (.inr (.inr rfl))]; exact h.hc, h.n1, h.n2, h.n3⟩
  lsts := fun s H a h k => by
    rcases k with rfl | rfl | rfl
    · exact .lst h.ha
    · exact .lst h.hg
    · exact .lst h.hc
  ad := fun _ => i.1
section
variable {K : Frag} {Tx : XT} {xa : Addr × Value × Option Addr} {ii : LI} {W : WX} {X : Cx} {pos : Pos} {a : Expr} {ma mk : ME LS}
abbrev LB (K : Frag) (Tx : XT) (ii : LI) (xa : Addr × Value × Option Addr) : Bs LS LI := ⟨K, Tx, lsG, ii, xa⟩
theorem st_at {S : Addr → Prop} {e : Env} {s : LS} {σ : L2.St} {H : Hp} {i : Nat} (R : Rep ⟨LB K Tx ii xa, S⟩ e s σ H) (h : isSt e i s = true) : σ[i]? = some (some (.ref ii.1)) ∧ LsAt ii s H := by
  have L : LsAt ii s H := R.gh
  unfold isSt at h
  split at h
  · rename_i a0 hk
    have q := R.sl i
    rw [hk] at q
    obtain ⟨v, e1, av⟩ := q
    have ea : a0 = s.a := eq_of_beq h
    cases av
    rw [e1, ea, L.ea]
    exact ⟨rfl, L⟩
  · cases h
theorem ifst {α β : Type} {P : Act LS LI → Env → L2.St → Hp → Hp → α → β → Prop} {A : Act LS LI} {e : Env} {σ : L2.St} {H : Hp} {c : Bool} {r : Rs LS α} {Q : β → Hp → Prop} (h : RK P A W e σ H (if c = true then r else .no) Q) : c = true ∧ RK P A W e σ H r Q := by
  by_cases hc : c = true
  · rw [if_pos hc] at h
    exact ⟨hc, h⟩
  · rw [if_neg hc] at h
    exact h.elim
theorem pb_told (i : Nat) {x : Str} {px : Pos} {j : Nat} {pj : Pos} (hN : X.N[i]? = some x) (hv : Vis X.env.scope x := by first | exact Or.inl rfl | exact Or.inr (Or.inl rfl)) (hd : (x == ("__debug__" : Str)) = false := by decide) (hcd : (x == ("__classdict__" : Str)) = false := by decide) :
    PE X (.Subscript (.Name x px) (.Constant (.int 1) j pj) pos) (RE (LB K Tx ii xa) W (mTold i)) := by
  refine pe_w (pe_ix ix_list (pe_var hN hv hd hcd) pe_int (fun _ _ => rfl)) fun σ H Q ⟨S, e, s, R, h⟩ => ?_
  obtain ⟨hst, h⟩ := ifst h
  obtain ⟨e1, L⟩ := st_at R hst
  exact ⟨_, e1, ii.1, _, 1, _, rfl, rfl, SqL.of L.ha, rfl, h _ H (.refl H) L (.int _)⟩
theorem pb_cnt (i : Nat) {x : Str} {px : Pos} {j : Nat} {pj : Pos} (hN : X.N[i]? = some x) (hv : Vis X.env.scope x := by first | exact Or.inl rfl | exact Or.inr (Or.inl rfl)) (hd : (x == ("__debug__" : Str)) = false := by decide) (hcd : (x == ("__classdict__" : Str)) = false := by decide) :
    PE X (.Subscript (.Name x px) (.Constant (.int 3) j pj) pos) (RE (LB K Tx ii xa) W (mCnt i)) := by
  refine pe_w (pe_ix ix_list (pe_var hN hv hd hcd) pe_int (fun _ _ => rfl)) fun σ H Q ⟨S, e, s, R, h⟩ => ?_
  obtain ⟨hst, h⟩ := ifst h
  obtain ⟨e1, L⟩ := st_at R hst
  exact ⟨_, e1, ii.1, _, 3, _, rfl, rfl, SqL.of L.ha, rfl, h _ H (.refl H) L (.int _)⟩
theorem emp_map (l : List Int) : (!(l.map V.int).isEmpty) = !l.isEmpty := by cases l <;> rfl
theorem pb_hasG (i : Nat) {x : Str} {px : Pos} {j : Nat} {pj : Pos} (hN : X.N[i]? = some x) (hv : Vis X.env.scope x := by first | exact Or.inl rfl | exact Or.inr (Or.inl rfl)) (hd : (x == ("__debug__" : Str)) = false := by decide) (hcd : (x == ("__classdict__" : Str)) = false := by decide)
    (he : ∀ whole, isTrue (.Subscript (.Name x px) (.Constant (.int 0) j pj) pos) X.env whole = (do let v ← whole; standAt (Expr.pos (.Subscript (.Name x px) (.Constant (.int 0) j pj) pos)); holding [v] (truthy v)) := by intro _; rfl) :
    PT X (.Subscript (.Name x px) (.Constant (.int 0) j pj) pos) (RT (LB K Tx ii xa) W (mHasG i)) := by
  refine pt_w (pt_truth (pe_ix ix_list (pe_var hN hv hd hcd) pe_int (fun _ _ => rfl)) he) fun σ H Q ⟨S, e, s, R, h⟩ => ?_
  obtain ⟨hst, h⟩ := ifst h
  obtain ⟨e1, L⟩ := st_at R hst
  exact ⟨_, e1, ii.1, _, 0, _, rfl, rfl, SqL.of L.ha, rfl, _, .inl ⟨_, SqL.of L.hg, (emp_map _).symm⟩, h _ H (.refl H) L rfl⟩
theorem pb_hasC (i : Nat) {x : Str} {px : Pos} {j : Nat} {pj : Pos} (hN : X.N[i]? = some x) (hv : Vis X.env.scope x := by first | exact Or.inl rfl | exact Or.inr (Or.inl rfl)) (hd : (x == ("__debug__" : Str)) = false := by decide) (hcd : (x == ("__classdict__" : Str)) = false := by decide)
    (he : ∀ whole, isTrue (.Subscript (.Name x px) (.Constant (.int 2) j pj) pos) X.env whole = (do let v ← whole; standAt (Expr.pos (.Subscript (.Name x px) (.Constant (.int 2) j pj) pos)); holding [v] (truthy v)) := by intro _; rfl) :
    PT X (.Subscript (.Name x px) (.Constant (.int 2) j pj) pos) (RT (LB K Tx ii xa) W (mHasC i)) := by
  refine pt_w (pt_truth (pe_ix ix_list (pe_var hN hv hd hcd) pe_int (fun _ _ => rfl)) he) fun σ H Q ⟨S, e, s, R, h⟩ => ?_
  obtain ⟨hst, h⟩ := ifst h
  obtain ⟨e1, L⟩ := st_at R hst
  exact ⟨_, e1, ii.1, _, 2, _, rfl, rfl, SqL.of L.ha, rfl, _, .inl ⟨_, SqL.of L.hc, (emp_map _).symm⟩, h _ H (.refl H) L rfl⟩
theorem pb_lenC (i : Nat) {x : Str} {px p pl : Pos} {j : Nat} {pj : Pos} (hN : X.N[i]? = some x) (hg : Gl X "len") (hm : X.mg "len" = none) (hv : Vis X.env.scope x := by first | exact Or.inl rfl | exact Or.inr (Or.inl rfl)) (hd : (x == ("__debug__" : Str)) = false := by decide) (hcd : (x == ("__classdict__" : Str)) = false := by decide)
    (hs : starEach [.Subscript (.Name x px) (.Constant (.int 2) j pj) p] X.env = (false, eval (.Subscript (.Name x px) (.Constant (.int 2) j pj) p) X.env) :: starEach [] X.env := by rfl) (hpl : (backTo pos (starEach [] X.env)).any (·.1) = false := by rfl) :
    PE X (.Call (.Name "len" pl) [.Subscript (.Name x px) (.Constant (.int 2) j pj) p] [] pos) (RE (LB K Tx ii xa) W (mLenC i)) := by
  refine pe_w (pe_callB call_len_seq hg hm PySem.boot_len (pa_cons (pe_ix ix_list (pe_var hN hv hd hcd) pe_int (fun _ _ => rfl)) pa_nil hs) (by decide) (by decide) hs hpl) fun σ H Q ⟨S, e, s, R, h⟩ => ?_
  obtain ⟨hst, h⟩ := ifst h
  obtain ⟨e1, L⟩ := st_at R hst
  refine ⟨_, e1, ii.1, _, 2, _, rfl, rfl, SqL.of L.ha, rfl, ii.2.2, _, rfl, .inl (SqL.of L.hc), ?_⟩
  rw [List.length_map]
  exact h _ H (.refl H) L (.int _)
theorem atI_map (l : List Int) (n : Int) : L2.atI (l.map V.int) n = (PB.atI l n).map V.int := by
  unfold L2.atI PB.atI
  rw [List.length_map, ixN_eq]
  cases L2.ixN l.length n with
  | none => rfl
  | some j => simp
theorem pb_atC (i : Nat) {x : Str} {px p : Pos} {j : Nat} {pj : Pos} {k : Expr} (hN : X.N[i]? = some x) (hk : PE X k (RE (LB K Tx ii xa) W mk)) (hp : PlainIx k) (hv : Vis X.env.scope x := by first | exact Or.inl rfl | exact Or.inr (Or.inl rfl)) (hd : (x == ("__debug__" : Str)) = false := by decide) (hcd : (x == ("__classdict__" : Str)) = false := by decide) :
    PE X (.Subscript (.Subscript (.Name x px) (.Constant (.int 2) j pj) p) k pos) (RE (LB K Tx ii xa) W (mAtC i mk)) := by
  refine pe_w (pe_ix ix_list (pe_ix ix_list (pe_var hN hv hd hcd) pe_int (fun _ _ => rfl)) hk hp) fun σ H Q ⟨S, e, s, R, h⟩ => ?_
  obtain ⟨hst, h⟩ := ifst h
  obtain ⟨e1, L⟩ := st_at R hst
  refine ⟨_, e1, ii.1, _, 2, _, rfl, rfl, SqL.of L.ha, rfl, S, e, s, R, RK.bind (.refl H) h fun y s1 vy H1 _ x1 i1 o1 h1 => ?_⟩
  split at h1
  · rename_i n
    obtain ⟨hst1, h1⟩ := ifst h1
    obtain ⟨v, ev, q⟩ := h1.ofO
    obtain ⟨_, L1⟩ := st_at (R.exe x1 i1) hst1
    cases o1
    cases k2 : PB.atI s1.cs n with
    | none =>
      rw [k2] at ev
      cases ev
    | some z =>
      rw [k2] at ev
      cases ev
      exact ⟨ii.2.2, _, n, .int z, rfl, rfl, SqL.of L1.hc, by rw [atI_map, k2]; rfl, q _ H1 x1 i1 (.int _)⟩
  · exact h1.elim
/-- the state changes -/
theorem ls_step {S : Addr → Prop} {e : Env} {s s' : LS} {σ : L2.St} {H H' : Hp} (R : Rep ⟨LB K Tx ii xa, S⟩ e s σ H) (k : ∀ a, a ≠ ii.1 → a ≠ ii.2.1 → H' a = H a) (L : LsAt ii s' H') : Rep ⟨LB K Tx ii xa, S⟩ e s' σ H' ∧ Stp ⟨LB K Tx ii xa, S⟩ e σ H e σ H' := by
  have x : ExE (⟨LB K Tx ii xa, S⟩ : Act LS LI) H H' := fun b o q n => by
    rw [k b (fun z => n (.inl z)) (fun z => n (.inr (.inl z)))]
    exact q
  exact ⟨R.exe x L, .exe R x⟩
theorem pb_setTold (i : Nat) {x : Str} {px : Pos} {j : Nat} {pj tp : Pos} (hN : X.N[i]? = some x) (ha : PE X a (RE (LB K Tx ii xa) W ma)) (hv : Vis X.env.scope x := by first | exact Or.inl rfl | exact Or.inr (Or.inl rfl)) (hd : (x == ("__debug__" : Str)) = false := by decide) (hcd : (x == ("__classdict__" : Str)) = false := by decide)
    (hasg : ∀ v, assign (.Subscript (.Name x px) (.Constant (.int 1) j pj) tp) X.env v = (do
      let ov ← holding [v] (eval (.Name x px) X.env)
      let iv ← holding [v, ov] (eval (.Constant (.int 1) j pj) X.env)
      standAt tp
      holding [v, ov, iv] (setItem ov iv v)
      release [v, ov, iv] []) := by intro _; rfl)
    (hs : swapsWithSole [.Subscript (.Name x px) (.Constant (.int 1) j pj) tp] a pos.line X.env = pure false := by rfl) (hw : swappedStores [.Subscript (.Name x px) (.Constant (.int 1) j pj) tp] a X.env = pure none := by rfl)
    (h1 : (assignEach [.Subscript (.Name x px) (.Constant (.int 1) j pj) tp] X.env).map (·.2) = [assign (.Subscript (.Name x px) (.Constant (.int 1) j pj) tp) X.env] := by rfl) :
    PS X (.Assign [.Subscript (.Name x px) (.Constant (.int 1) j pj) tp] a pos) (RS (LB K Tx ii xa) W (mSetTold i ma)) := by
  refine ps_w (ps_asg ha (pg_sub (pe_var hN hv hd hcd) pe_int set_list hasg) hs hw h1) fun Dd σ H ⟨S, e, s, R, h⟩ => ?_
  refine ⟨S, e, s, R, RSK.bind R h fun y s1 vy H1 x1 i1 o1 h1 => ?_⟩
  have R1 := R.exe x1 i1
  split at h1
  · rename_i n
    by_cases hst : isSt e i s1 = true
    · rw [if_pos hst] at h1
      obtain ⟨e1, L⟩ := st_at R1 hst
      cases o1
      refine ⟨_, e1, ii.1, _, 1, 1, rfl, rfl, L.ha, rfl, ?_⟩
      obtain ⟨R2, s2⟩ := ls_step (s' := { s1 with told := n }) R1 (fun b n1 n2 => upd_ne n1) ⟨L.ea, upd_same, by rw [upd_ne (Ne.symm L.n1)]; exact L.hg, by rw [upd_ne (Ne.symm L.n2)]; exact L.hc, L.n1, L.n2, L.n3⟩
      exact h1 σ _ R2 (.trans R1 (.exe R x1) s2)
    · rw [if_neg hst] at h1
      exact h1.elim
  · exact h1.elim
theorem pb_popG (i : Nat) {x : Str} {px px2 : Pos} {j j0 jz : Nat} {pj pj0 pjz tp p0 apos cpos : Pos} (hN : X.N[i]? = some x) (hv : Vis X.env.scope x := by first | exact Or.inl rfl | exact Or.inr (Or.inl rfl)) (hd : (x == ("__debug__" : Str)) = false := by decide) (hcd : (x == ("__classdict__" : Str)) = false := by decide)
    (hasg : ∀ v, assign (.Subscript (.Name x px) (.Constant (.int 1) j pj) tp) X.env v = (do
      let ov ← holding [v] (eval (.Name x px) X.env)
      let iv ← holding [v, ov] (eval (.Constant (.int 1) j pj) X.env)
      standAt tp
      holding [v, ov, iv] (setItem ov iv v)
      release [v, ov, iv] []) := by intro _; rfl)
    (hbase : attributeBase (.Subscript (.Name x px2) (.Constant (.int 0) j0 pj0) p0) "pop" X.env (eval (.Subscript (.Name x px2) (.Constant (.int 0) j0 pj0) p0) X.env) = eval (.Subscript (.Name x px2) (.Constant (.int 0) j0 pj0) p0) X.env := by rfl)
    (hfew : ((backTo cpos (starEach [.Constant (.int 0) jz pjz] X.env)).all (fun x => !x.1) && (backToKw cpos (keywordEach [] X.env)).all (fun x => x.1.isSome)
      && decide ([Expr.Constant (.int 0) jz pjz].length + ([] : List Keyword).length + (if ([] : List Keyword).isEmpty then 0 else 1) < 30)) = true := by rfl)
    (hline : (apos.endLine == cpos.line) = true := by rfl) (hsa : starEach [.Constant (.int 0) jz pjz] X.env = (false, eval (.Constant (.int 0) jz pjz) X.env) :: starEach [] X.env := by rfl) (hplain : (backTo cpos (starEach [] X.env)).any (·.1) = false := by rfl)
    (hs : swapsWithSole [.Subscript (.Name x px) (.Constant (.int 1) j pj) tp] (.Call (.Attribute (.Subscript (.Name x px2) (.Constant (.int 0) j0 pj0) p0) "pop" apos) [.Constant (.int 0) jz pjz] [] cpos) pos.line X.env = pure false := by rfl)
    (hw : swappedStores [.Subscript (.Name x px) (.Constant (.int 1) j pj) tp] (.Call (.Attribute (.Subscript (.Name x px2) (.Constant (.int 0) j0 pj0) p0) "pop" apos) [.Constant (.int 0) jz pjz] [] cpos) X.env = pure none := by rfl)
    (h1 : (assignEach [.Subscript (.Name x px) (.Constant (.int 1) j pj) tp] X.env).map (·.2) = [assign (.Subscript (.Name x px) (.Constant (.int 1) j pj) tp) X.env] := by rfl) :
    PS X (.Assign [.Subscript (.Name x px) (.Constant (.int 1) j pj) tp] (.Call (.Attribute (.Subscript (.Name x px2) (.Constant (.int 0) j0 pj0) p0) "pop" apos) [.Constant (.int 0) jz pjz] [] cpos) pos) (RS (LB K Tx ii xa) W (mPopG i)) := by
  refine ps_w (ps_asg (pe_bm PySem.F.plainAttrs_list PySem.F.slot_list_pop PySem.F.type_list_pop mt_popAt (pe_ix ix_list (pe_var hN hv hd hcd) pe_int (fun _ _ => rfl)) (pa_cons pe_int pa_nil hsa) hbase hfew hline hsa hplain) (pg_sub (pe_var hN hv hd hcd) pe_int set_list hasg) hs hw h1) fun Dd σ H ⟨S, e, s, R, h⟩ => ?_
  unfold mPopG at h
  by_cases hst : isSt e i s = true
  · rw [if_pos hst] at h
    obtain ⟨e1, L⟩ := st_at R hst
    split at h
    · rename_i y r hgr
      have hg := L.hg
      rw [hgr] at hg
      refine ⟨_, e1, ii.1, _, 0, _, rfl, rfl, SqL.of L.ha, rfl, .inl ⟨rfl, _, SqL.of hg⟩, ii.2.1, _, 0, 0, .int y, rfl, rfl, hg, by decide, by decide, by simp [seqIndex?], rfl, ?_⟩
      have ha2 : upd H ii.2.1 (.lst ((List.map V.int (y :: r)).eraseIdx 0)) ii.1 = _ := (upd_ne L.n1).trans L.ha
      refine ⟨_, e1, ii.1, _, 1, 1, rfl, rfl, ha2, rfl, ?_⟩
      obtain ⟨R2, s2⟩ := ls_step (s' := { s with gr := r, told := y }) (H' := upd (upd H ii.2.1 (.lst ((List.map V.int (y :: r)).eraseIdx 0))) ii.1 (.lst ([V.ref ii.2.1, .int s.told, .ref ii.2.2, .int (s.cnt : Int)].set 1 (.int y)))) R (fun b n1 n2 => by rw [upd_ne n1, upd_ne n2]) ⟨L.ea, upd_same, by rw [upd_ne (Ne.symm L.n1), upd_same]; rfl, by rw [upd_ne (Ne.symm L.n2), upd_ne (Ne.symm L.n3)]; exact L.hc, L.n1, L.n2, L.n3⟩
      exact h σ _ R2 s2
    · exact h.elim
  · rw [if_neg hst] at h
    exact h.elim
theorem get_list : PGet X (rIxL X.K) := by
  intro pins s σ H o i ov iv Q I ro ri h
  obtain ⟨p, xs, k, z, rfl, rfl, hq, he, q⟩ := h
  cases ro
  obtain ⟨t, rfl⟩ := ri
  obtain ⟨its, r, pl, hz⟩ := I.list hq
  obtain ⟨j, h1, h2, h3, h4, h5⟩ := atI_get he
  obtain ⟨w, ew, rw'⟩ := r.get h2
  have hl := r.length
  have hn := line63
  have fin : EP X pins σ Q w s := ⟨z, H, I, rw', q⟩
  by_cases h0 : 0 ≤ k
  · have hj : k.toNat = j := by
      rw [seqIndex_of h0 h5] at h1
      exact Option.some.inj h1
    exact wpAny_getItem_list pl.isList h0 (by omega) (by rw [hj]; simpa using ew) fin
  · have hj : (k + (its.toArray.size : Int)).toNat = j := by
      rw [seqIndex_neg (by omega) h4] at h1
      rw [List.size_toArray, ← hl]
      exact Option.some.inj h1
    exact wpAny_getItem_list_neg pl.isList (by omega) (by rw [List.size_toArray] <;> omega) (by omega) (by rw [hj]; simpa using ew) fin
theorem pb_incC (i : Nat) {x : Str} {px : Pos} {j jz : Nat} {pj pjz tp : Pos} (hN : X.N[i]? = some x) (hv : Vis X.env.scope x := by first | exact Or.inl rfl | exact Or.inr (Or.inl rfl)) (hd : (x == ("__debug__" : Str)) = false := by decide) (hcd : (x == ("__classdict__" : Str)) = false := by decide)
    (hau : ∀ ov iv new, augStore (.Constant (.int 3) j pj) ov iv new = (do holding [new, ov, iv] (setItem ov iv new); release [new, ov, iv] []; pure .next) := by intros; rfl) :
    PS X (.AugAssign (.Subscript (.Name x px) (.Constant (.int 3) j pj) tp) .Add (.Constant (.int 1) jz pjz) pos) (RS (LB K Tx ii xa) W (mIncC i)) := by
  refine ps_w (ps_augS (pe_var hN hv hd hcd) pe_int get_list pe_int ip_add set_list hau) fun Dd σ H ⟨S, e, s, R, h⟩ => ?_
  unfold mIncC at h
  by_cases hst : isSt e i s = true
  · rw [if_pos hst] at h
    obtain ⟨e1, L⟩ := st_at R hst
    refine ⟨_, e1, ii.1, _, 3, _, rfl, rfl, SqL.of L.ha, rfl, _, 1, rfl, rfl, ii.1, _, 3, 3, rfl, rfl, L.ha, rfl, ?_⟩
    obtain ⟨R2, s2⟩ := ls_step (s' := { s with cnt := s.cnt + 1 }) R (fun b n1 n2 => upd_ne n1) ⟨L.ea, upd_same, by rw [upd_ne (Ne.symm L.n1)]; exact L.hg, by rw [upd_ne (Ne.symm L.n2)]; exact L.hc, L.n1, L.n2, L.n3⟩
    exact h σ _ R2 s2
  · rw [if_neg hst] at h
    exact h.elim
end
end PB
set_option Elab.async false
set_option linter.all false
set_option maxRecDepth 100000
set_option maxHeartbeats 4000000
namespace PB
open PySem PySem.Spec PyProof.Rows L2
variable [Kts]
theorem hu65 {k : Nat} {A : Around} (h : Room k A) : A.units + 65 < cLine := by
  have := h.un
  omega
theorem nm_Eq (b : Expr) : behindInMarks .Eq b = false := nomark b
theorem nm_NotEq (b : Expr) : behindInMarks .NotEq b = false := nomark b
theorem nm_Lt (b : Expr) : behindInMarks .Lt b = false := nomark b
theorem nm_LtE (b : Expr) : behindInMarks .LtE b = false := nomark b
theorem nm_Gt (b : Expr) : behindInMarks .Gt b = false := nomark b
theorem nm_GtE (b : Expr) : behindInMarks .GtE b = false := nomark b
theorem nm_Is (b : Expr) : behindInMarks .Is b = false := nomark b
theorem fn_pb2 {γ ι : Type} {P : Program} {w : World} {K : Frag} {mg : Str → Option Value} {base : Heap} {Tx : XT} {xa : Addr × Value × Option Addr} {fam : ι → Gho γ} {x qual : Str} {st : Stmt} {f : Addr} {fd : FuncData} {N ps : List Str} {k : Nat} {dvs : List V} (m : MS γ) (a b : Nat) (F : FunD K x qual (defArgs st) (defBody st) (defScope st) dvs [] f fd) (Sc : FnScope N ps (defScope st)) (ha : N.length = a) (hb' : ps.length = b) (hn : b ≤ a)
    (hb : ∀ (i : ι) (cdv : Value) (A : Around) (outer : List PySem.Env) (s : Shared) (H : Hp) (E : XK), Room k (A.deeper (envOfC qual (defScope st) s.heap.objs.size f cdv)) →
      PSs (cxOf CX0 P w K mg base N qual (defScope st) f cdv A outer s H E).nox (defBody st) (RS ⟨K, Tx, fam, i, xa⟩ W0 m)) :
    FnOk P w K mg base CX0 (k + 1) f fd ps (spOf K fam b (mDef a b m)) := by
  subst ha hb'
  exact fn_pb F Sc hn hb
abbrev FnP (K : Frag) (x : Str) (st : Stmt) (f : Addr) (fd : FuncData) : Prop := FunD K x x (defArgs st) (defBody st) (defScope st) [] [] f fd
theorem FnP.fun {K : Frag} {x : Str} {st : Stmt} {f : Addr} {fd : FuncData} (F : FnP K x st f fd) : Fun K x x st f fd := by
  obtain ⟨oc, od, dV, kV, doc, pm, an, cdv, ct, osl, e, lk, hcd, hD, hK⟩ := F.ex
  rcases hD with ⟨_, rfl⟩ | ⟨e, _⟩
  · exact ⟨⟨oc, od, kV, doc, pm, an, cdv, ct, osl, e, lk, hcd⟩, F.kp⟩
  · exact absurd rfl e
/-- a def as callers know it -/
structure Cal (K : Frag) (mg : Str → Option Value) (x : Str) (st : Stmt) (ps : List Str) (f : Addr) (fd : FuncData) : Prop where
  F : FnP K x st f fd
  g : mg x = some (.ref f)
  b : Binds K fd ps []
theorem pss_ex {ι : Type} {X : Cx} {sts : List Stmt} {t : ι → TS} (h : ∀ i, PSs X sts (t i)) : PSs X sts (fun D σ H => ∃ i, t i D σ H) := ⟨fun pins s σ H D I ⟨i, q⟩ => (h i).run pins s σ H D I q⟩
def spStart (K : Frag) : Sp := fun vs H Q _ => ∃ (a0 : Addr) (ns : List Int), vs = [.ref a0] ∧ SqL K H a0 (ns.map V.int) ∧ ns.length ≤ 63 ∧
  ∀ (i : LI) (s : LS) (H' : Hp), s.Ok → s.cnt = 0 → LsAt i s H' → (∀ b o, H b = some o → H' b = some o) → H i.1 = none → H i.2.1 = none → H i.2.2 = none → Q (.ref i.1) H'
def spLaw (K : Frag) : Sp := fun vs H Q _ => ∃ (a0 : Addr) (ns : List Int), vs = [.ref a0] ∧ SqL K H a0 (ns.map V.int) ∧ ns.length ≤ 63 ∧ ∀ H', Q (.bl true) H'
theorem filter_take {p : Int → Bool} {l : List Int} {i : Nat} {x : Int} (h : l[i]? = some x) : (l.take (i + 1)).filter p = (l.take i).filter p ++ (if p x = true then [x] else []) := by
  rw [List.take_add_one, h, List.filter_append]
  congr 1
  cases hp : p x <;> simp [hp]
theorem map_take {f : Int → Int} {l : List Int} {i : Nat} {x : Int} (h : l[i]? = some x) : (l.take (i + 1)).map f = (l.take i).map f ++ [f x] := by
  rw [List.take_add_one, h, List.map_append]
  rfl
/-- what the readings of the two comprehensions ask -/
theorem lc_great {K : Frag} {a : Addr} {ns : List Int} {σ : L2.St} {H1 : Hp} {Dp : Addr} {Qd : Hp → Prop} {vi : Nat} (hv : vi < σ.length) (hD : H1 Dp = none) (hS : SqL K H1 a (ns.map V.int)) (hl : ns.length ≤ 63) (hd : Qd (upd H1 Dp (.lst ((ns.filter fun x => decide (10 ^ 18 ≤ x)).map V.int)))) :
    ∃ W : Nat → Nat → Hp → Prop, (∃ m, W 0 m (upd H1 Dp (.lst []))) ∧ ∀ i m H, W i m H →
      ((Itl K a).stop i H ∧ Qd H) ∨ ((Itl K a).go i H ∧ ∃ Nx : Hp → Prop, (∀ H', Nx H' → ∃ m', m' < m ∧ W (i + 1) m' H') ∧ ∀ x H', (Itl K a).yld i H x H' → gName vi x (wipe σ [vi]) H' fun σ2 H2 => wipe σ2 [vi] = wipe σ [vi] ∧ tTest (tOp (rI0 fun i j => .bl (decide (j ≤ i))) (tVar vi) (tOp (rI CPow fun i j => .int (i ^ j.toNat)) (tC (.int 10)) (tC (.int 18)))) σ2 H2 fun b H3 =>
        if b = true then tVar vi σ2 H3 fun y H4 => ∃ acc, H4 Dp = some (.lst acc) ∧ acc.length < sizeLine ∧ Nx (upd H4 Dp (.lst (acc ++ [y]))) else Nx H3) := by
  have fr : ∀ {o : HO}, SqL K (upd H1 Dp o) a (ns.map V.int) := fun {o} => by
    rcases hS with (h | ⟨u, h⟩) | h
    · exact .inl (.inl (by rw [upd_ne (ne_of_none h hD)]; exact h))
    · exact .inl (.inr ⟨u, by rw [upd_ne (ne_of_none h hD)]; exact h⟩)
    · exact .inr h
  refine lc_list (K := K) (a := a) (xs := ns.map V.int) (fun i H => H = upd H1 Dp (.lst (((ns.take i).filter fun x => decide (10 ^ 18 ≤ x)).map V.int))) rfl (fun i H _ e => by rw [e]; exact fr) (fun i x H hx e => ?_) (fun H e => ?_)
  · subst e
    rw [List.getElem?_map] at hx
    cases q : ns[i]? with
    | none =>
      rw [q] at hx
      cases hx
    | some z =>
      rw [q] at hx
      cases hx
      have hw : ((wipe σ [vi]).set vi (some (V.int z)))[vi]? = some (some (V.int z)) := by
        rw [set_at, if_pos ⟨rfl, by rw [wipe_length]; exact hv⟩]
      refine ⟨wipe_eq (is := [vi]) (by rw [List.length_set, wipe_length]) (fun i hi => hi) (fun j hj => by rw [List.getElem?_set_ne (fun z => hj (by simp [z]))]), _, hw, _, _, rfl, rfl, ⟨by decide, by decide, by decide⟩, _, _, rfl, rfl, _, rfl, ?_⟩
      have e2 := filter_take (p := fun x => decide (10 ^ 18 ≤ x)) q
      have e3 : (decide (10 ^ (18 : Int).toNat ≤ z)) = decide ((10 : Int) ^ 18 ≤ z) := rfl
      by_cases hz : (10 : Int) ^ 18 ≤ z
      · dsimp only
        rw [e3, if_pos (decide_eq_true hz)]
        refine ⟨_, hw, _, upd_same, ?_, ?_⟩
        · rw [List.length_map]
          refine Nat.lt_of_le_of_lt (List.length_filter_le _ _) ?_
          rw [List.length_take]
          exact szlt (by show _ < 16777216; omega)
        · rw [upd_upd, e2, if_pos (decide_eq_true hz), List.map_append]
          rfl
      · dsimp only
        rw [e3, if_neg (by rw [decide_eq_false hz]; exact Bool.false_ne_true)]
        rw [e2, if_neg (by rw [decide_eq_false hz]; exact Bool.false_ne_true), List.append_nil]
  · rw [e, List.length_map, List.take_length]
    exact hd
theorem lc_cells {K : Frag} {a : Addr} {ns : List Int} {σ : L2.St} {H1 : Hp} {Dp : Addr} {Qd : Hp → Prop} {vi : Nat} (hv : vi < σ.length) (hD : H1 Dp = none) (hS : SqL K H1 a (ns.map V.int)) (hl : ns.length ≤ 63) (hd : Qd (upd H1 Dp (.lst ((ns.map fun x => x % 2147483629).map V.int)))) :
    ∃ W : Nat → Nat → Hp → Prop, (∃ m, W 0 m (upd H1 Dp (.lst []))) ∧ ∀ i m H, W i m H →
      ((Itl K a).stop i H ∧ Qd H) ∨ ((Itl K a).go i H ∧ ∃ Nx : Hp → Prop, (∀ H', Nx H' → ∃ m', m' < m ∧ W (i + 1) m' H') ∧ ∀ x H', (Itl K a).yld i H x H' → gName vi x (wipe σ [vi]) H' fun σ2 H2 => wipe σ2 [vi] = wipe σ [vi] ∧ tYes σ2 H2 fun b H3 =>
        if b = true then tOp (rI (fun _ j => 0 < j) fun i j => .int (i % j)) (tVar vi) (tC (.int 2147483629)) σ2 H3 fun y H4 => ∃ acc, H4 Dp = some (.lst acc) ∧ acc.length < sizeLine ∧ Nx (upd H4 Dp (.lst (acc ++ [y]))) else Nx H3) := by
  have fr : ∀ {o : HO}, SqL K (upd H1 Dp o) a (ns.map V.int) := fun {o} => by
    rcases hS with (h | ⟨u, h⟩) | h
    · exact .inl (.inl (by rw [upd_ne (ne_of_none h hD)]; exact h))
    · exact .inl (.inr ⟨u, by rw [upd_ne (ne_of_none h hD)]; exact h⟩)
    · exact .inr h
  refine lc_list (K := K) (a := a) (xs := ns.map V.int) (fun i H => H = upd H1 Dp (.lst (((ns.take i).map fun x => x % 2147483629).map V.int))) rfl (fun i H _ e => by rw [e]; exact fr) (fun i x H hx e => ?_) (fun H e => ?_)
  · subst e
    rw [List.getElem?_map] at hx
    cases q : ns[i]? with
    | none =>
      rw [q] at hx
      cases hx
    | some z =>
      rw [q] at hx
      cases hx
      have hw : ((wipe σ [vi]).set vi (some (V.int z)))[vi]? = some (some (V.int z)) := by
        rw [set_at, if_pos ⟨rfl, by rw [wipe_length]; exact hv⟩]
      refine ⟨wipe_eq (is := [vi]) (by rw [List.length_set, wipe_length]) (fun i hi => hi) (fun j hj => by rw [List.getElem?_set_ne (fun z => hj (by simp [z]))]), ?_⟩
      unfold tYes
      dsimp only
      rw [if_pos rfl]
      refine ⟨_, hw, _, _, rfl, rfl, (by show (0 : Int) < 2147483629; decide), _, upd_same, ?_, ?_⟩
      · rw [List.length_map, List.length_map, List.length_take]
        exact szlt (by show _ < 16777216; omega)
      · rw [upd_upd, map_take q, List.map_append]
        rfl
  · rw [e, List.length_map, List.take_length]
    exact hd
theorem upd_keep {H : Hp} {p : Addr} {o : HO} (h : H p = none) : ∀ b u, H b = some u → upd H p o b = some u := fun b u e => by
  rw [upd_ne (ne_of_none e h)]
  exact e
/-- the four of a new state, laid one after another -/
theorem ls_made {ns : List Int} {H : Hp} {g c a : Addr} (hg : H g = none) (hc : (upd H g (.lst ((ns.filter fun x => decide (10 ^ 18 ≤ x)).map V.int))) c = none)
    (ha : (upd (upd H g (.lst ((ns.filter fun x => decide (10 ^ 18 ≤ x)).map V.int))) c (.lst ((ns.map fun x => x % 2147483629).map V.int))) a = none) :
    let H3 := upd (upd (upd H g (.lst ((ns.filter fun x => decide (10 ^ 18 ≤ x)).map V.int))) c (.lst ((ns.map fun x => x % 2147483629).map V.int))) a (.lst [.ref g, .int 0, .ref c, .int 0])
    let s : LS := ⟨a, ns.filter fun x => decide (10 ^ 18 ≤ x), 0, ns.map fun x => x % 2147483629, 0⟩
    s.Ok ∧ s.cnt = 0 ∧ LsAt (a, g, c) s H3 ∧ (∀ b o, H b = some o → H3 b = some o) ∧ H a = none ∧ H g = none ∧ H c = none := by
  intro H3 s
  have hcg : c ≠ g := fun z => by
    rw [z, upd_same] at hc
    cases hc
  have hc0 : H c = none := by
    rw [upd_ne hcg] at hc
    exact hc
  have hac : a ≠ c := fun z => by
    rw [z, upd_same] at ha
    cases ha
  rw [upd_ne hac] at ha
  have hag : a ≠ g := fun z => by
    rw [z, upd_same] at ha
    cases ha
  rw [upd_ne hag] at ha
  refine ⟨⟨Int.le_refl 0, fun x hx => ?_, fun x hx => ?_⟩, rfl, ⟨rfl, upd_same, ?_, ?_, hag, hac, hcg.symm⟩, fun b o e => ?_, ha, hg, hc0⟩
  · have h1 := of_decide_eq_true (List.mem_filter.mp hx).2
    have h2 : (0 : Int) < 10 ^ 18 := by decide
    omega
  · obtain ⟨y, _, rfl⟩ := List.mem_map.mp hx
    exact ⟨Int.emod_nonneg _ (by decide), Int.emod_lt_of_pos _ (by decide)⟩
  · show H3 g = _
    show upd _ a _ g = _
    rw [upd_ne (Ne.symm hag), upd_ne (Ne.symm hcg), upd_same]
  · show upd _ a _ c = _
    rw [upd_ne (Ne.symm hac), upd_same]
  · show upd _ a _ b = _
    rw [upd_ne (ne_of_none e ha), upd_ne (ne_of_none e hc0), upd_ne (ne_of_none e hg)]
    exact e
theorem gt_rep (n j : Nat) : gt (List.replicate n .un) j = .un := by
  induction n generalizing j with
  | zero => rfl
  | succ n ih =>
    cases j with
    | zero => rfl
    | succ j => exact ih j
theorem gt_law (d : D) (n j : Nat) : gt (.un :: .dat d :: List.replicate n .un) j = if j = 1 then .dat d else .un := by
  match j with
  | 0 => rfl
  | 1 => rfl
  | j + 2 =>
    rw [if_neg (by omega)]
    exact gt_rep n j
/-- the rest of a law, from its state on -/
theorem law_rest {K : Frag} {Tx : XT} {xa : Addr × Value × Option Addr} {m : MS LS} {n : Nat} {i : LI} {s : LS} {H : Hp} {a0 : V} {Dd : Ends} (hL : LsAt i s H) (hp : ∃ g', m (.un :: .dat (.ref s.a) :: List.replicate n .un) s = .ok (.rt (.dat (.bl true))) g') (hQ : ∀ H', Dd.rt (.bl true) H') :
    RS ⟨K, Tx, lsG, i, xa⟩ W0 m Dd (some a0 :: some (.ref i.1) :: List.replicate n none) H := by
  obtain ⟨g', hp⟩ := hp
  refine ⟨(lsG i).F, .un :: .dat (.ref s.a) :: List.replicate n .un, s, ⟨by simp, fun j => ?_, fun j k p h1 => ?_, fun a ⟨j, h1, _⟩ => ?_, hL, fun a z => z, fun a z => (lsG i).stk _ _ _ hL z⟩, ?_⟩
  · rw [gt_law]
    by_cases hj : j = 1
    · rw [if_pos hj, hj]
      refine ⟨.ref i.1, rfl, ?_⟩
      rw [hL.ea]
      exact .ref _
    · rw [if_neg hj]
      trivial
  · rw [gt_law] at h1
    split at h1 <;> cases h1
  · rw [gt_law] at h1
    split at h1 <;> cases h1
  · rw [hp]
    intro v H' _ _ vr
    have vr' : At K _ H' v (.bl true) := vr
    cases vr'
    exact hQ H'
end PB
set_option Elab.async false
set_option linter.all false
set_option maxRecDepth 100000
set_option maxHeartbeats 4000000
namespace PB
open PySem PySem.Spec PyProof.Rows L2
variable [Kts]
mutual
def conV (K : Frag) : D → Value → Bool
  | .non, .none => true
  | .bl b, .bool c => b == c
  | .int i, .int j _ => decide (i = j)
  | .str l, .str x _ => decide (x = mkS l) && (decide (l.length ≤ SZ) && l.all (· < 0x110000))
  | .tup ds, .ref a => (match K.lookup a with
    | some ⟨.type c, _, .seq its _, _⟩ => decide (c = "tuple") && (decide (its.size ≤ sizeLine) && conL K ds its.toList)
    | _ => false)
  | _, _ => false
def conL (K : Frag) : List D → List Value → Bool
  | [], [] => true
  | d :: ds, u :: us => conV K d u && conL K ds us
  | _, _ => false
end
mutual
theorem conV_ok {K : Frag} : ∀ {d : D} {u : Value}, (Kts.on ∨ scl d = true) → conV K d u = true → ∃ v, RelV v u ∧ ∀ O H, At K O H v d
  | .non, u, on, h => by
    cases u <;> first
      | exact ⟨.non, rfl, fun _ _ => .non⟩
      | (unfold conV at h; cases h)
  | .bl b, u, on, h => by
    cases u <;> first
      | (rename_i c
         have e : b = c := eq_of_beq (show (b == c) = true from h)
         subst e
         exact ⟨.bl b, rfl, fun _ _ => .bl b⟩)
      | (unfold conV at h; cases h)
  | .int i, u, on, h => by
    cases u <;> first
      | (rename_i j t
         have e : i = j := of_decide_eq_true (show decide (i = j) = true from h)
         subst e
         exact ⟨.int i, ⟨t, rfl⟩, fun _ _ => .int i⟩)
      | (unfold conV at h; cases h)
  | .str l, u, on, h => by
    cases u <;> first
      | (rename_i x t
         have h' : (decide (x = mkS l) && (decide (l.length ≤ SZ) && l.all (· < 0x110000))) = true := h
         rw [Bool.and_eq_true, Bool.and_eq_true] at h'
         have e : x = mkS l := of_decide_eq_true h'.1
         subst e
         exact ⟨.str (mkS l), ⟨t, rfl⟩, fun K' _ => .str l (of_decide_eq_true h'.2.1) h'.2.2⟩)
      | (unfold conV at h; cases h)
  | .tup ds, u, on, h => by
    cases u <;> first
      | (rename_i a
         unfold conV at h
         split at h
         · rename_i c dd its n sl hl
           rw [Bool.and_eq_true, Bool.and_eq_true] at h
           have on : Kts.on := on.elim id fun z => nomatch z
           obtain ⟨vs, hv, ha⟩ := conL_ok on h.2.2
           exact ⟨.ref a, rfl, fun O H => .tup (.inr ⟨on, _, its, n, hl, congrArg Value.type (of_decide_eq_true h.1), rfl, of_decide_eq_true h.2.1, hv⟩) (ha O H)⟩
         · cases h)
      | (unfold conV at h; cases h)
  | .lst ds, u, on, h => by unfold conV at h; cases h
  | .ref a, u, on, h => by unfold conV at h; cases h
theorem conL_ok {K : Frag} : ∀ {ds : List D} {us : List Value}, Kts.on → conL K ds us = true → ∃ vs, Vals vs us ∧ ∀ O H, AtL K O H vs ds
  | [], [], _, _ => ⟨[], .nil, fun _ _ => .nil⟩
  | [], _ :: _, _, h => by unfold conL at h; cases h
  | _ :: _, [], _, h => by unfold conL at h; cases h
  | d :: ds, u :: us, on, h => by
    unfold conL at h
    rw [Bool.and_eq_true] at h
    obtain ⟨v, r, a⟩ := conV_ok (.inl on) h.1
    obtain ⟨vs, rs, as⟩ := conL_ok on h.2
    exact ⟨v :: vs, .cons r rs, fun O H => .cons (a O H) (as O H)⟩
end
/-- the module's name x stands for d -/
def ConAt (K : Frag) (mg : Str → Option Value) (x : Str) (d : D) : Prop := ∃ v u, mg x = some u ∧ RelV v u ∧ ∀ O H, At K O H v d
def conG (K : Frag) (x : Str) (d : D) : Bool := match PySem.W.nsIn K mainGlobals x with
  | some (some u) => conV K d u
  | _ => false
theorem conG_ok {K : Frag} {h : Heap} {mg : Str → Option Value} {x : Str} {d : D} (X : K.In h) (G : h.Ns mainGlobals mg) (on : Kts.on ∨ scl d = true) (c : conG K x d = true) : ConAt K mg x d := by
  unfold conG at c
  cases e : PySem.W.nsIn K mainGlobals x with
  | none =>
    rw [e] at c
    cases c
  | some o =>
    rw [e] at c
    cases o with
    | none => cases c
    | some u =>
      obtain ⟨v, r, a⟩ := conV_ok on c
      exact ⟨v, u, PySem.W.mg_of X G e, r, a⟩
section
variable {γ ι : Type} {B : Bs γ ι} {W : WX} {X : Cx} {pos : Pos} {a b k : Expr} {ma mb mk : ME γ}
theorem pb_con {x : Str} {d : D} (c : ConAt B.K X.mg x d) (hg : Gl X x) (hd : (x == ("__debug__" : Str)) = false := by decide) : PE X (.Name x pos) (RE B W (mC d)) := by
  obtain ⟨v, u, h1, h2, h3⟩ := c
  exact pb_glob d hg h1 h2 h3 hd
end
end PB
set_option Elab.async false
set_option linter.all false
set_option maxRecDepth 100000
set_option maxHeartbeats 4000000
namespace PB
open PySem PySem.Spec PyProof.Rows L2
variable [Kts]
theorem toPyL_get : ∀ (ds : List D) (j : Nat), (toPyL ds)[j]? = (ds[j]?).map toPy
  | [], j => by simp [toPyL]
  | d :: ds, 0 => by simp [toPyL]
  | d :: ds, j + 1 => by
    show (toPy d :: toPyL ds)[j + 1]? = _
    rw [List.getElem?_cons_succ, List.getElem?_cons_succ]
    exact toPyL_get ds j
theorem okL_get {n : Nat} : ∀ {ds : List D} {j : Nat} {d : D}, okL n ds = true → ds[j]? = some d → okE n d = true
  | [], j, d, _, h => by simp at h
  | x :: ds, 0, d, h, e => by
    simp only [okL, Bool.and_eq_true] at h
    simp at e
    rw [← e]
    exact h.1
  | x :: ds, j + 1, d, h, e => by
    simp only [okL, Bool.and_eq_true] at h
    rw [List.getElem?_cons_succ] at e
    exact okL_get h.2 e
section
variable {γ ι : Type} {B : Bs γ ι} {W : WX} {X : Cx} {pos : Pos} {a b : Expr} {ma mb : ME γ}
/-- what a list's method asks, by data -/
def LmS (B : Bs γ ι) (f : List D → D → Option Int) (r : V → List V → Hp → VK → Prop) : Prop := ∀ (H : Hp) (O O' : Addr → Prop) (p : Addr) (xs : List V) (l : List D) (vy : V) (y : D) (n : Int) (Q : VK),
  H p = some (.lst xs) → AtL B.K O H xs l → At B.K O' H vy y → f l y = some n → Q (.int n) H → r (.ref p) [vy] H Q
theorem lm_index : LmS B oIndex (rIndexD B.K) := by
  intro H O O' p xs l vy y n Q hp hl hy e q
  unfold oIndex at e
  split at e
  · rename_i k
    cases hf : l.findIdx? fun d => eqv d y with
    | none =>
      rw [hf] at e
      cases e
    | some j =>
      rw [hf] at e
      cases e
      obtain ⟨hj, h1, h2⟩ := List.findIdx?_eq_some_iff_getElem.mp hf
      have ej : l[j]? = some l[j] := List.getElem?_eq_getElem hj
      refine ⟨p, vy, toPy y, toPyL l, j, toPy l[j], rfl, rfl, .lst (SqL.of hp) (dpL_of hl k.2), dp_of hy k.1, shapedL_of hl k.2 (by omega), shaped_of hy k.1 (by omega), by rw [toPyL_get, ej]; rfl, ?_, fun m z' hm hz' => ?_, q⟩
      · rw [eqv_toPy _ _ ⟨_, okL_get k.2 ej⟩ ⟨_, k.1⟩]
        exact h1
      · rw [toPyL_get] at hz'
        have hml : m < l.length := by omega
        rw [List.getElem?_eq_getElem hml] at hz'
        cases hz'
        rw [eqv_toPy _ _ ⟨_, okL_get k.2 (List.getElem?_eq_getElem hml)⟩ ⟨_, k.1⟩]
        have := h2 m hm
        simpa using this
  · cases e
theorem pb_lm {name : Str} {id : String} {f : List D → D → Option Int} {r : V → List V → Hp → VK → Prop} {apos : Pos} (slot : Slot "list" name id) (hty : typeOf (.builtin id) = pure (.type "method_descriptor")) (hm : MtR X id r) (hf : LmS B f r)
    (ha : PE X a (RE B W ma)) (hb : PE X b (RE B W mb))
    (hbase : attributeBase a name X.env (eval a X.env) = eval a X.env := by rfl)
    (hfew : ((backTo pos (starEach [b] X.env)).all (fun x => !x.1) && (backToKw pos (keywordEach [] X.env)).all (fun x => x.1.isSome)
      && decide ([b].length + ([] : List Keyword).length + (if ([] : List Keyword).isEmpty then 0 else 1) < 30)) = true := by rfl)
    (hline : (apos.endLine == pos.line) = true := by rfl) (hs : starEach [b] X.env = (false, eval b X.env) :: starEach [] X.env := by rfl) (hplain : (backTo pos (starEach [] X.env)).any (·.1) = false := by rfl) :
    PE X (.Call (.Attribute a name apos) [b] [] pos) (RE B W (mLm f ma mb)) := by
  refine pe_w (pe_bm PySem.F.plainAttrs_list slot hty hm ha (pa_cons hb pa_nil hs) hbase hfew hline hs hplain) fun σ H Q ⟨S, e, g, R, h⟩ => ?_
  refine ⟨S, e, g, R, RK.bind (.refl H) h fun x g1 vx H1 _ x1 i1 o1 h1 => ?_⟩
  split at h1
  · rename_i l kl
    obtain ⟨p, xs, ev, hp, al⟩ := o1.items R kl
    have st : ∀ H2, ExE _ H1 H2 → VOk ⟨B, S⟩ e σ H H2 x vx := fun H2 x12 => o1.step R x12
    subst ev
    refine ⟨.inl ⟨rfl, xs, SqL.of hp⟩, S, e, g1, R.exe x1 i1, RK.bind x1 h1 fun y g2 vy H2 x12 x2 i2 o2 h2 => ?_⟩
    obtain ⟨z, ez, q⟩ := h2.ofO
    cases hz : f l y.val with
    | none =>
      rw [hz] at ez
      cases ez
    | some n =>
      rw [hz] at ez
      cases ez
      obtain ⟨p2, xs2, ev2, hp2, al2⟩ := (st H2 x12).items R kl
      cases ev2
      exact hf H2 _ _ p xs2 l vy y.val n Q hp2 al2 ((o2.pre x1 i1).weak R) hz (q _ H2 x2 i2 (.int n))
  · exact h1.elim
end
end PB
set_option Elab.async false
set_option linter.all false
set_option maxRecDepth 100000
set_option maxHeartbeats 4000000
namespace PB
open PySem PySem.Spec PyProof.Rows L2
end PB
namespace PB
open PySem PySem.Spec PyProof.Rows L2
end PB
set_option Elab.async false
set_option linter.all false
set_option maxRecDepth 100000
set_option maxHeartbeats 4000000
namespace PB
open PySem PySem.Spec PyProof.Rows L2
variable [Kts]
section
variable {K : Frag} {O : Addr → Prop} {H : Hp}
theorem AtL.rev : ∀ {xs : List V} {ds : List D}, AtL K O H xs ds → AtL K O H xs.reverse ds.reverse
  | _, _, .nil => .nil
  | _, _, .cons a r => by
    rw [List.reverse_cons, List.reverse_cons]
    exact r.rev.app (.cons a .nil)
end
section
variable {γ ι : Type} {B : Bs γ ι} {W : WX} {X : Cx} {pos : Pos} {a : Expr} {ma : ME γ}
theorem PE.or {e : Expr} {t t' : TE} (h : PE X e t) (h' : PE X e t') : PE X e (fun σ H Q => t σ H Q ∨ t' σ H Q) :=
  ⟨fun pins s σ H Q I q => q.elim (h.run pins s σ H Q I) (h'.run pins s σ H Q I)⟩
end
end PB
set_option Elab.async false
set_option linter.all false
set_option maxRecDepth 100000
set_option maxHeartbeats 4000000
namespace PB
open PySem PySem.Spec PyProof.Rows L2
end PB
set_option Elab.async false
set_option linter.all false
set_option maxRecDepth 100000
set_option maxHeartbeats 4000000
namespace PB
open PySem PySem.Spec PyProof.Rows L2
end PB
set_option Elab.async false
set_option linter.all false
set_option maxRecDepth 100000
set_option maxHeartbeats 4000000
namespace PB
open PySem PySem.Spec PyProof.Rows L2
end PB
set_option Elab.async false
set_option linter.all false
set_option maxRecDepth 100000
set_option maxHeartbeats 4000000
namespace PB
open PySem PySem.Spec PyProof.Rows L2
end PB
set_option Elab.async false
set_option linter.all false
set_option maxRecDepth 100000
set_option maxHeartbeats 4000000
namespace PB
open PySem PySem.Spec PyProof.Rows L2
variable [Kts]
/-- in a suite: the caught exception's address, class, dict -/
abbrev Bs.at {γ ι : Type} (B : Bs γ ι) (xa : Addr × Value × Option Addr) : Bs γ ι := ⟨B.K, B.T, B.fam, B.i, xa⟩
end PB
set_option Elab.async false
set_option linter.all false
set_option maxRecDepth 100000
set_option maxHeartbeats 4000000
namespace PB
open PySem PySem.Spec PyProof.Rows L2
end PB
set_option Elab.async false
set_option linter.all false
set_option maxRecDepth 100000
set_option maxHeartbeats 4000000
namespace PB
open PySem PySem.Spec PyProof.Rows L2
variable [Kts]
def exName : Nat → Str
  | 0 => "BendError" | 1 => "NoWord" | 2 => "NoText" | 3 => "NoFraction" | 4 => "NoPrice" | 5 => "NoPoint" | 6 => "NotLeast" | 7 => "NoLine" | 8 => "NothingDone"
  | 9 => "NotOn" | 10 => "TooLong" | 11 => "TooMany" | 12 => "NoNumber" | _ => "NoName"
def exFld : Nat → Str
  | 9 => "word" | 10 => "letters" | 11 => "many" | 12 => "number" | _ => "name"
def exT (K : Frag) : XT := ⟨fun n => .ref (He.ga K (exName n)), exFld⟩
def seeY (n : Nat) (g : Addr → Option Obj) : Frag := He.frT g (cStatics :: He.asD g n)
def obsY (n : Nat) (fa : List He.Fa) (fn : List He.DefD) (ts : List He.Tab) (ex : Frag → Bool) (g : Addr → Option Obj) : He.AlX := (He.obsT fa fn ts (seeY n g), ex (seeY n g))
def hookY (n : Nat) (fa : List He.Fa) (fn : List He.DefD) (ts : List He.Tab) (ex : Frag → Bool) : PySem.W.Hook where
  α := He.AlX
  obs := fun s => obsY n fa fn ts ex s.heap.get?
  val := fun w => He.valX fn ts w
  says := fun w h => ∃ K : Frag, K.In h ∧ He.SaysX fa fn ts [] ex w h K
  of := fun _ _ e => ⟨_, He.frT_in, ⟨congrArg (fun z : He.AlX => z.1) e, congrArg (fun z : He.AlX => z.2) e, (fun _ z => by cases z), (fun _ z => by cases z), (fun _ z => by cases z)⟩⟩
  keeps := fun _ _ _ ⟨K, hK, c⟩ k => ⟨K, PySem.W.Frag.In.keeps hK k, ⟨c.t, c.more, c.hd, c.out, (fun _ z => by cases z)⟩⟩
theorem obsY_eq {n : Nat} {fa : List He.Fa} {fn : List He.DefD} {ts : List He.Tab} {ex : Frag → Bool} {g : Addr → Option Obj} {s : Shared} (h : ∀ a, g a = s.heap.get? a) : obsY n fa fn ts ex g = (hookY n fa fn ts ex).obs s := by
  have e : g = s.heap.get? := funext h
  rw [e]
  rfl
end PB
set_option Elab.async false
set_option linter.all false
set_option maxRecDepth 100000
set_option maxHeartbeats 4000000
namespace PB
open PySem PySem.Spec PyProof.Rows L2
end PB
set_option Elab.async false
set_option linter.all false
set_option maxHeartbeats 0
namespace PB
open PySem PySem.Spec PyProof.Rows L2
variable [Kts]
variable {γ ι : Type} {B : Bs γ ι}
theorem max_tup {prog : Program} {w : World} {A : Around} {E : Value → Shared → Prop} {s : Shared} {l : Addr} {its : List Value} {ns : List Int} {Q : Value → Shared → Prop} (hh : A.handled = none) (hl : s.heap.IsTuple l its.toArray) (hi : IntsAre its ns) (hne : 0 < ns.length)
    (h : ∀ (h' : Heap) (tk : Nat) (M : Int) (t' : Tok), (∀ (b : Addr) (o : Obj), s.heap.get? b = some o → h'.get? b = some o) → M ∈ ns → (∀ a ∈ ns, a ≤ M) → Q (.int M t') { heap := h', gens := s.gens, drawn := s.drawn, toks := tk, os := s.os }) :
    wpAny (model prog w) A (call (.builtin "max") [.ref l]) Q E s := by
  obtain ⟨xs, e⟩ := AllInts.items hi.allInts
  have hn := hi.numsOf
  rw [show its = (intItems xs).toList by rw [← e], nums_intItems] at hn
  rw [e] at hl
  subst hn
  have hsz : 0 < xs.size := by
    rw [List.length_map, Array.length_toList] at hne
    exact hne
  have hlt : l ≠ s.heap.objs.size := by
    obtain ⟨o, ho, _⟩ := hl
    have := Heap.lt_size ho
    exact Nat.ne_of_lt this
  refine call_max_walk (wpAny_pyIter_tuple hl ?_)
  refine ⟨s.heap.objs.size, [s.heap.objs.size, l], [s.heap.objs.size], (intItems xs).size, fun i v => (intItems xs)[i]? = some v, fun i h => h.IsTupleIter s.heap.objs.size l i ∧ h.IsTuple l (intItems xs), fun i j => decide (numAt xs i > numAt xs j), rfl, Walks.tuple (A := A.in1) hh _ l hlt (intItems xs), ⟨⟨_, Heap.get?_push_size _ rfl, rfl, rfl⟩, Heap.IsTuple.push hl _⟩, ?_, by rw [intItems, Array.size_map]; exact hsz, CmpOf.ints_gt (numAt xs) fun _ _ => intItems_at, ?_⟩
  · intro c hc
    show c < (s.heap.push _).objs.size
    rw [Heap.size_push]
    rcases List.mem_cons.mp hc with e | hc
    · rw [e]
      exact Nat.lt_succ_self _
    · rcases List.mem_cons.mp hc with e | hc
      · rw [e]
        obtain ⟨o, ho, _⟩ := hl
        exact Nat.lt_succ_of_lt (Heap.lt_size ho)
      · cases hc
  · intro v h' tk hP hk
    have e : (intItems xs).size - 1 = xs.size - 1 := by rw [intItems, Array.size_map]
    rw [e] at hP
    obtain ⟨t', rfl⟩ := intItems_at hP
    obtain ⟨h1, h2⟩ := argBest_gt (numAt xs) (xs.size - 1)
    refine h h' tk _ t' (fun c o e => hk c o (fun hm => ?_) (Heap.get?_push_of_some _ e)) ?_ fun a ha => ?_
    · have lt := Heap.lt_size e
      rcases List.mem_cons.mp hm with e | hm
      · rw [e] at lt
        exact Nat.lt_irrefl _ lt
      · cases hm
    · rw [numAt_eq]
      refine PySem.getD_mem ?_
      rw [List.length_map, Array.length_toList]
      omega
    · obtain ⟨j, hj, rfl⟩ := mem_getD ha
      rw [List.length_map, Array.length_toList] at hj
      rw [← numAt_eq]
      exact h2 j (by omega)
theorem cr_maxT {X : Cx} (hc : X.calm = true) : CallR X (.builtin "max") fun vs H Q => ∃ (a : Addr) (ns : List Int), vs = [V.ref a] ∧ (SqL X.K H a (ns.map V.int) ∨ SqT X.K H a (ns.map V.int)) ∧ 0 < ns.length ∧ ∀ M, M ∈ ns → (∀ a ∈ ns, a ≤ M) → Q (V.int M) H := by
  intro pins s σ H vs us Q I r h
  obtain ⟨a, ns, rfl, hs | hs, hne, q⟩ := h
  · exact cr_max hc pins s σ H _ us Q I r ⟨a, ns, rfl, hs, hne, q⟩
  · obtain ⟨its, rv, hl, _⟩ := I.tuple hs
    rw [Vals.ref1 r]
    refine max_tup (I.ok.hd hc) hl (Vals.ints rv) hne fun h' tk m t' hk h1 h2 => ?_
    exact ⟨V.int m, H, I.kept hk, ⟨t', rfl⟩, q m h1 h2⟩
theorem cl_maxA {X : Cx} (hK : B.K = X.K) (hc : X.calm = true) : CallR X (.builtin "max") (fun vs H Q => ∃ (a : Addr) (ns : List Int), vs = [V.ref a] ∧ (SqL B.K H a (ns.map V.int) ∨ SqT B.K H a (ns.map V.int)) ∧ 0 < ns.length ∧ ∀ M, M ∈ ns → (∀ a ∈ ns, a ≤ M) → Q (V.int M) H) := by
  rw [hK]
  exact cr_maxT hc
theorem os_maxA : OpSN B oMaxA (fun vs H Q => ∃ (a : Addr) (ns : List Int), vs = [V.ref a] ∧ (SqL B.K H a (ns.map V.int) ∨ SqT B.K H a (ns.map V.int)) ∧ 0 < ns.length ∧ ∀ M, M ∈ ns → (∀ a ∈ ns, a ≤ M) → Q (V.int M) H) := by
  intro S e g g1 σ H0 H xs z vs Q R x0 i1 os hz hq
  have fin : ∀ (n : Int) (ns : List Int) (m : Int), m ∈ n :: ns → (∀ a ∈ n :: ns, a ≤ m) → m = lmax n ns := by
    intro n ns m hm hle
    obtain ⟨h1, h2⟩ := lmax_mem n ns
    have := hle _ h1
    have := h2 _ hm
    omega
  unfold oMaxA at hz
  split at hz
  · split at hz
    · rename_i x ds k
      split at hz
      · rename_i n ns e2
        cases hz
        cases os with
        | cons o os =>
        cases os
        unfold Rv.seqI at k
        split at k
        · cases k
          cases o with
          | @tup p xs _ k al =>
          have ki := al.dInts e2
          subst ki
          refine ⟨p, n :: ns, rfl, .inr ?_, Nat.succ_pos _, fun m hm hle => ?_⟩
          · exact tup_seq k
          · rw [fin n ns m hm hle]
            exact hq _ H (.inl rfl) (.int _)
        · obtain ⟨p, ys, rfl, hp, ap⟩ := o.items R k
          rw [ap.dInts e2] at hp
          refine ⟨p, n :: ns, rfl, .inl (SqL.of hp), Nat.succ_pos _, fun m hm hle => ?_⟩
          rw [fin n ns m hm hle]
          exact hq _ H (.inl rfl) (.int _)
      · cases hz
    · cases hz
  · cases hz
end PB
set_option Elab.async false
set_option linter.all false
set_option maxRecDepth 100000
set_option maxHeartbeats 4000000
namespace PB
open PySem PySem.Spec PyProof.Rows L2
end PB
set_option Elab.async false
set_option linter.all false
set_option maxRecDepth 100000
set_option maxHeartbeats 4000000
namespace PB
open PySem PySem.Spec PyProof.Rows L2
end PB
set_option Elab.async false
set_option linter.all false
set_option maxRecDepth 100000
set_option maxHeartbeats 4000000
namespace PB
open PySem PySem.Spec PyProof.Rows L2
end PB
set_option Elab.async false
set_option linter.all false
set_option maxRecDepth 100000
set_option maxHeartbeats 4000000
namespace PB
open PySem PySem.Spec PyProof.Rows L2
end PB
set_option Elab.async false
set_option linter.all false
set_option maxRecDepth 100000
set_option maxHeartbeats 4000000
namespace PB
open PySem PySem.Spec PyProof.Rows L2
variable [Kts]
section
variable {γ ι : Type} {B : Bs γ ι} {W : WX} {X : Cx} {pos : Pos} {a : Expr} {es : List Expr} {mr : MA γ}
theorem pb_insert {i : Nat} {x : Str} {px apos : Pos} (hK : B.K = X.K) (hN : X.N[i]? = some x) (ha : PA X (a :: es) (RA B W mr)) (hv : Vis X.env.scope x := by first | exact Or.inl rfl | exact Or.inr (Or.inl rfl)) (hd : (x == ("__debug__" : Str)) = false := by decide) (hcd : (x == ("__classdict__" : Str)) = false := by decide)
    (hbase : attributeBase (.Name x px) "insert" X.env (eval (.Name x px) X.env) = eval (.Name x px) X.env := by rfl)
    (hfew : ((backTo pos (starEach (a :: es) X.env)).all (fun x => !x.1) && (backToKw pos (keywordEach [] X.env)).all (fun x => x.1.isSome)
      && decide ((a :: es).length + ([] : List Keyword).length + (if ([] : List Keyword).isEmpty then 0 else 1) < 30)) = true := by rfl)
    (hline : (apos.endLine == pos.line) = true := by rfl) (hs : starEach (a :: es) X.env = (false, eval a X.env) :: starEach es X.env := by rfl) (hplain : (backTo pos (starEach es X.env)).any (·.1) = false := by rfl) {epos : Pos}
    (hsw : swapsWith (.Call (.Attribute (.Name x px) "insert" apos) (a :: es) [] pos) none epos.line X.env = pure false := by rfl) :
    PS X (.Expr (.Call (.Attribute (.Name x px) "insert" apos) (a :: es) [] pos) epos) (RS B W (mIns i mr)) := by
  refine ps_w (ps_expr (pe_bm PySem.F.plainAttrs_list PySem.F.slot_list_insert PySem.F.type_list_insert mt_insert (pe_var hN hv hd hcd) ha hbase hfew hline hs hplain) hsw) fun Dd σ H ⟨S, e, g, R, h⟩ => ?_
  unfold mIns at h
  have sl := R.sl i
  cases k : gt e i with
  | un =>
    rw [k] at h
    exact h.elim
  | dat d =>
    rw [k] at h
    exact h.elim
  | xc y =>
    rw [k] at h
    exact h.elim
  | gh y =>
    rw [k] at h
    exact h.elim
  | owd tt ks vs =>
    rw [k] at h
    exact h.elim
  | own ds =>
    rw [k] at h sl
    obtain ⟨p, xs, ev, hp, al⟩ := sl
    refine ⟨.ref p, ev, .inl ⟨rfl, xs, SqL.of hp⟩, S, e, g, R, RSK.bind R h fun ys g1 vs H1 x1 i1 o1 h1 => ?_⟩
    have R1 := R.exe x1 i1
    split at h1
    · rename_i n y
      split at h1
      · rename_i d ks
        split at h1
        · rename_i hz
          cases o1 with
          | cons ok os =>
          cases os with
          | cons oy os =>
          cases os
          cases ok
          have op : OwnA e σ p := .of k rfl ev
          have hp1 : H1 p = some (.lst xs) := x1 p _ hp (R.notF op)
          have al1 := R.atL x1 al
          obtain ⟨R2, s2⟩ := R1.upd_own (es := ds.take n.toNat ++ [d] ++ ds.drop n.toNat) k ev (((al1.take n.toNat).app (.cons (oy.sto R ks) .nil)).app (al1.drop n.toNat))
          exact ⟨p, xs, n, _, rfl, rfl, hp1, by rw [al1.length]; exact szlt hz.1, hz.2.1, by have := hz.2.2; omega, h1 _ _ R2 (.trans R1 (.exe R x1) s2)⟩
        · exact h1.elim
      · exact h1.elim
    · exact h1.elim
end
end PB
set_option Elab.async false
set_option linter.all false
set_option maxRecDepth 100000
set_option maxHeartbeats 4000000
namespace PB
open PySem PySem.Spec PyProof.Rows L2
variable [Kts]
open PySem.W (alike alikeAll dataLt keyToks keyToksAll AlikeAll dataLt_int dataLt_str dataLt_tuple dataLt_cons)
theorem lexN_lt : ∀ a b : List Nat, decide (a < b) = lexN a b
  | [], [] => by simp [lexN]
  | [], _ :: _ => by simp [lexN]
  | _ :: _, [] => by simp [lexN]
  | x :: xs, y :: ys => by
    unfold lexN
    by_cases h : x = y
    · subst h
      rw [if_pos rfl, ← lexN_lt xs ys]
      simp [List.cons_lt_cons_iff]
    · rw [if_neg h]
      simp [List.cons_lt_cons_iff, h]
mutual
theorem alk_toPy : ∀ x y : D, alkD x y = true → alike (toPy x) (toPy y) = true
  | .int _, .int _, _ => rfl
  | .str _, .str _, _ => rfl
  | .tup xs, .tup ys, h => alkL_toPy xs ys (by simpa [alkD] using h)
  | .non, _, h => by simp [alkD] at h
  | .bl _, _, h => by simp [alkD] at h
  | .lst _, _, h => by simp [alkD] at h
  | .ref _, _, h => by simp [alkD] at h
  | .int _, .non, h => by simp [alkD] at h
  | .int _, .bl _, h => by simp [alkD] at h
  | .int _, .str _, h => by simp [alkD] at h
  | .int _, .tup _, h => by simp [alkD] at h
  | .int _, .lst _, h => by simp [alkD] at h
  | .int _, .ref _, h => by simp [alkD] at h
  | .str _, .non, h => by simp [alkD] at h
  | .str _, .bl _, h => by simp [alkD] at h
  | .str _, .int _, h => by simp [alkD] at h
  | .str _, .tup _, h => by simp [alkD] at h
  | .str _, .lst _, h => by simp [alkD] at h
  | .str _, .ref _, h => by simp [alkD] at h
  | .tup _, .non, h => by simp [alkD] at h
  | .tup _, .bl _, h => by simp [alkD] at h
  | .tup _, .int _, h => by simp [alkD] at h
  | .tup _, .str _, h => by simp [alkD] at h
  | .tup _, .lst _, h => by simp [alkD] at h
  | .tup _, .ref _, h => by simp [alkD] at h
theorem alkL_toPy : ∀ xs ys : List D, alkL xs ys = true → alikeAll (toPyL xs) (toPyL ys) = true
  | [], [], _ => rfl
  | [], _ :: _, _ => rfl
  | _ :: _, [], _ => rfl
  | x :: xs, y :: ys, h => by
    simp only [alkL, Bool.and_eq_true] at h
    show (W.alike (toPy x) (toPy y) && alikeAll (toPyL xs) (toPyL ys)) = true
    rw [alk_toPy x y h.1, alkL_toPy xs ys h.2]
    rfl
end
theorem okE_tup {ds : List D} (h : ∃ n, okE n (.tup ds) = true) : ∃ n, okL n ds = true := by
  obtain ⟨n, h⟩ := h
  cases n <;> simp [okE] at h
  exact ⟨_, h⟩
theorem okL_cons {d : D} {ds : List D} (h : ∃ n, okL n (d :: ds) = true) : (∃ n, okE n d = true) ∧ ∃ n, okL n ds = true := by
  obtain ⟨n, h⟩ := h
  simp only [okL, Bool.and_eq_true] at h
  exact ⟨⟨n, h.1⟩, n, h.2⟩
mutual
theorem lt_toPy : ∀ x y : D, alkD x y = true → (∃ n, okE n x = true) → (∃ n, okE n y = true) → dataLt (toPy x) (toPy y) = ltD x y
  | .int i, .int j, _, _, _ => by rw [show toPy (.int i) = .int i from rfl, show toPy (.int j) = .int j from rfl, dataLt_int]; rfl
  | .str s, .str t, _, _, _ => by
    rw [show toPy (.str s) = .str (mkS s) from rfl, show toPy (.str t) = .str (mkS t) from rfl, dataLt_str, mkS_list, mkS_list, lexN_lt]
    rfl
  | .tup xs, .tup ys, h, hx, hy => by
    rw [show toPy (.tup xs) = .tuple (toPyL xs) from rfl, show toPy (.tup ys) = .tuple (toPyL ys) from rfl, dataLt_tuple]
    exact ltL_toPy xs ys (by simpa [alkD] using h) (okE_tup hx) (okE_tup hy)
  | .non, _, h, _, _ => by simp [alkD] at h
  | .bl _, _, h, _, _ => by simp [alkD] at h
  | .lst _, _, h, _, _ => by simp [alkD] at h
  | .ref _, _, h, _, _ => by simp [alkD] at h
  | .int _, .non, h, _, _ => by simp [alkD] at h
  | .int _, .bl _, h, _, _ => by simp [alkD] at h
  | .int _, .str _, h, _, _ => by simp [alkD] at h
  | .int _, .tup _, h, _, _ => by simp [alkD] at h
  | .int _, .lst _, h, _, _ => by simp [alkD] at h
  | .int _, .ref _, h, _, _ => by simp [alkD] at h
  | .str _, .non, h, _, _ => by simp [alkD] at h
  | .str _, .bl _, h, _, _ => by simp [alkD] at h
  | .str _, .int _, h, _, _ => by simp [alkD] at h
  | .str _, .tup _, h, _, _ => by simp [alkD] at h
  | .str _, .lst _, h, _, _ => by simp [alkD] at h
  | .str _, .ref _, h, _, _ => by simp [alkD] at h
  | .tup _, .non, h, _, _ => by simp [alkD] at h
  | .tup _, .bl _, h, _, _ => by simp [alkD] at h
  | .tup _, .int _, h, _, _ => by simp [alkD] at h
  | .tup _, .str _, h, _, _ => by simp [alkD] at h
  | .tup _, .lst _, h, _, _ => by simp [alkD] at h
  | .tup _, .ref _, h, _, _ => by simp [alkD] at h
theorem ltL_toPy : ∀ xs ys : List D, alkL xs ys = true → (∃ n, okL n xs = true) → (∃ n, okL n ys = true) → PyProof.Rows.lexLt itemOrd (keyToksAll (toPyL xs)) (keyToksAll (toPyL ys)) = ltL xs ys
  | [], [], _, _, _ => by rfl
  | [], y :: ys, _, _, _ => by
    show PyProof.Rows.lexLt itemOrd [.inl 0] (.inl 1 :: (keyToks (toPy y) ++ keyToksAll (toPyL ys))) = true
    rfl
  | x :: xs, [], _, _, _ => by
    show PyProof.Rows.lexLt itemOrd (.inl 1 :: (keyToks (toPy x) ++ keyToksAll (toPyL xs))) [.inl 0] = false
    rfl
  | x :: xs, y :: ys, h, hx, hy => by
    simp only [alkL, Bool.and_eq_true] at h
    show PyProof.Rows.lexLt itemOrd (keyToksAll (toPy x :: toPyL xs)) (keyToksAll (toPy y :: toPyL ys)) = _
    rw [dataLt_cons (alk_toPy x y h.1), eqv_toPy x y (okL_cons hx).1 (okL_cons hy).1, ltL_toPy xs ys h.2 (okL_cons hx).2 (okL_cons hy).2, lt_toPy x y h.1 (okL_cons hx).1 (okL_cons hy).1]
    rfl
end
theorem alk_ne {x y : D} (h : alkD x y = true) : toPy x ≠ .none := by
  cases x with
  | int i => exact fun z => by cases z
  | str i => exact fun z => by cases z
  | tup i => exact fun z => by cases z
  | _ => simp [alkD] at h
theorem alkAll_mem {ds : List D} (h : alkAll ds = true) {x y : D} (hx : x ∈ ds) (hy : y ∈ ds) : alkD x y = true :=
  List.all_eq_true.mp (List.all_eq_true.mp h x hx) y hy
theorem toPyL_map : ∀ ds : List D, toPyL ds = ds.map toPy
  | [] => rfl
  | d :: ds => by
    show toPy d :: toPyL ds = toPy d :: ds.map toPy
    rw [toPyL_map ds]
theorem alkAll_toPy {ds : List D} (h : alkAll ds = true) : AlikeAll (toPyL ds) := by
  rw [toPyL_map]
  refine ⟨fun x hx y hy => ?_, fun x hx => ?_⟩
  · obtain ⟨a, ha, rfl⟩ := List.mem_map.mp hx
    obtain ⟨b, hb, rfl⟩ := List.mem_map.mp hy
    exact alk_toPy a b (alkAll_mem h ha hb)
  · obtain ⟨a, ha, rfl⟩ := List.mem_map.mp hx
    exact alk_ne (alkAll_mem h ha ha)
theorem okL_mem {n : Nat} : ∀ {ds : List D}, okL n ds = true → ∀ d ∈ ds, okE n d = true
  | [], _, d, h => by cases h
  | x :: xs, h, d, hd => by
    simp only [okL, Bool.and_eq_true] at h
    rcases List.mem_cons.mp hd with rfl | hd
    · exact h.1
    · exact okL_mem h.2 d hd
theorem minD_mem : ∀ (ds : List D) (d : D), minD d ds ∈ d :: ds
  | [], d => List.mem_cons_self
  | x :: xs, d => by
    unfold minD
    have := minD_mem xs (if ltD x d = true then x else d)
    rcases List.mem_cons.mp this with h | h
    · rw [h]
      split
      · exact List.mem_cons_of_mem _ List.mem_cons_self
      · exact List.mem_cons_self
    · exact List.mem_cons_of_mem _ (List.mem_cons_of_mem _ h)
theorem minD_toPy {S : List D} (hS : alkAll S = true) (ho : okL 59 S = true) : ∀ (ds : List D) (d : D), d ∈ S → (∀ x ∈ ds, x ∈ S) → W.minD (toPy d) (toPyL ds) = toPy (minD d ds)
  | [], d, _, _ => rfl
  | x :: xs, d, hd, hx => by
    have hxS := hx x List.mem_cons_self
    have e : (if dataLt (toPy x) (toPy d) then toPy x else toPy d) = toPy (if ltD x d = true then x else d) := by
      rw [lt_toPy x d (alkAll_mem hS hxS hd) ⟨59, okL_mem ho x hxS⟩ ⟨59, okL_mem ho d hd⟩]
      cases ltD x d <;> rfl
    show W.minD (if dataLt (toPy x) (toPy d) then toPy x else toPy d) (toPyL xs) = _
    rw [e, minD_toPy hS ho xs _ (by split <;> assumption) fun y hy => hx y (List.mem_cons_of_mem _ hy)]
    rfl
mutual
theorem toPy_inj : ∀ {x y : D}, (∃ n, okE n x = true) → (∃ n, okE n y = true) → toPy x = toPy y → x = y
  | .non, y, _, hy, h => by
    cases y with
    | non => rfl
    | ref _ =>
      obtain ⟨n, hy⟩ := hy
      cases n <;> simp [okE] at hy
    | dct _ _ _ =>
      obtain ⟨n, hy⟩ := hy
      cases n <;> simp [okE] at hy
    | _ => cases h
  | .bl _, y, _, hy, h => by cases y <;> first | (cases h; rfl) | cases h
  | .int _, y, _, hy, h => by cases y <;> first | (cases h; rfl) | cases h
  | .str l, y, _, hy, h => by
    cases y with
    | str m => rw [mkS_inj (PyData.str.inj h)]
    | _ => cases h
  | .tup xs, y, hx, hy, h => by
    cases y with
    | tup ys => rw [toPyL_inj (okE_tup hx) (okE_tup hy) (PyData.tuple.inj h)]
    | _ => cases h
  | .lst xs, y, hx, hy, h => by
    cases y with
    | lst ys => rw [toPyL_inj (by obtain ⟨n, hx⟩ := hx; cases n <;> simp [okE] at hx; exact ⟨_, hx⟩) (by obtain ⟨n, hy⟩ := hy; cases n <;> simp [okE] at hy; exact ⟨_, hy⟩) (PyData.list.inj h)]
    | _ => cases h
  | .ref _, _, hx, _, _ => by obtain ⟨n, h⟩ := hx; cases n <;> simp [okE] at h
theorem toPyL_inj : ∀ {xs ys : List D}, (∃ n, okL n xs = true) → (∃ n, okL n ys = true) → toPyL xs = toPyL ys → xs = ys
  | [], [], _, _, _ => rfl
  | [], _ :: _, _, _, h => by cases h
  | _ :: _, [], _, _, h => by cases h
  | x :: xs, y :: ys, hx, hy, h => by
    have h : toPy x :: toPyL xs = toPy y :: toPyL ys := h
    rw [toPy_inj (okL_cons hx).1 (okL_cons hy).1 (List.cons.inj h).1, toPyL_inj (okL_cons hx).2 (okL_cons hy).2 (List.cons.inj h).2]
end
theorem Paired.get2 {α β : Type} {F : α → β → Prop} : ∀ {xs : List α} {ys : List β} {i : Nat} {y : β}, Paired F xs ys → ys[i]? = some y → ∃ x, xs[i]? = some x ∧ F x y
  | _, _, _, _, .nil, h => by simp at h
  | _, _, 0, _, .cons r _, h => by
    simp at h
    subst h
    exact ⟨_, rfl, r⟩
  | _, _, i + 1, y, .cons _ t, h => by
    obtain ⟨x, e, q⟩ := Paired.get2 (i := i) (y := y) t (by simpa using h)
    exact ⟨x, by simpa using e, q⟩
section
variable {γ ι : Type} {B : Bs γ ι} {X : Cx}
def rMinT (K : Frag) : List V → Hp → VK → Prop := fun vs H Q => ∃ (O : Addr → Prop) (a : Addr) (xs : List V) (d : D) (ds : List D), vs = [V.ref a] ∧ (SqL K H a xs ∨ SqT K H a xs) ∧ AtL K O H xs (d :: ds) ∧ alkAll (d :: ds) = true ∧ okL 59 (d :: ds) = true ∧
  ∀ (i : Nat) (v : V), xs[i]? = some v → (d :: ds)[i]? = some (minD d ds) → Q v H
theorem cr_minD (hc : X.calm = true) (hu : X.A.units + 65 < cLine) : CallR X (.builtin "min") (rMinT X.K) := by
  intro pins s σ H vs us Q I r h
  obtain ⟨O, a, xs, d, ds, rfl, hs, al, hk, ho, q⟩ := h
  rw [Vals.ref1 r]
  obtain ⟨hy, hd⟩ := layL_of al ho
  have fin : ∀ (its : List Value) (as : List Addr), Vals xs its → ReadsAll s.heap its (toPyL (d :: ds)) as → ∀ (i : Nat) v h' tk bs, its.toArray[i]? = some v → Reads h' v (W.minD (toPy d) (toPyL ds)) bs → (∀ b o, s.heap.get? b = some o → h'.get? b = some o) → EP X pins σ Q v { s with heap := h', toks := tk } := by
    intro its as rv rd i v h' tk bs hv rm hkp
    rw [List.getElem?_toArray] at hv
    obtain ⟨x, hx, rx⟩ := Paired.get2 rv hv
    obtain ⟨e, he, ae⟩ := al.get' hx
    have hem : e ∈ d :: ds := List.mem_of_getElem? he
    obtain ⟨cs, rc⟩ := Dp.reads I (toPy e) x v (dp_of ae (okL_mem ho e hem)) rx
    have ee : toPy e = toPy (minD d ds) := by
      rw [← minD_toPy hk ho ds d List.mem_cons_self fun x hx => List.mem_cons_of_mem _ hx]
      exact SeqAt.Reads.unique _ _ v cs bs (lay_of ae (okL_mem ho e hem)).1 (Reads.keeps hkp rc) rm
    have e2 : e = minD d ds := toPy_inj ⟨59, okL_mem ho e hem⟩ ⟨59, okL_mem ho _ (minD_mem ds d)⟩ ee
    exact ⟨x, H, I.kept hkp, rx, q i x hx (by rw [← e2]; exact he)⟩
  have hu' : X.A.units + 1 + PyData.depthAll (toPy d :: toPyL ds) < cLine := by
    have hd : PyData.depthAll (toPy d :: toPyL ds) ≤ 59 := hd
    omega
  rcases hs with hs | hs
  · obtain ⟨its, rv, pl, _⟩ := I.list hs
    obtain ⟨as, rd⟩ := Dp.readsAll I (toPyL (d :: ds)) xs its (dpL_of al ho) rv
    obtain ⟨o, n, e, c, _, dd⟩ := pl
    exact W.min_list_data (I.ok.hd hc) ⟨o, e, c, n, dd⟩ (show ReadsAll s.heap its.toArray.toList (toPy d :: toPyL ds) as from rd) (alkAll_toPy hk) hu' (fin its as rv rd)
  · obtain ⟨its, rv, pl, _⟩ := I.tuple hs
    obtain ⟨as, rd⟩ := Dp.readsAll I (toPyL (d :: ds)) xs its (dpL_of al ho) rv
    exact W.min_tuple_data (I.ok.hd hc) pl (show ReadsAll s.heap its.toArray.toList (toPy d :: toPyL ds) as from rd) (alkAll_toPy hk) hu' (fin its as rv rd)
theorem cl_minT (hK : B.K = X.K) (hc : X.calm = true) (hu : X.A.units + 65 < cLine) : CallR X (.builtin "min") (rMinT B.K) := by
  rw [hK]
  exact cr_minD hc hu
theorem os_minT : OpSN B oMinT (rMinT B.K) := by
  intro S e g g1 σ H0 H xs z vs Q R x0 i1 os hz hq
  unfold oMinT at hz
  split at hz
  · split at hz
    · rename_i x d ds k
      split at hz
      · rename_i hc
        cases hz
        cases os with
        | cons o os =>
        cases os
        have fin : ∀ (p : Addr) (ys : List V), (SqL B.K H p ys ∨ SqT B.K H p ys) → AtL B.K (Om ⟨B, S⟩ e σ) H ys (d :: ds) → rMinT B.K [.ref p] H Q := by
          intro p ys hs al
          refine ⟨_, p, ys, d, ds, rfl, hs, al, hc.1, hc.2, fun i v hv hi => ?_⟩
          obtain ⟨w, hw, aw⟩ := al.get hi
          rw [hv] at hw
          cases hw
          exact hq v H (.inl rfl) aw
        unfold Rv.seqI at k
        split at k
        · cases k
          cases o with
          | @tup p xs _ k al => exact fin p xs (.inr (tup_seq k)) al
        · obtain ⟨p, ys, rfl, hp, ap⟩ := o.items R k
          exact fin p ys (.inl (SqL.of hp)) ap
      · cases hz
    · cases hz
  · cases hz
/-- a < b -/
def rLtD (K : Frag) : R2 := fun x y H Q => ∃ (O : Addr → Prop) (dx dy : D), At K O H x dx ∧ At K O H y dy ∧ alkD dx dy = true ∧ okE 60 dx = true ∧ okE 60 dy = true ∧ Q (.bl (ltD dx dy)) H
theorem op_ltD (hu : X.A.units + 65 < cLine) : OpR X (compareOp .Lt) (rLtD X.K) := by
  intro pins s σ H x y v u Q I rx ry h
  obtain ⟨O, dx, dy, ax, ay, hk, ox, oy, q⟩ := h
  obtain ⟨as, r1⟩ := Dp.reads I _ x v (dp_of ax ox) rx
  obtain ⟨bs, r2⟩ := Dp.reads I _ y u (dp_of ay oy) ry
  refine W.lt_data r1 r2 (alk_toPy _ _ hk) (alk_ne hk) ?_ ?_
  · have := (lay_of ax ox).2
    omega
  · rw [lt_toPy dx dy hk ⟨_, ox⟩ ⟨_, oy⟩]
    exact ⟨.bl _, H, I, rfl, q⟩
theorem or_ltD (hK : B.K = X.K) (hu : X.A.units + 65 < cLine) : OpR X (compareOp .Lt) (rLtD B.K) := by
  rw [hK]
  exact op_ltD hu
theorem os_ltD : OpS2 B oLtD (rLtD B.K) := by
  intro S e g g1 σ H0 H x y z vx vy Q R x0 i1 ox oy hz hq
  unfold oLtD at hz
  split at hz
  · rename_i hc
    cases hz
    exact ⟨S, x.val, y.val, VOk.weak R ox, VOk.weak R oy, hc.1, hc.2.1, hc.2.2, hq _ H (.inl rfl) (.bl _)⟩
  · cases hz
end
end PB
set_option Elab.async false
set_option linter.all false
set_option maxRecDepth 100000
set_option maxHeartbeats 4000000
namespace PB
open PySem PySem.Spec PyProof.Rows L2
variable [Kts]
section
variable {K : Frag} {O : Addr → Prop} {H : Hp}
/-- a key as it stands -/
def KeyAt (H : Hp) : Bool → V → D → Prop
  | true, y, d => ∃ (k : List Key) (b : Addr), y = .ref b ∧ H b = some (.tup (k.map kV)) ∧ d = .tup (k.map keyD)
  | false, y, d => ∃ k : Key, y = kV k ∧ d = keyD k
theorem KeyAt.go {H' : Hp} {t : Bool} {y : V} {d : D} (h : KeyAt H t y d) (k : ∀ b o, H b = some o → (∃ xs, o = .tup xs) → H' b = some o) : KeyAt H' t y d := by
  cases t with
  | false => exact h
  | true =>
    obtain ⟨q, b, e1, e2, e3⟩ := h
    exact ⟨q, b, e1, k _ _ e2 ⟨_, rfl⟩, e3⟩
end
section
variable {γ ι : Type} {B : Bs γ ι} {W : WX} {X : Cx} {pos px : Pos} {a ke : Expr} {ma mk mz : ME γ} {i : Nat} {x : Str}
/-- what a slot that holds a dict holds -/
theorem Rep.dct {A : Act γ ι} {e : Env} {g : γ} {σ : L2.St} {H : Hp} (R : Rep A e g σ H) {t : Bool} {ks vs : List D} (h : dctOf (gt e i) = some (t, ks, vs)) : ∃ p us, σ[i]? = some (some (.ref p)) ∧ DiS H p t ks us ∧ AtL A.K (Om A e σ) H us vs := by
  have q := R.sl i
  cases k : gt e i with
  | owd t' ks' vs' =>
    rw [k] at h q
    cases h
    obtain ⟨p, us, e1, e2, e3⟩ := q
    exact ⟨p, us, e1, e2, e3⟩
  | dat d =>
    rw [k] at h q
    obtain ⟨v, e1, a⟩ := q
    cases d with
    | dct t' ks' vs' =>
      cases h
      cases a with
      | dct h1 h2 h3 => exact ⟨_, _, e1, h1, h3⟩
    | _ => cases h
  | _ =>
    rw [k] at h
    cases h
end
end PB
set_option Elab.async false
set_option linter.all false
set_option maxRecDepth 100000
set_option maxHeartbeats 4000000
namespace PB
open PySem PySem.Spec PyProof.Rows L2
end PB
set_option Elab.async false
set_option linter.all false
set_option maxRecDepth 100000
set_option maxHeartbeats 4000000
namespace PB
open PySem PySem.Spec PyProof.Rows L2
variable [Kts]
section
variable {γ ι : Type} {B : Bs γ ι} {W : WX} {X : Cx} {pos : Pos} {tg a b c : Expr} {ma : ME γ} {mr : MA γ}
theorem pb_range2 {p : Pos} (hg : Gl X "range") (hm : X.mg "range" = none) (ha : PA X [a, b] (RA B W mr)) (hs : starEach [a, b] X.env = [(false, eval a X.env), (false, eval b X.env)] := by rfl) (hs2 : starEach [b] X.env = [(false, eval b X.env)] := by rfl) (hl : ∀ e g rs g', mr e g = .ok rs g' → rs.length = 2) :
    PI X tg (.Call (.Name "range" p) [a, b] [] pos) (RI B W (mRangeA mr)) := by
  refine pi_w (pi_range2 hg hm ha hs hs2) fun σ H Q ⟨S, e, g, R, h⟩ => ?_
  refine ⟨S, e, g, R, ?_⟩
  unfold mRangeA at h
  cases q : mr e g with
  | no =>
    rw [q] at h
    exact h
  | ex y g1 =>
    rw [q] at h
    exact h
  | ok xs g1 =>
    rw [q] at h
    intro vs H1 x1 i1 o1
    have h1 : RK PIt ⟨B, S⟩ W e σ H (ofO (rngA xs) g1) Q := h
    obtain ⟨ds, k, h1⟩ := h1.ofO
    have hl2 := hl _ _ _ _ q
    unfold rngA at k
    split at k
    · split at k
      · rename_i hc
        cases k
        cases o1 with
        | cons oa os =>
        cases os with
        | cons ob os =>
        cases os
        cases oa
        cases ob
        exact ⟨_, _, rfl, ⟨(rngOk_bd hc.1).1, (rngOk_bd hc.1).2, (rngOk_bd hc.2).1, (rngOk_bd hc.2).2⟩, h1 _ H1 x1 i1 (it_rng _ _)⟩
      · cases k
    · cases hl2
    · cases k
end
end PB
set_option Elab.async false
set_option linter.all false
set_option maxRecDepth 100000
set_option maxHeartbeats 4000000
namespace PB
open PySem PySem.Spec PyProof.Rows L2
open PySem.W (alike alikeAll dataLt keyToks keyToksAll AlikeAll AllAlike Sortable EachIs)
end PB
set_option Elab.async false
set_option linter.all false
set_option maxRecDepth 100000
set_option maxHeartbeats 4000000
namespace PB
open PySem PySem.Spec PyProof.Rows L2
variable [Kts]
inductive ScL : List V → List D → Prop
  | nil : ScL [] []
  | cons {v : V} {d : D} {vs : List V} {ds : List D} (h : ScV v d) (hs : ScL vs ds) : ScL (v :: vs) (d :: ds)
/-- a scalar, or a tuple of such -/
inductive It1 (K : Frag) (H : Hp) : V → D → Prop
  | sc {v : V} {d : D} (h : ScV v d) : It1 K H v d
  | tup {a : Addr} {xs : List V} {ds : List D} (h : H a = some (.tup xs) ∨ KT K a xs) (hs : ScL xs ds) : It1 K H (.ref a) (.tup ds)
inductive ItL (K : Frag) (H : Hp) : List V → List D → Prop
  | nil : ItL K H [] []
  | cons {v : V} {d : D} {vs : List V} {ds : List D} (h : It1 K H v d) (hs : ItL K H vs ds) : ItL K H (v :: vs) (d :: ds)
section
variable {K : Frag} {O : Addr → Prop} {H H' : Hp}
theorem ScL.at : ∀ {xs : List V} {ds : List D}, ScL xs ds → AtL K O H xs ds
  | _, _, .nil => .nil
  | _, _, .cons h hs => .cons h.at hs.at
/-- nothing that is nobody's is a list: tuples are free of owners -/
theorem It1.at {v : V} {d : D} (h : It1 K H v d) (k : ∀ a, O a → Stk (H a)) : At K O H v d := by
  cases h with
  | sc h => exact h.at
  | tup h hs => exact .tup (h.elim (fun z => .inl ⟨z, fun o => (k _ o).notT _ z⟩) .inr) hs.at
theorem It1.go {v : V} {d : D} (h : It1 K H v d) (k : ∀ a xs, H a = some (.tup xs) → H' a = some (.tup xs)) : It1 K H' v d := by
  cases h with
  | sc h => exact .sc h
  | tup h hs => exact .tup (h.elim (fun z => .inl (k _ _ z)) .inr) hs
theorem ItL.go (k : ∀ a xs, H a = some (.tup xs) → H' a = some (.tup xs)) : ∀ {vs : List V} {ds : List D}, ItL K H vs ds → ItL K H' vs ds
  | _, _, .nil => .nil
  | _, _, .cons h hs => .cons (h.go k) (hs.go k)
theorem ItL.length : ∀ {vs : List V} {ds : List D}, ItL K H vs ds → vs.length = ds.length
  | _, _, .nil => rfl
  | _, _, .cons _ hs => by rw [List.length_cons, List.length_cons, hs.length]
theorem ItL.get : ∀ {vs : List V} {ds : List D} {i : Nat} {d : D}, ItL K H vs ds → ds[i]? = some d → ∃ v, vs[i]? = some v ∧ It1 K H v d
  | _, _, 0, _, .cons h _, e => by
    cases e
    exact ⟨_, rfl, h⟩
  | _, _, i + 1, _, .cons _ hs, e => hs.get (i := i) e
theorem ItL.set : ∀ {vs : List V} {ds : List D} {i : Nat} {v : V} {d : D}, ItL K H vs ds → It1 K H v d → ItL K H (vs.set i v) (ds.set i d)
  | _, _, _, _, _, .nil, _ => .nil
  | _, _, 0, _, _, .cons _ hs, h => .cons h hs
  | _, _, i + 1, _, _, .cons h0 hs, h => .cons h0 (hs.set (i := i) h)
theorem ItL.at (k : ∀ a, O a → Stk (H a)) : ∀ {xs : List V} {ds : List D}, ItL K H xs ds → AtL K O H xs ds
  | _, _, .nil => .nil
  | _, _, .cons h hs => .cons (h.at k) (hs.at k)
end
/-- where it stands: the list, its rows -/
structure NA where
  p : Addr
  ps : List Addr
structure NlAt (K : Frag) (na : NA) (n : NL) (H : Hp) : Prop where
  hp : H na.p = some (.lst (na.ps.map V.ref))
  len : na.ps.length = n.length
  row : ∀ (i : Nat) (a : Addr) (ds : List D), na.ps[i]? = some a → n[i]? = some ds → ∃ xs, H a = some (.lst xs) ∧ ItL K H xs ds
  nd : na.ps.Nodup
  np : na.p ∉ na.ps
theorem NlAt.go {K : Frag} {na : NA} {n : NL} {H H' : Hp} (h : NlAt K na n H) (k : ∀ a, a = na.p ∨ a ∈ na.ps → H' a = H a) (t : ∀ a xs, H a = some (.tup xs) → H' a = some (.tup xs)) : NlAt K na n H' where
  hp := by rw [k _ (.inl rfl)]; exact h.hp
  len := h.len
  row := fun i a ds h1 h2 => by
    obtain ⟨xs, e, al⟩ := h.row i a ds h1 h2
    exact ⟨xs, by rw [k a (.inr (List.mem_of_getElem? h1))]; exact e, al.go t⟩
  nd := h.nd
  np := h.np
theorem NlAt.lst {K : Frag} {na : NA} {n : NL} {H : Hp} (h : NlAt K na n H) {a : Addr} (m : a = na.p ∨ a ∈ na.ps) : ∃ xs, H a = some (.lst xs) := by
  rcases m with rfl | m
  · exact ⟨_, h.hp⟩
  · obtain ⟨i, hi⟩ := List.getElem?_of_mem m
    have hl : i < n.length := by
      rw [← h.len]
      exact (List.getElem?_eq_some_iff.mp hi).1
    obtain ⟨xs, e, _⟩ := h.row i a n[i] hi (List.getElem?_eq_getElem hl)
    exact ⟨xs, e⟩
end PB
set_option Elab.async false
set_option linter.all false
set_option maxRecDepth 100000
set_option maxHeartbeats 4000000
namespace PB
open PySem PySem.Spec PyProof.Rows L2
end PB
set_option Elab.async false
set_option linter.all false
set_option maxRecDepth 100000
set_option maxHeartbeats 4000000
namespace PB
open PySem PySem.Spec PyProof.Rows L2
end PB
set_option Elab.async false
set_option linter.all false
set_option maxRecDepth 100000
set_option maxHeartbeats 4000000
namespace PB
open PySem PySem.Spec PyProof.Rows L2
variable [Kts]
section
variable {γ ι : Type} {B : Bs γ ι} {W : WX} {X : Cx} {na : NA} {pos px p1 p2 : Pos} {x : Str} {ka kb a : Expr} {ma mb mv : ME (γ × NL)}
theorem NlAt.at {K : Frag} {n : NL} {H : Hp} (h : NlAt K na n H) {m : Int} {j : Nat} (e : PB.ixN n.length m = some j) : ∃ q, L2.atI (na.ps.map V.ref) m = some (.ref q) ∧ na.ps[j]? = some q ∧ j < n.length := by
  have hl := h.len
  have hj : j < n.length := by
    unfold PB.ixN at e
    split at e
    · split at e
      · cases e; omega
      · cases e
    · split at e
      · cases e; omega
      · cases e
  obtain ⟨q, hq⟩ : ∃ q, na.ps[j]? = some q := ⟨na.ps[j]'(by omega), by simp [hl, hj]⟩
  refine ⟨q, ?_, hq, hj⟩
  unfold L2.atI
  rw [List.length_map, hl]
  rw [show L2.ixN n.length m = some j from e]
  show (na.ps.map V.ref)[j]? = _
  rw [List.getElem?_map, hq]
  rfl
theorem NlAt.set {K : Frag} {n : NL} {H : Hp} (h : NlAt K na n H) {j c : Nat} {q : Addr} {r : List D} {xs : List V} {v : V} {d : D} (hq : na.ps[j]? = some q) (hr : n[j]? = some r) (hx : H q = some (.lst xs)) (il : ItL K H xs r) (iv : It1 K H v d) : NlAt K na (n.set j (r.set c d)) (upd H q (.lst (xs.set c v))) := by
  have hqm : q ∈ na.ps := List.mem_of_getElem? hq
  have ht : ∀ a ys, H a = some (.tup ys) → upd H q (.lst (xs.set c v)) a = some (.tup ys) := fun a ys e => by
    rw [upd_ne (fun z => by rw [z, hx] at e; cases e)]
    exact e
  refine ⟨by rw [upd_ne (fun z => h.np (by rw [z]; exact hqm))]; exact h.hp, by rw [List.length_set]; exact h.len, fun i b ds h1 h2 => ?_, h.nd, h.np⟩
  by_cases c1 : i = j
  · subst c1
    rw [hq] at h1
    cases h1
    have hl : i < n.length := (List.getElem?_eq_some_iff.mp hr).1
    rw [List.getElem?_set_self hl] at h2
    cases h2
    exact ⟨_, upd_same, (il.go ht).set (iv.go ht)⟩
  · rw [List.getElem?_set_ne (fun z => c1 z.symm)] at h2
    obtain ⟨ys, e1, al⟩ := h.row i b ds h1 h2
    have : b ≠ q := fun z => by
      rw [z] at h1
      have := (List.getElem?_inj (by exact (List.getElem?_eq_some_iff.mp h1).1) h.nd).mp (h1.trans hq.symm)
      exact c1 this
    exact ⟨ys, by rw [upd_ne this]; exact e1, al.go ht⟩
end
end PB
set_option Elab.async false
set_option linter.all false
set_option maxRecDepth 100000
set_option maxHeartbeats 4000000
namespace PB
open PySem PySem.Spec PyProof.Rows L2
end PB
set_option Elab.async false
set_option linter.all false
set_option maxHeartbeats 0
namespace PB
open PySem PySem.Spec PyProof.Rows L2
variable [Kts]
variable {γ ι : Type} {B : Bs γ ι}
theorem sum_tup {prog : Program} {w : World} {A : Around} {E : Value → Shared → Prop} {s : Shared} {l : Addr} {its : List Value} {ns : List Int} {Q : Value → Shared → Prop} (hh : A.handled = none) (hl : s.heap.IsTuple l its.toArray) (hi : IntsAre its ns)
    (h : ∀ h' tk t', (∀ b o, s.heap.get? b = some o → h'.get? b = some o) → Q (.int ns.sum t') { s with heap := h', toks := tk }) : wpAny (model prog w) A (call (.builtin "sum") [.ref l]) Q E s := by
  obtain ⟨xs, e⟩ := hi.allInts.items
  have hn : numsOf (intItems xs).toList = ns := by rw [← e]; exact hi.numsOf
  rw [nums_intItems] at hn
  rw [e] at hl
  refine PySem.W.ktm_sumG hh hl fun h' tk t' hk => ?_
  have := h h' tk t' hk
  rw [preSum_eq, List.take_of_length_le (by simp), hn]
  exact this
theorem cr_sumT {X : Cx} (hc : X.calm = true) : CallR X (.builtin "sum") (fun vs H Q => ∃ (a : Addr) (ns : List Int), vs = [V.ref a] ∧ (SqL X.K H a (ns.map V.int) ∨ SqT X.K H a (ns.map V.int)) ∧ Q (V.int ns.sum) H) := by
  intro pins s σ H vs us Q I r h
  obtain ⟨a, ns, rfl, hs | hs, q⟩ := h
  · exact cr_sum hc pins s σ H _ us Q I r ⟨a, ns, rfl, hs, q⟩
  · obtain ⟨its, rv, hl, _⟩ := I.tuple hs
    rw [Vals.ref1 r]
    exact sum_tup (I.ok.hd hc) hl (Vals.ints rv) fun h' tk t' hk => ⟨V.int ns.sum, H, I.kept hk, ⟨t', rfl⟩, q⟩
theorem cl_sumA {X : Cx} (hK : B.K = X.K) (hc : X.calm = true) : CallR X (.builtin "sum") (fun vs H Q => ∃ (a : Addr) (ns : List Int), vs = [V.ref a] ∧ (SqL B.K H a (ns.map V.int) ∨ SqT B.K H a (ns.map V.int)) ∧ Q (V.int ns.sum) H) := by
  rw [hK]
  exact cr_sumT hc
theorem os_sumA : OpSN B oSumA (fun vs H Q => ∃ (a : Addr) (ns : List Int), vs = [V.ref a] ∧ (SqL B.K H a (ns.map V.int) ∨ SqT B.K H a (ns.map V.int)) ∧ Q (V.int ns.sum) H) := by
  intro S e g g1 σ H0 H xs z vs Q R x0 i1 os hz hq
  unfold oSumA at hz
  split at hz
  · split at hz
    · rename_i x ds k
      cases e2 : dInts ds with
      | none =>
        rw [e2] at hz
        cases hz
      | some ns =>
        rw [e2] at hz
        cases hz
        cases os with
        | cons o os =>
        cases os
        unfold Rv.seqI at k
        split at k
        · cases k
          cases o with
          | @tup p xs _ k al =>
          have ki := al.dInts e2
          subst ki
          exact ⟨p, ns, rfl, .inr (tup_seq k), hq _ H (.inl rfl) (.int _)⟩
        · obtain ⟨p, ys, rfl, hp, ap⟩ := o.items R k
          rw [ap.dInts e2] at hp
          exact ⟨p, ns, rfl, .inl (SqL.of hp), hq _ H (.inl rfl) (.int _)⟩
    · cases hz
  · cases hz
end PB
set_option Elab.async false
set_option linter.all false
set_option maxRecDepth 100000
set_option maxHeartbeats 4000000
namespace PB
open PySem PySem.Spec PyProof.Rows L2
end PB
set_option Elab.async false
set_option linter.all false
set_option maxRecDepth 100000
set_option maxHeartbeats 4000000
namespace PB
open PySem PySem.Spec PyProof.Rows L2
end PB
set_option Elab.async false
set_option linter.all false
set_option maxRecDepth 100000
set_option maxHeartbeats 4000000
namespace PB
open PySem PySem.Spec PyProof.Rows L2
end PB
set_option Elab.async false
set_option linter.all false
set_option maxRecDepth 100000
set_option maxHeartbeats 4000000
namespace PB
open PySem PySem.Spec PyProof.Rows L2
variable [Kts]
section
variable {γ ι : Type}
variable {B : Bs γ ι} {W : WX} {X : Cx} {p : Addr} {S S' : Addr → Prop} {e : Env} {g g' : γ} {σ : L2.St} {H H' H0 : Hp}
/-- more that values must not be -/
theorem Rep.more (R : Rep ⟨B, S⟩ e g σ H) (x : ∀ b o, H b = some o → ¬ S b → H' b = some o) (h1 : ∀ a, S a → S' a) (h2 : ∀ a, S' a → S a ∨ H a = none) (t : ∀ a, S' a → Stk (H' a)) (i : (B.fam B.i).I g' H') : Rep ⟨B, S'⟩ e g' σ H' := by
  have go : ∀ a o, H a = some o → ¬ Om ⟨B, S⟩ e σ a → H' a = some o ∧ ¬ Om ⟨B, S'⟩ e σ a := fun a o q n =>
    ⟨x a o q fun z => n (.inl z), fun z => z.elim (fun z => (h2 a z).elim (fun z => n (.inl z)) fun z => by rw [z] at q; cases q) fun z => n (.inr z)⟩
  refine ⟨R.len, fun j => ?_, R.inj, fun a z q => ?_, i, fun a z => h1 a (R.fx a z), t⟩
  · have q := R.sl j
    cases h : gt e j with
    | un => trivial
    | dat d =>
      rw [h] at q
      obtain ⟨v, e1, a⟩ := q
      exact ⟨v, e1, a.go go⟩
    | own ds =>
      rw [h] at q
      obtain ⟨p, xs, e1, k, a⟩ := q
      exact ⟨p, xs, e1, x p _ k (R.nx p (.of h rfl e1)), a.go go⟩
    | xc y =>
      rw [h] at q
      exact ⟨q.1, q.2.go fun p fs k => x p _ k fun z => R.nxd k (.inl z)⟩
    | gh y =>
      rw [h] at q
      exact q
    | owd tt ks vs =>
      rw [h] at q
      obtain ⟨p, us, e1, k, a⟩ := q
      exact ⟨p, us, e1, k.go fun o e => x p _ e (R.nx p (.of h rfl e1)), a.go go⟩
  · rcases h2 a q with q | q
    · exact R.nx a z q
    · exact (z.stk R).1.1 q
/-- a row more -/
theorem NlAt.push {K : Frag} {ps : List Addr} {q : Addr} {n : NL} (h : NlAt K ⟨p, ps⟩ n H) (hq : H q = none) : NlAt K ⟨p, ps ++ [q]⟩ (n ++ [[]]) (upd (upd H q (.lst [])) p (.lst ((ps ++ [q]).map V.ref))) := by
  have hp : H p = some (.lst (ps.map V.ref)) := h.hp
  have qp : q ≠ p := fun z => by rw [z, hp] at hq; cases hq
  have qps : q ∉ ps := fun z => by
    obtain ⟨xs, e⟩ := h.lst (.inr z)
    rw [e] at hq
    cases hq
  have hl : ps.length = n.length := h.len
  have ht : ∀ a ys, H a = some (.tup ys) → upd (upd H q (.lst [])) p (.lst ((ps ++ [q]).map V.ref)) a = some (.tup ys) := fun a ys e => by
    rw [upd_ne (fun z => by rw [z, hp] at e; cases e), upd_ne (fun z => by rw [z, hq] at e; cases e)]
    exact e
  refine ⟨upd_same, by show (ps ++ [q]).length = _; simp [hl], fun j a ds h1 h2 => ?_, ?_, ?_⟩
  · have h1 : (ps ++ [q])[j]? = some a := h1
    by_cases hj : j < ps.length
    · rw [List.getElem?_append_left hj] at h1
      rw [List.getElem?_append_left (by omega)] at h2
      obtain ⟨ys, e1, al⟩ := h.row j a ds h1 h2
      have ha : a ∈ ps := List.mem_of_getElem? h1
      exact ⟨ys, by rw [upd_ne (fun z => h.np (by show p ∈ ps; rw [← z]; exact ha)), upd_ne (fun z => qps (by rw [← z]; exact ha))]; exact e1, al.go ht⟩
    · rw [List.getElem?_append_right (by omega)] at h1 h2
      have e0 : j - ps.length = 0 := by
        cases z : j - ps.length with
        | zero => rfl
        | succ m =>
          rw [z] at h1
          simp at h1
      rw [e0] at h1
      rw [← hl, e0] at h2
      cases h1
      cases h2
      exact ⟨[], by rw [upd_ne qp, upd_same], .nil⟩
  · show (ps ++ [q]).Nodup
    rw [List.nodup_append]
    exact ⟨h.nd, by simp, fun a ha b hb => by rw [List.mem_singleton.mp hb]; intro z; exact qps (by rw [← z]; exact ha)⟩
  · show p ∉ ps ++ [q]
    intro z
    rcases List.mem_append.mp z with z | z
    · exact h.np z
    · exact qp (List.mem_singleton.mp z).symm
end
end PB
set_option Elab.async false
set_option linter.all false
set_option maxRecDepth 100000
set_option maxHeartbeats 4000000
namespace PB
open PySem PySem.Spec PyProof.Rows L2
end PB
set_option Elab.async false
set_option linter.all false
set_option maxRecDepth 100000
set_option maxHeartbeats 4000000
namespace PB
open PySem PySem.Spec PyProof.Rows L2
end PB
set_option Elab.async false
set_option linter.all false
set_option maxRecDepth 100000
set_option maxHeartbeats 4000000
namespace PB
open PySem PySem.Spec PyProof.Rows L2
end PB
set_option Elab.async false
set_option linter.all false
set_option maxRecDepth 100000
set_option maxHeartbeats 4000000
namespace PB
open PySem PySem.Spec PyProof.Rows L2
end PB
set_option Elab.async false
set_option linter.all false
set_option maxRecDepth 100000
set_option maxHeartbeats 4000000
namespace PB
open PySem PySem.Spec PyProof.Rows L2
end PB
set_option Elab.async false
set_option linter.all false
set_option maxRecDepth 100000
set_option maxHeartbeats 4000000
namespace PB
open PySem PySem.Spec PyProof.Rows L2
end PB
set_option Elab.async false
set_option linter.all false
set_option maxRecDepth 100000
set_option maxHeartbeats 4000000
namespace PB
open PySem PySem.Spec PyProof.Rows L2
end PB
set_option Elab.async false
set_option linter.all false
set_option maxRecDepth 100000
set_option maxHeartbeats 4000000
namespace HT
open PySem PyProof.Rows
section
variable {prog : Program} {w : World} {A : Around} {E : Value → Shared → Prop} {s : Shared}
theorem fm_congr {α β : Type} {f g : α → Option β} : ∀ (l : List α), (∀ x ∈ l, f x = g x) → l.filterMap f = l.filterMap g
  | [], _ => rfl
  | x :: l, h => by
    have e := h x List.mem_cons_self
    have ih := fm_congr l fun y hy => h y (List.mem_cons_of_mem _ hy)
    simp only [List.filterMap_cons, e, ih]
theorem adjust_rev1 {n : Nat} (h : 1 ≤ n) : Builtin.Slice.sliceAdjust none (some 0) (-1) (n : Int) = ((n : Int) - 1, 0) := by
  unfold Builtin.Slice.sliceAdjust
  have : ¬ ((0 : Int) ≥ (n : Int)) := by omega
  simp [this]
  try omega
theorem places_rev1 {n : Nat} (h : 1 ≤ n) : Builtin.Slice.slicePlaces ((n : Int) - 1) 0 (-1) = n - 1 := by
  unfold Builtin.Slice.slicePlaces
  have h1 : ¬ ((-1 : Int) > 0) := by decide
  by_cases h : (n : Int) - 1 > 0
  · simp only [h1, if_false, h, if_true]
    rw [show (- -1 : Int) = 1 by decide, Int.ediv_one]
    omega
  · simp only [h1, if_false, h]
    omega
theorem sliceApplied_rev1 {sl : Addr} {vl vu vs : Value} {n : Nat} {Q : Int × Int × Nat → Shared → Prop} (h1 : 1 ≤ n) (hs : s.heap.IsSliceOf sl vl vu vs) (pl : IsPart vl none) (pu : IsPart vu (some 0)) (ps : IsPart vs (some (-1)))
    (h : Q ((n : Int) - 1, -1, n - 1) s) : wpAny (model prog w) A (Builtin.Slice.sliceApplied (.ref sl) (pure (n : Int))) Q E s := by
  obtain ⟨os, hos, hcs, hds⟩ := id hs
  unfold Builtin.Slice.sliceApplied Builtin.Slice.sliceFields
  refine wpAny_bind (wpAny_bind (wpAny_field hos hds (x := vl) rfl (wpAny_bind (wpAny_field hos hds (x := vu) rfl (wpAny_bind (wpAny_field hos hds (x := vs) rfl (wpAny_pure ?_)))))))
  refine wpAny_bind (slicePart_ ps ?_)
  show wpAny _ _ (if ((-1 : Int) == 0) = true then _ else _) _ _ s
  rw [if_neg (by decide)]
  refine wpAny_bind (slicePart_ pl (wpAny_bind (slicePart_ pu (wpAny_bind (wpAny_pure ?_)))))
  show wpAny _ _ (match Builtin.Slice.sliceAdjust none (some 0) (-1) (n : Int) with | (lo, hi) => pure (lo, (-1 : Int), Builtin.Slice.slicePlaces lo hi (-1))) _ _ s
  rw [adjust_rev1 h1]
  show wpAny _ _ (pure ((n : Int) - 1, (-1 : Int), Builtin.Slice.slicePlaces ((n : Int) - 1) 0 (-1))) _ _ s
  rw [places_rev1 h1]
  exact wpAny_pure h
theorem pick_rev1 (xs : Array Value) : ((List.range (xs.size - 1)).filterMap fun (m : Nat) => xs[(((xs.size : Int) - 1) + (m : Int) * (-1)).toNat]?).toArray = (xs.toList.drop 1).reverse.toArray := by
  have e : (fun (m : Nat) => xs[(((xs.size : Int) - 1) + (m : Int) * (-1)).toNat]?) = fun m => xs[xs.size - 1 - m]? := by
    funext m
    have : (((xs.size : Int) - 1) + (m : Int) * (-1)).toNat = xs.size - 1 - m := by omega
    rw [this]
  rw [e]
  have e2 : ((List.range (xs.size - 1)).filterMap fun m => xs[xs.size - 1 - m]?) = (((List.range (xs.size - 1)).map fun k => 1 + k).reverse).filterMap (xs[·]?) := by
    rw [← List.map_reverse, ← PySem.W.krv_range (xs.size - 1), List.map_map, List.filterMap_map]
    refine fm_congr _ fun k hk => ?_
    have hk := List.mem_range.mp hk
    show xs[xs.size - 1 - k]? = xs[1 + (xs.size - 1 - 1 - k)]?
    rw [show 1 + (xs.size - 1 - 1 - k) = xs.size - 1 - k by omega]
  rw [e2, List.filterMap_reverse, PySem.pick_run, List.take_of_length_le (by rw [List.length_drop, Array.length_toList]; exact Nat.le_refl _)]
theorem getItem_tuple_rev1 {t sl : Addr} {items : Array Value} {vl vu vs : Value} {Q : Value → Shared → Prop} (ht : IsTup s.heap t items) (hs : s.heap.IsSliceOf sl vl vu vs) (pl : IsPart vl none) (pu : IsPart vu (some 0)) (h1 : 1 ≤ items.size) (ps : IsPart vs (some (-1)))
    (h : Q (.ref s.heap.objs.size) { s with heap := s.heap.push { cls := .type "tuple", data := .seq (items.toList.drop 1).reverse.toArray } })
    (hsz : items.size ≤ sizeLine) : wpAny (model prog w) A (getItem (.ref t) (.ref sl)) Q E s := by
  have htake : sizeOk (.seq (items.toList.drop 1).reverse.toArray) := by
    show (items.toList.drop 1).reverse.toArray.size ≤ sizeLine
    rw [List.size_toArray, List.length_reverse, List.length_drop, Array.length_toList]
    omega
  obtain ⟨os, hos, hcs, hds⟩ := id hs
  have hTs : s.TypeIs (.ref sl) "slice" := ⟨os, hos, hcs⟩
  unfold getItem
  try with_reducible refine wpAny_holding ?_
  first | refine wpAny_bind (wpAny_pure ?_) | skip
  refine wpAny_bind (wpAny_sequenceKey ht.typeIs (by decide) ?_)
  refine wpAny_bind (wpAny_callSpecial?_slot (name := Str.ofString "__getitem__") ht.typeIs PyProof.Rows.slot_tuple_getitem
    (wpAny_call_entry PyProof.Rows.slot_tuple_getitem ht.typeIs entry_tuple_getitem ?_ (args_tuple_getitem _ _)))
  show wpAny _ _ (Builtin.Tuple.tupleItemsOf (.ref t) >>= _) _ _ s
  refine wpAny_bind (tupleItemsOf_ ht ?_)
  refine wpAny_bind (wpAny_typeOf hTs ?_)
  rw [if_pos (by decide)]
  refine wpAny_bind (sliceApplied_rev1 h1 hs pl pu ps ?_)
  have hno : ¬ ((((items.size : Int) - 1) == 0 && (-1 : Int) == 1 && items.size - 1 == items.size) = true) := by
    intro q
    rw [Bool.and_eq_true, Bool.and_eq_true] at q
    have q2 : (-1 : Int) = 1 := eq_of_beq q.1.2
    omega
  show wpAny _ _ (if (((items.size : Int) - 1) == 0 && (-1 : Int) == 1 && items.size - 1 == items.size) = true then _ else _) _ _ s
  rw [if_neg hno, pick_rev1]
  first
    | exact wpAny_bind (m := Builtin.Tuple.tupleExact _) (wpAny_newObj_type (wpAny_pure ⟨_, rfl, wpAny_pure h⟩) htake)
    | exact wpAny_bind (m := Builtin.Tuple.tupleExact _) (wpAny_newObj_type (wpAny_bind (wpAny_pure (wpAny_pure ⟨_, rfl, wpAny_pure h⟩))) htake)
    | exact wpAny_bind (wpAny_bind (m := Builtin.Tuple.tupleExact _) (wpAny_newObj_type (wpAny_pure (wpAny_pure ⟨_, rfl, wpAny_pure h⟩)) htake))
    | exact wpAny_bind (wpAny_bind (m := Builtin.Tuple.tupleExact _) (wpAny_newObj_type (wpAny_pure ⟨_, rfl, wpAny_pure h⟩) htake))
end
end HT
namespace PB
open PySem PySem.Spec PyProof.Rows L2
variable [Kts]
section
variable {X : Cx}
def tRevT1 (K : PySem.W.Frag) (te : TE) : TE := fun σ H Q => te σ H fun x H1 => ∃ a x0 xs, x = .ref a ∧ SqT K H1 a (x0 :: xs) ∧ ∀ p, H1 p = none → Q (.ref p) (upd H1 p (.tup xs.reverse))
theorem pe_revT1 {e : Expr} {te : TE} {k : Nat} {k0 : Nat} {p0 p1 p2 p3 pos : Pos} (he : PE X e te) : PE X (.Subscript e (.Slice none (some (.Constant (.int 0) k0 p0)) (some (.UnaryOp .USub (.Constant (.int 1) k p1) p2)) p3) pos) (tRevT1 X.K te) := by
  refine ⟨fun pins s σ H Q I h => ?_⟩
  refine Subscript_ (thn (he.run pins s σ H _ I h) fun v s1 ⟨x, H1, I1, r1, q1⟩ => ?_)
  obtain ⟨a, x0, xs, ex, hx, q⟩ := q1
  subst ex
  cases r1
  have hst : PO X (some (.UnaryOp .USub (.Constant (.int 1) k p1) p2)) (tPart (tUn (rU fun i => .int (-i)) (tC (.int 1)))) := po_some (pe_un un_neg pe_int)
  refine wpAny_Slice (thn (po_none.run pins s1 σ H1 (fun o H2 => o = none ∧ H2 = H1) I1 ⟨rfl, rfl⟩) fun vl s2 ⟨l, H2, I2, pl, el, e2⟩ => ?_)
  subst el e2
  have hsu : PO X (some (.Constant (.int 0) k0 p0)) (tPart (tC (.int 0))) := po_some pe_int
  refine thn (hsu.run pins s2 σ H2 (fun o H3 => o = some 0 ∧ H3 = H2) I2 ⟨0, rfl, rfl, rfl⟩) fun vu s3 ⟨u, H3, I3, pu, eu, e3⟩ => ?_
  subst eu e3
  refine thn (hst.run pins s3 σ H3 (fun o H4 => o = some (-1) ∧ H4 = H3) I3 ⟨1, rfl, -1, rfl, rfl, rfl⟩) fun vs s4 ⟨o, H4, I4, ps, eo, e4⟩ => ?_
  subst eo e4
  have I5 : Inv X pins σ H4 { s4 with heap := s4.heap.push { cls := .type "slice", data := .fields #[vl, vu, vs] } } := I4.kept (t' := s4.toks) fun b ob q => Heap.get?_push_of_some _ q
  obtain ⟨its, r, ht, hz⟩ := I5.tuple hx
  have hlen := r.length
  obtain ⟨y0, ys, rfl, r0, rr⟩ : ∃ y0 ys, its = y0 :: ys ∧ RelV x0 y0 ∧ Vals xs ys := by
    cases r with
    | cons r0 rr => exact ⟨_, _, rfl, r0, rr⟩
  have hone : 1 ≤ (y0 :: ys).toArray.size := by rw [List.size_toArray, List.length_cons]; omega
  show wpAny (model X.prog X.w) X.A (subscriptTail e (.Slice none (some (.Constant (.int 0) k0 p0)) (some (.UnaryOp .USub (.Constant (.int 1) k p1) p2)) p3) (.ref a) (.ref s4.heap.objs.size)) (EP X pins σ Q) X.xe { s4 with heap := s4.heap.push { cls := .type "slice", data := .fields #[vl, vu, vs] } }
  refine tail_any (ops := [.ref a, .ref s4.heap.objs.size]) ht.typeIs (PyProof.Rows.slot_tuple_getitem.lookup) ?_ (by with_unfolding_all rfl)
  refine HT.getItem_tuple_rev1 ht (Heap.IsSliceOf.new _ vl vu vs) pl pu hone ps ?_ (by rw [List.size_toArray]; omega)
  refine ⟨.ref _, _, I5.laid (t' := s4.toks) (o := .tup xs.reverse) (fun b ob q => Heap.get?_push_of_some _ q) (Nat.le_refl _) ?_, rfl, q _ (I5.hok.fresh (Nat.le_refl _))⟩
  exact ⟨by rw [List.length_reverse]; have := hz; rw [List.length_cons] at this; omega, _, rr.reverse, IsTup.new _ _⟩
end
section
variable {γ ι : Type} {B : Bs γ ι} {W : WX} {X : Cx} {pos : Pos} {a : Expr} {ma : ME γ}
theorem pb_rev1 {k k0 : Nat} {p0 p1 p2 p3 : Pos} (hK : B.K = X.K) (ha : PE X a (RE B W ma)) : PE X (.Subscript a (.Slice none (some (.Constant (.int 0) k0 p0)) (some (.UnaryOp .USub (.Constant (.int 1) k p1) p2)) p3) pos) (RE B W (mOp1 oRev1 ma)) := by
  refine pe_w (pe_revT1 ha) fun σ H Q ⟨S, e, g, R, h⟩ => ?_
  cases q : ma e g with
  | no =>
    unfold mOp1 at h
    rw [q] at h
    exact h.elim
  | ex y g1 =>
    unfold mOp1 at h
    rw [q] at h
    refine ⟨S, e, g, R, ?_⟩
    show RK _ _ _ _ _ _ (ma e g) _
    rw [q]
    exact h
  | ok r g1 =>
    unfold mOp1 at h
    rw [q] at h
    obtain ⟨z, kz, h1⟩ := RK.ofO (P := VOk) (A := ⟨B, S⟩) (o := oRev1 r) (g := g1) h
    unfold oRev1 at kz
    split at kz
    · rename_i d ds
      cases kz
      refine ⟨S, e, g, R, ?_⟩
      show RK _ _ _ _ _ _ (ma e g) _
      rw [q]
      intro v H1 x1 i1 o1
      cases o1 with
      | @tup p xs _ kk al =>
      cases al with
      | cons a0 al =>
      refine ⟨p, _, _, rfl, by rw [← hK]; exact tup_seq kk, fun p' hp' => ?_⟩
      exact h1 _ _ (x1.trans (.new hp')) (Gho.new i1 hp') (At.mkT (A := ⟨B, S⟩) R x1 i1 al.rev hp')
    · cases kz
end
end PB
set_option Elab.async false
set_option linter.all false
set_option maxRecDepth 100000
set_option maxHeartbeats 4000000
namespace PB
open PySem PySem.Spec PyProof.Rows L2 HotX L2H
/-- an iterator's turns there -/
structure TurnW (P : Program) (w : World) (K : PySem.W.Frag) (tg : Expr) (J : It) (fp : List Addr) (it : Addr) (tn : Nat → Heap → Prop) : Prop where
  mem : it ∈ fp
  obj : ∀ i h, tn i h → ∀ b ∈ fp, ∃ o, h.get? b = some o ∧ ∀ v, o.data ≠ .cell v
  keep : ∀ i h h', tn i h → (∀ b ∈ fp, ∀ o, h.get? b = some o → h'.get? b = some o) → tn i h'
  item : ∀ (X : Cx), X.prog = P → X.w = w → X.K = K → ∀ (i : Nat) (pins : List (Addr × Obj)) (s : Shared) (σ : L2.St) (H : Hp) (E : Value → Shared → Prop), Inv X pins σ H s → (∀ b ∈ fp, FpOk X pins H b) → tn i s.heap → J.go i H →
    wpAny (model P w) X.A (pyNext (.ref it)) (fun r s1 => ∃ u, r = some u ∧ wpAny (model P w) X.A (letOwnedTupleGo tg (.ref it) u) (fun _ s2 => ∃ x H', Inv X pins σ H' s2 ∧ RelV x u ∧ J.yld i H x H' ∧ tn (i + 1) s2.heap ∧ ∀ b ∈ fp, H' b = none) E s1) E s
  done : ∀ (X : Cx), X.prog = P → X.w = w → X.K = K → ∀ (x1 : Addr) (i : Nat) (pins : List (Addr × Obj)) (s : Shared) (σ : L2.St) (H : Hp) (E : Value → Shared → Prop), HotAt X.A x1 s.heap → x1 ≠ it → Inv X pins σ H s → (∀ b ∈ fp, FpOk X pins H b) → tn i s.heap → J.stop i H →
    wpAny (model P w) X.A (pyNext (.ref it)) (fun r s1 => r = none ∧ Inv X pins σ H s1) E s
  self : ∀ (A : Around) (i : Nat) (s : Shared) (Q : Value → Shared → Prop) (E : Value → Shared → Prop), tn i s.heap → Q (.ref it) s → wpAny (model P w) A (pyIter (.ref it)) Q E s
/-- an iterator has come there -/
def PIEW (X : Cx) (pins : List (Addr × Obj)) (σ : L2.St) (tg : Expr) (R : It → Hp → Prop) (itv : Value) (s2 : Shared) : Prop :=
  ∃ (it : Addr) (fp : List Addr) (tn : Nat → Heap → Prop) (J : It) (H' : Hp), itv = .ref it ∧ Inv X pins σ H' s2 ∧ TurnW X.prog X.w X.K tg J fp it tn ∧ tn 0 s2.heap ∧ (∀ b ∈ fp, FpOk X pins H' b) ∧ R J H'
structure PIW (X : Cx) (tg iter : Expr) (wi : TI) : Prop where
  run : ∀ (pins : List (Addr × Obj)) (s : Shared) (σ : L2.St) (H : Hp) (R : It → Hp → Prop), Inv X pins σ H s → wi σ H R → wpAny (model X.prog X.w) X.A (eval iter X.env) (fun v s1 => wpAny (model X.prog X.w) X.A (pyIter v) (PIEW X pins σ tg R) X.xe s1) X.xe s
end PB
set_option Elab.async false
set_option linter.all false
set_option maxRecDepth 100000
set_option maxHeartbeats 4000000
namespace PB
open PySem PySem.Spec PyProof.Rows L2 HotX L2H
end PB
set_option Elab.async false
set_option linter.all false
set_option maxRecDepth 100000
set_option maxHeartbeats 4000000
namespace PB
open PySem PySem.Spec PyProof.Rows L2 HotX L2H
end PB
set_option Elab.async false
set_option linter.all false
set_option maxRecDepth 100000
set_option maxHeartbeats 4000000
namespace PB
open PySem PySem.Spec PyProof.Rows L2 HotX L2H
variable [Kts]
theorem PIW.or {X : Cx} {tg iter : Expr} {w w' : TI} (h : PIW X tg iter w) (h' : PIW X tg iter w') : PIW X tg iter (fun σ H R => w σ H R ∨ w' σ H R) := ⟨fun pins s σ H R I q => q.elim (h.run pins s σ H R I) (h'.run pins s σ H R I)⟩
end PB
set_option Elab.async false
set_option linter.all false
set_option maxRecDepth 100000
set_option maxHeartbeats 4000000
namespace PB
open PySem PySem.Spec PyProof.Rows L2
end PB
set_option Elab.async false
set_option linter.all false
set_option maxRecDepth 100000
set_option maxHeartbeats 4000000
namespace PB
open PySem PySem.Spec PyProof.Rows L2
end PB
set_option Elab.async false
set_option linter.all false
set_option maxRecDepth 100000
set_option maxHeartbeats 4000000
namespace PB
open PySem PySem.Spec PyProof.Rows L2
variable [Kts]
section
variable {γ ι : Type} {B : Bs γ ι} {W : WX} {X : Cx} {pos : Pos}
def RTg (B : Bs γ ι) (m : MTg γ) : TG := fun v σ H Q => ∃ (S : Addr → Prop) (e : Env) (g : γ) (d : D), Rep ⟨B, S⟩ e g σ H ∧ At B.K (Om ⟨B, S⟩ e σ) H v d ∧ RSK ⟨B, S⟩ W0 e σ H (m d e g) { nx := Q, rt := fun _ _ => False, bk := fun _ _ => False, ct := fun _ _ => False }
theorem pk_put {i : Nat} {x : Str} {px tp : Pos} {ke : Expr} {mk : ME γ} (hN : X.N[i]? = some x) (hk : PE X ke (RE B W0 mk)) (hv : Vis X.env.scope x := by first | exact Or.inl rfl | exact Or.inr (Or.inl rfl)) (hd : (x == ("__debug__" : Str)) = false := by decide) (hcd : (x == ("__classdict__" : Str)) = false := by decide)
    (hasg : ∀ v, assign (.Subscript (.Name x px) ke tp) X.env v = (do
      let ov ← holding [v] (eval (.Name x px) X.env)
      let iv ← holding [v, ov] (eval ke X.env)
      standAt tp
      holding [v, ov, iv] (setItem ov iv v)
      release [v, ov, iv] []) := by intro _; rfl) : PG X (.Subscript (.Name x px) ke tp) (RTg B (tkPut i mk)) := by
  refine pg_w (pg_sub (pe_var hN hv hd hcd) hk set_list hasg) fun v σ H Q ⟨S, e, g, d, R, a, h⟩ => ?_
  unfold tkPut mPut at h
  have h1 : RSK ⟨B, S⟩ W0 e σ H (match gt e i with
    | .own ds => (mk e g).bind fun z g2 => match (Rv.dat d).sto, z with
      | some d, .dat (.int n) => match ixN ds.length n with
        | some j => .ok (.nx (st e i (.own (ds.set j d)))) g2
        | none => .no
      | _, _ => .no
    | _ => .no) _ := h
  have sl := R.sl i
  cases k : gt e i with
  | own ds =>
    rw [k] at h1 sl
    obtain ⟨p, xs, ev, hp, al⟩ := sl
    refine ⟨.ref p, ev, S, e, g, R, RSK.bind R h1 fun z g2 vz H2 x2 i2 o2 h2 => ?_⟩
    have R2 := R.exe x2 i2
    split at h2
    · rename_i d2 n ks
      cases ks
      split at h2
      · rename_i j kj
        cases o2
        have op : OwnA e σ p := .of k rfl ev
        have hp2 : H2 p = some (.lst xs) := x2 p _ hp (R.notF op)
        have al2 := R.atL x2 al
        obtain ⟨R3, s3⟩ := R2.upd_own (es := ds.set j d) k ev (al2.set j (R.at x2 a))
        exact ⟨p, xs, n, j, rfl, rfl, hp2, by rw [al2.length]; exact kj, h2 _ _ R3 (.trans R2 (.exe R x2) s3)⟩
      · exact h2.elim
    · exact h2.elim
  | _ =>
    rw [k] at h1
    exact h1.elim
inductive TkL (B : Bs γ ι) : TGs → List (MTg γ) → Prop
  | nil : TkL B gNil []
  | cons {m : MTg γ} {u : TGs} {ms : List (MTg γ)} (h : TkL B u ms) : TkL B (gCons (RTg B m) u) (m :: ms)
theorem tk_nx : ∀ (ts : List (MTg γ)) (ds : List D) (e : Env) (g : γ), tkL ts ds e g = .no ∨ (ds.length = ts.length ∧ ∃ e' g', tkL ts ds e g = .ok (.nx e') g')
  | [], [], e, g => .inr ⟨rfl, e, g, rfl⟩
  | [], _ :: _, _, _ => .inl rfl
  | _ :: _, [], _, _ => .inl rfl
  | t :: ts, d :: ds, e, g => by
    show (match t d e g with
      | .ok (.nx e1) g1 => tkL ts ds e1 g1
      | _ => .no) = _ ∨ (_ ∧ ∃ e' g', (match t d e g with
      | .ok (.nx e1) g1 => tkL ts ds e1 g1
      | _ => .no) = _)
    cases t d e g with
    | no => exact .inl rfl
    | ex x g1 => exact .inl rfl
    | ok f1 g1 =>
      cases f1 with
      | nx e1 =>
        rcases tk_nx ts ds e1 g1 with h | ⟨h1, h2⟩
        · exact .inl h
        · exact .inr ⟨by rw [List.length_cons, List.length_cons, h1], h2⟩
      | rt r => exact .inl rfl
      | bk e1 => exact .inl rfl
      | ct e1 => exact .inl rfl
theorem tk_go {u : TGs} {ms : List (MTg γ)} (h : TkL B u ms) : ∀ (S : Addr → Prop) (e : Env) (g g' : γ) (σ : L2.St) (H : Hp) (vs : List V) (ds : List D) (e' : Env) (Q : L2.St → Hp → Prop), Rep ⟨B, S⟩ e g σ H → AtL B.K (Om ⟨B, S⟩ e σ) H vs ds → tkL ms ds e g = .ok (.nx e') g' →
    (∀ σ' H', Rep ⟨B, S⟩ e' g' σ' H' → Stp ⟨B, S⟩ e σ H e' σ' H' → Q σ' H') → u vs σ H Q := by
  induction h with
  | nil =>
    intro S e g g' σ H vs ds e' Q R a h q
    cases ds with
    | nil =>
      cases a
      cases h
      exact ⟨rfl, q σ H R .refl⟩
    | cons d ds => cases h
  | @cons m u ms _ ih =>
    intro S e g g' σ H vs ds e' Q R a h q
    cases ds with
    | nil => cases h
    | cons d ds =>
      have h : (match m d e g with
        | .ok (.nx e1) g1 => tkL ms ds e1 g1
        | _ => .no) = .ok (.nx e') g' := h
      cases a with
      | @cons v _ vs _ a1 a2 =>
      cases k : m d e g with
      | no =>
        rw [k] at h
        cases h
      | ex x g1 =>
        rw [k] at h
        cases h
      | ok f1 g1 =>
        rw [k] at h
        cases f1 with
        | nx e1 =>
          refine ⟨v, vs, rfl, S, e, g, d, R, a1, ?_⟩
          rw [k]
          intro σ1 H1 R1 s1
          exact ih S e1 g1 g' σ1 H1 vs ds e' Q R1 (a2.go (s1.go R)) h fun σ' H' R' s' => q σ' H' R' (.trans R1 s1 s')
        | rt r => cases h
        | bk e1 => cases h
        | ct e1 => cases h
/-- a, b[k], .. = e -/
theorem pb_asgN {es : List Expr} {x1} {tp : Pos} {a : Expr} {ma : ME γ} {u : TGs} {ms : List (MTg γ)} (hK : B.K = X.K) (hc : X.calm = true) (ha : PE X a (RE B W ma)) (hg : PGs X es u) (ts : TkL B u ms) (hn : (assignEach es X.env).length = ms.length := by rfl) (hst : (assignEach es X.env).findIdx? (·.1) = none := by rfl)
    (hs : swapsWithSole [.Tuple es x1 tp] a pos.line X.env = pure false := by rfl) (hw : swappedStores [.Tuple es x1 tp] a X.env = pure none := by rfl)
    (h1 : (assignEach [.Tuple es x1 tp] X.env).map (·.2) = [assign (.Tuple es x1 tp) X.env] := by rfl) : PS X (.Assign [.Tuple es x1 tp] a pos) (RS B W (mAsgN ms ma)) := by
  refine ps_w (ps_asg ha (pg_tup hc hg hn hst) hs hw h1) fun Dd σ H ⟨S, e, g, R, h⟩ => ?_
  refine ⟨S, e, g, R, RSK.bind R h fun y g1 vy H1 x1 i1 o1 h1 => ?_⟩
  have R1 := R.exe x1 i1
  split at h1
  · rename_i ds
    cases o1 with
    | @tup p xs _ k al =>
    rcases tk_nx ms ds e g1 with q | ⟨hl, e2, g2, q⟩
    · rw [q] at h1
      exact h1.elim
    · rw [q] at h1
      exact ⟨p, xs, rfl, by rw [← hK]; exact tup_seq k, by rw [al.length, hl], tk_go ts S e g1 g2 σ H1 xs ds e2 _ R1 al q fun σ' H' R' s' => h1 σ' H' R' (.trans R1 (.exe R x1) s')⟩
  · exact h1.elim
end
end PB
set_option Elab.async false
set_option linter.all false
namespace PB
section
variable {γ α β : Type}
def Sat (r : Rs γ α) (Q : α → γ → Prop) : Prop := match r with
  | .ok a g => Q a g
  | _ => False
def SatO (o : Option α) (Q : α → γ → Prop) (g : γ) : Prop := match o with
  | some a => Q a g
  | none => False
theorem Sat_ok (a : α) (g : γ) (Q : α → γ → Prop) : Sat (.ok a g) Q = Q a g := rfl
theorem Sat_ofO (o : Option α) (g : γ) (Q : α → γ → Prop) : Sat (ofO o g) Q = SatO o Q g := by cases o <;> rfl
theorem SatO_some (a : α) (Q : α → γ → Prop) (g : γ) : SatO (some a) Q g = Q a g := rfl
theorem SatO_ite (c : Prop) [Decidable c] (a : α) (Q : α → γ → Prop) (g : γ) : SatO (if c then some a else none) Q g = (c ∧ Q a g) := by
  by_cases h : c
  · rw [if_pos h]
    exact propext ⟨fun q => ⟨h, q⟩, fun q => q.2⟩
  · rw [if_neg h]
    exact propext ⟨fun q => q.elim, fun q => h q.1⟩
theorem Sat_bind (r : Rs γ α) (f : α → γ → Rs γ β) (Q : β → γ → Prop) : Sat (r.bind f) Q = Sat r fun a g => Sat (f a g) Q := by cases r <;> rfl
theorem Sat_okO (r : Rs γ α) (Q : α → γ → Prop) : Sat (okO r) Q = Sat r Q := by cases r <;> rfl
theorem Sat.mono {r : Rs γ α} {Q R : α → γ → Prop} (h : Sat r Q) (k : ∀ a g, Q a g → R a g) : Sat r R := by
  cases r with
  | ok a g => exact k a g h
  | ex x g => exact h
  | no => exact h
theorem Sat.get {r : Rs γ α} {Q : α → γ → Prop} (h : Sat r Q) : ∃ a g, r = .ok a g ∧ Q a g := by
  cases r with
  | ok a g => exact ⟨a, g, rfl, h⟩
  | ex x g => exact h.elim
  | no => exact h.elim
variable {e : Env} {g : γ} {f : Op2} {f1 : Op1} {fN : OpN} {a b c : ME γ} {t u : MT γ} {as : MA γ} {s1 s2 : MS γ} {Q : Rv → γ → Prop} {QB : Bool → γ → Prop} {QA : List Rv → γ → Prop} {QS : Fl → γ → Prop} {QI : List D → γ → Prop} {x y : Rv} {i j k : Nat} {F : MF γ}
def kVar (Q : Rv → γ → Prop) (g : γ) : Sl → Prop
  | .dat d => Q (.dat d) g
  | .own ds => Q (.bor ds) g
  | _ => False
theorem S_var : Sat (mVar i e g) Q = kVar Q g (gt e i) := by
  unfold mVar
  cases gt e i <;> rfl
theorem kVar_dat {d : D} : kVar Q g (.dat d) = Q (.dat d) g := rfl
theorem kVar_own {d : List D} : kVar Q g (.own d) = Q (.bor d) g := rfl
theorem S_C {d : D} : Sat (mC d e g) Q = Q (.dat d) g := rfl
def k1 (f : Op1) (Q : Rv → γ → Prop) (x : Rv) (g : γ) : Prop := SatO (f x) Q g
theorem S_op1 : Sat (mOp1 f1 a e g) Q = Sat (a e g) (k1 f1 Q) := by
  unfold mOp1
  rw [Sat_bind]
  congr 1
  funext x g
  exact Sat_ofO _ _ _
theorem k1_ : k1 f1 Q x g = SatO (f1 x) Q g := rfl
def k2 (f : Op2) (b : ME γ) (e : Env) (Q : Rv → γ → Prop) (x : Rv) (g : γ) : Prop := Sat (b e g) fun y g2 => SatO (f x y) Q g2
def k2b (f : Op2) (Q : Rv → γ → Prop) (x y : Rv) (g : γ) : Prop := SatO (f x y) Q g
theorem S_op2 : Sat (mOp2 f a b e g) Q = Sat (a e g) (k2 f b e Q) := by
  unfold mOp2 k2
  rw [Sat_bind]
  congr 1
  funext x g
  rw [Sat_bind]
  congr 1
  funext y g
  exact Sat_ofO _ _ _
theorem k2_ : k2 f b e Q x g = Sat (b e g) (k2b f Q x) := rfl
theorem k2b_ : k2b f Q x y g = SatO (f x y) Q g := rfl
theorem S_nil : Sat (mNil e g) QA = QA [] g := rfl
def kc (as : MA γ) (e : Env) (Q : List Rv → γ → Prop) (x : Rv) (g : γ) : Prop := Sat (as e g) fun xs g2 => Q (x :: xs) g2
def kcb (Q : List Rv → γ → Prop) (x : Rv) (xs : List Rv) (g : γ) : Prop := Q (x :: xs) g
theorem S_cons : Sat (mCons a as e g) QA = Sat (a e g) (kc as e QA) := by
  unfold mCons kc
  rw [Sat_bind]
  congr 1
  funext x g
  rw [Sat_bind]
  rfl
theorem kc_ : kc as e QA x g = Sat (as e g) (kcb QA x) := rfl
theorem kcb_ {xs : List Rv} : kcb QA x xs g = QA (x :: xs) g := rfl
def kN (f : OpN) (Q : Rv → γ → Prop) (xs : List Rv) (g : γ) : Prop := SatO (f xs) Q g
theorem S_opN : Sat (mOpN fN as e g) Q = Sat (as e g) (kN fN Q) := by
  unfold mOpN kN
  rw [Sat_bind]
  congr 1
  funext x g
  exact Sat_ofO _ _ _
theorem kN_ {xs : List Rv} : kN fN Q xs g = SatO (fN xs) Q g := rfl
def kT (Q : Rv → γ → Prop) (xs : List Rv) (g : γ) : Prop := match stoL xs with
  | some ds => ds.length ≤ SZ ∧ Q (.dat (.tup ds)) g
  | none => False
def kL (Q : Rv → γ → Prop) (xs : List Rv) (g : γ) : Prop := match stoL xs with
  | some ds => ds.length ≤ SZ ∧ Q (.own ds) g
  | none => False
theorem S_tup : Sat (mTup as e g) Q = Sat (as e g) (kT Q) := by
  unfold mTup
  rw [Sat_bind]
  congr 1
  funext xs g
  unfold kT
  cases stoL xs with
  | some ds =>
    dsimp only
    by_cases h : ds.length ≤ SZ
    · rw [if_pos h]
      exact propext ⟨fun q => ⟨h, q⟩, fun q => q.2⟩
    · rw [if_neg h]
      exact propext ⟨fun q => q.elim, fun q => h q.1⟩
  | none => rfl
theorem S_lst : Sat (mLst as e g) Q = Sat (as e g) (kL Q) := by
  unfold mLst
  rw [Sat_bind]
  congr 1
  funext xs g
  unfold kL
  cases stoL xs with
  | some ds =>
    dsimp only
    by_cases h : ds.length ≤ SZ
    · rw [if_pos h]
      exact propext ⟨fun q => ⟨h, q⟩, fun q => q.2⟩
    · rw [if_neg h]
      exact propext ⟨fun q => q.elim, fun q => h q.1⟩
  | none => rfl
theorem stoL_nil : stoL [] = some [] := rfl
def consO (d : D) : Option (List D) → Option (List D)
  | some ds => some (d :: ds)
  | none => none
theorem stoL_dat {d : D} {xs : List Rv} : stoL (.dat d :: xs) = consO d (stoL xs) := by
  show (match (Rv.dat d).sto, stoL xs with | some d, some ds => some (d :: ds) | _, _ => none) = _
  cases stoL xs <;> rfl
theorem stoL_own {d : List D} {xs : List Rv} : stoL (.own d :: xs) = consO (.lst d) (stoL xs) := by
  show (match (Rv.own d).sto, stoL xs with | some d, some ds => some (d :: ds) | _, _ => none) = _
  cases stoL xs <;> rfl
theorem consO_some {d : D} {ds : List D} : consO d (some ds) = some (d :: ds) := rfl
def kCall (F : MF γ) (Q : Rv → γ → Prop) (xs : List Rv) (g : γ) : Prop := match stoL xs with
  | some ds => Sat (F ds g) Q
  | none => False
theorem S_call : Sat (mCall F as e g) Q = Sat (as e g) (kCall F Q) := by
  unfold mCall
  rw [Sat_bind]
  congr 1
  funext xs g
  unfold kCall
  cases stoL xs with
  | some ds => exact Sat_okO _ _
  | none => rfl
theorem kCall_ {xs : List Rv} {ds : List D} (h : stoL xs = some ds) : kCall F Q xs g = Sat (F ds g) Q := by
  unfold kCall
  rw [h]
def kI {α : Type} (A B : Env → γ → Rs γ α) (e : Env) (Q : α → γ → Prop) (c : Bool) (g : γ) : Prop := match c with
  | true => Sat (A e g) Q
  | false => Sat (B e g) Q
theorem S_if : Sat (mIf t a b e g) Q = Sat (t e g) (kI a b e Q) := by
  unfold mIf
  rw [Sat_bind]
  congr 1
  funext c g
  cases c <;> rfl
theorem S_ifS : Sat (mIfS t s1 s2 e g) QS = Sat (t e g) (kI s1 s2 e QS) := by
  unfold mIfS
  rw [Sat_bind]
  congr 1
  funext c g
  cases c <;> rfl
theorem kI_true {A B : Env → γ → Rs γ α} {Q : α → γ → Prop} : kI A B e Q true g = Sat (A e g) Q := rfl
theorem kI_false {A B : Env → γ → Rs γ α} {Q : α → γ → Prop} : kI A B e Q false g = Sat (B e g) Q := rfl
theorem kI_c {A B : Env → γ → Rs γ α} {Q : α → γ → Prop} {c : Bool} (h1 : c = true → Sat (A e g) Q) (h2 : c = false → Sat (B e g) Q) : kI A B e Q c g := by
  cases c
  · exact h2 rfl
  · exact h1 rfl
theorem kI_d {A B : Env → γ → Rs γ α} {Q : α → γ → Prop} {p : Prop} [Decidable p] (h1 : p → Sat (A e g) Q) (h2 : ¬ p → Sat (B e g) Q) : kI A B e Q (decide p) g :=
  kI_c (fun h => h1 (of_decide_eq_true h)) (fun h => h2 (of_decide_eq_false h))
def kAndV (b : ME γ) (e : Env) (Q : Rv → γ → Prop) (x : Rv) (g : γ) : Prop := match x with
  | .dat (.bl true) => Sat (b e g) Q
  | .dat (.bl false) => Q (dB false) g
  | _ => False
def kOrV (b : ME γ) (e : Env) (Q : Rv → γ → Prop) (x : Rv) (g : γ) : Prop := match x with
  | .dat (.bl true) => Q (dB true) g
  | .dat (.bl false) => Sat (b e g) Q
  | _ => False
theorem S_andV : Sat (mAndV a b e g) Q = Sat (a e g) (kAndV b e Q) := by
  unfold mAndV
  rw [Sat_bind]
  congr 1
  funext x g
  unfold kAndV
  cases x with
  | dat d => cases d <;> first
    | rfl
    | (rename_i b; cases b <;> rfl)
  | own d => rfl
  | bor d => rfl
theorem S_orV : Sat (mOrV a b e g) Q = Sat (a e g) (kOrV b e Q) := by
  unfold mOrV
  rw [Sat_bind]
  congr 1
  funext x g
  unfold kOrV
  cases x with
  | dat d => cases d <;> first
    | rfl
    | (rename_i b; cases b <;> rfl)
  | own d => rfl
  | bor d => rfl
theorem kAndV_true : kAndV b e Q (.dat (.bl true)) g = Sat (b e g) Q := rfl
theorem kAndV_false : kAndV b e Q (.dat (.bl false)) g = Q (.dat (.bl false)) g := rfl
theorem kOrV_true : kOrV b e Q (.dat (.bl true)) g = Q (.dat (.bl true)) g := rfl
theorem kOrV_false : kOrV b e Q (.dat (.bl false)) g = Sat (b e g) Q := rfl
def kTest (Q : Bool → γ → Prop) (x : Rv) (g : γ) : Prop := match x with
  | .dat (.bl c) => Q c g
  | _ => False
theorem S_test : Sat (mTest a e g) QB = Sat (a e g) (kTest QB) := by
  unfold mTest
  rw [Sat_bind]
  congr 1
  funext x g
  unfold kTest
  cases x with
  | dat d => cases d <;> first
    | rfl
    | (rename_i b; cases b <;> rfl)
  | own d => rfl
  | bor d => rfl
theorem kTest_ {c : Bool} : kTest QB (.dat (.bl c)) g = QB c g := rfl
def kTru (Q : Bool → γ → Prop) (x : Rv) (g : γ) : Prop := SatO (oTru x) Q g
theorem S_tru : Sat (mTru a e g) QB = Sat (a e g) (kTru QB) := by
  unfold mTru kTru
  rw [Sat_bind]
  congr 1
  funext x g
  exact Sat_ofO _ _ _
theorem kTru_ : kTru QB x g = SatO (oTru x) QB g := rfl
def kAnd (u : MT γ) (e : Env) (Q : Bool → γ → Prop) (c : Bool) (g : γ) : Prop := match c with
  | true => Sat (u e g) Q
  | false => Q false g
def kOr (u : MT γ) (e : Env) (Q : Bool → γ → Prop) (c : Bool) (g : γ) : Prop := match c with
  | true => Q true g
  | false => Sat (u e g) Q
def kNot (Q : Bool → γ → Prop) (c : Bool) (g : γ) : Prop := Q (!c) g
theorem S_and : Sat (mAnd t u e g) QB = Sat (t e g) (kAnd u e QB) := by
  unfold mAnd
  rw [Sat_bind]
  congr 1
  funext c g
  cases c <;> rfl
theorem S_or : Sat (mOr t u e g) QB = Sat (t e g) (kOr u e QB) := by
  unfold mOr
  rw [Sat_bind]
  congr 1
  funext c g
  cases c <;> rfl
theorem S_not : Sat (mNot t e g) QB = Sat (t e g) (kNot QB) := by
  unfold mNot
  rw [Sat_bind]
  rfl
theorem kAnd_true : kAnd u e QB true g = Sat (u e g) QB := rfl
theorem kAnd_false : kAnd u e QB false g = QB false g := rfl
theorem kOr_true : kOr u e QB true g = QB true g := rfl
theorem kOr_false : kOr u e QB false g = Sat (u e g) QB := rfl
theorem kNot_ {c : Bool} : kNot QB c g = QB (!c) g := rfl
/-- statements -/
def kS (s2 : MS γ) (Q : Fl → γ → Prop) (f : Fl) (g : γ) : Prop := match f with
  | .nx e => Sat (s2 e g) Q
  | .rt r => Q (.rt r) g
  | .bk e => Q (.bk e) g
  | .ct e => Q (.ct e) g
theorem S_seq : Sat (mSeq s1 s2 e g) QS = Sat (s1 e g) (kS s2 QS) := by
  unfold mSeq
  rw [Sat_bind]
  congr 1
  funext f g
  cases f <;> rfl
theorem kS_nx : kS s2 QS (.nx e) g = Sat (s2 e g) QS := rfl
theorem kS_rt {r : Rv} : kS s2 QS (.rt r) g = QS (.rt r) g := rfl
theorem kS_bk : kS s2 QS (.bk e) g = QS (.bk e) g := rfl
theorem kS_ct : kS s2 QS (.ct e) g = QS (.ct e) g := rfl
theorem S_pass : Sat (mPass e g) QS = QS (.nx e) g := rfl
def kSet (i : Nat) (e : Env) (Q : Fl → γ → Prop) (x : Rv) (g : γ) : Prop := match x.slot with
  | some s => Q (.nx (st e i s)) g
  | none => False
theorem S_set : Sat (mSet i a e g) QS = Sat (a e g) (kSet i e QS) := by
  unfold mSet
  rw [Sat_bind]
  congr 1
  funext x g
  unfold kSet
  cases x <;> rfl
theorem kSet_dat {d : D} : kSet i e QS (.dat d) g = QS (.nx (st e i (.dat d))) g := rfl
theorem kSet_own {d : List D} : kSet i e QS (.own d) g = QS (.nx (st e i (.own d))) g := rfl
def kTgt (tg : MG) (e : Env) (Q : Fl → γ → Prop) (x : Rv) (g : γ) : Prop := match x with
  | .dat d => match tg d e with
    | some e1 => Q (.nx e1) g
    | none => False
  | _ => False
theorem S_tgt {tg : MG} : Sat (mTgt tg a e g) QS = Sat (a e g) (kTgt tg e QS) := by
  unfold mTgt
  rw [Sat_bind]
  congr 1
  funext x g
  cases x with
  | dat d =>
    show Sat (match tg d e with | some e1 => Rs.ok (.nx e1) g | none => .no) QS = kTgt tg e QS (.dat d) g
    unfold kTgt
    dsimp only
    cases tg d e <;> rfl
  | own d => rfl
  | bor d => rfl
theorem kTgt_ {tg : MG} {d : D} {e1 : Env} (h : tg d e = some e1) : kTgt tg e QS (.dat d) g = QS (.nx e1) g := by
  unfold kTgt
  dsimp only
  rw [h]
def kTgtL (is : List Nat) (e : Env) (Q : Fl → γ → Prop) (x : Rv) (g : γ) : Prop := SatO (x.items) (fun ds g => SatO (tgL is ds e) (fun e1 g => Q (.nx e1) g) g) g
theorem S_tgtL {is : List Nat} : Sat (mTgtL is a e g) QS = Sat (a e g) (kTgtL is e QS) := by
  unfold mTgtL
  rw [Sat_bind]
  congr 1
  funext x g
  unfold kTgtL
  cases x.items with
  | none => rfl
  | some ds =>
    dsimp only
    show _ = SatO (tgL is ds e) _ g
    cases tgL is ds e <;> rfl
theorem kTgtL_ {is : List Nat} : kTgtL is e QS x g = SatO (x.items) (fun ds g => SatO (tgL is ds e) (fun e1 g => QS (.nx e1) g) g) g := rfl
def kP (b : ME γ) (i j : Nat) (e : Env) (Q : Fl → γ → Prop) (x : Rv) (g : γ) : Prop := Sat (b e g) fun y g2 => match x, y with
  | .dat x, .dat y => Q (.nx (st (st e i (.dat x)) j (.dat y))) g2
  | _, _ => False
theorem S_par : Sat (mPar i j a b e g) QS = Sat (a e g) (kP b i j e QS) := by
  unfold mPar
  rw [Sat_bind]
  congr 1
  funext x g
  unfold kP
  rw [Sat_bind]
  congr 1
  funext y g
  cases x <;> cases y <;> rfl
def kPb (i j : Nat) (e : Env) (Q : Fl → γ → Prop) (x y : Rv) (g : γ) : Prop := match x, y with
  | .dat x, .dat y => Q (.nx (st (st e i (.dat x)) j (.dat y))) g
  | _, _ => False
theorem kP_ : kP b i j e QS x g = Sat (b e g) (kPb i j e QS x) := rfl
theorem kPb_ {d d' : D} : kPb i j e QS (.dat d) (.dat d') g = QS (.nx (st (st e i (.dat d)) j (.dat d'))) g := rfl
def kAug (i : Nat) (f : Op2) (e : Env) (d : D) (Q : Fl → γ → Prop) (y : Rv) (g : γ) : Prop := match f (.dat d) y with
  | some r => kSet i e Q r g
  | none => False
theorem S_aug {d : D} (h : gt e i = .dat d) : Sat (mAug i f a e g) QS = Sat (a e g) (kAug i f e d QS) := by
  unfold mAug
  rw [h]
  dsimp only
  rw [Sat_bind]
  congr 1
  funext y g
  unfold kAug
  cases f (.dat d) y with
  | none => rfl
  | some r =>
    dsimp only
    unfold kSet
    cases r <;> rfl
theorem kAug_ {d : D} : kAug i f e d QS y g = SatO (f (.dat d) y) (kSet i e QS) g := by
  unfold kAug
  cases f (.dat d) y <;> rfl
theorem S_ret : Sat (mRet a e g) QS = Sat (a e g) fun x g => QS (.rt x) g := by
  unfold mRet
  rw [Sat_bind]
  rfl
def kR (Q : Fl → γ → Prop) (x : Rv) (g : γ) : Prop := Q (.rt x) g
theorem S_ret' : Sat (mRet a e g) QS = Sat (a e g) (kR QS) := S_ret
theorem kR_ : kR QS x g = QS (.rt x) g := rfl
theorem S_retN : Sat (mRetN e g) QS = QS (.rt (.dat .non)) g := rfl
theorem S_break : Sat (mBreak e g) QS = QS (.bk e) g := rfl
theorem S_cont : Sat (mCont e g) QS = QS (.ct e) g := rfl
theorem S_frz_dat {d : D} (h : gt e i = .dat d) : Sat (mFrz i e g) QS = QS (.nx e) g := by
  unfold mFrz
  rw [h]
  rfl
def kA (i : Nat) (e : Env) (ds : List D) (Q : Fl → γ → Prop) (y : Rv) (g : γ) : Prop := match y.sto with
  | some d => ds.length < SZ ∧ Q (.nx (st e i (.own (ds ++ [d])))) g
  | none => False
theorem S_app {ds : List D} (h : gt e i = .own ds) : Sat (mApp i a e g) QS = Sat (a e g) (kA i e ds QS) := by
  unfold mApp
  rw [h]
  dsimp only
  rw [Sat_bind]
  congr 1
  funext y g
  unfold kA
  cases y.sto with
  | none => rfl
  | some d =>
    dsimp only
    by_cases hl : ds.length < SZ
    · rw [if_pos hl]
      exact propext ⟨fun q => ⟨hl, q⟩, fun q => q.2⟩
    · rw [if_neg hl]
      exact propext ⟨fun q => q.elim, fun q => hl q.1⟩
theorem kA_dat {ds : List D} {d : D} : kA i e ds QS (.dat d) g = (ds.length < SZ ∧ QS (.nx (st e i (.own (ds ++ [d])))) g) := rfl
/-- loops -/
def kF (tg : MG) (b : MS γ) (e : Env) (Q : Fl → γ → Prop) (ds : List D) (g : γ) : Prop := Sat (forL tg b ds e g) Q
theorem S_for {src : MI γ} {tg : MG} {b : MS γ} : Sat (mFor src tg b e g) QS = Sat (src e g) (kF tg b e QS) := by
  unfold mFor
  rw [Sat_bind]
  rfl
theorem kF_ {tg : MG} {b : MS γ} {ds : List D} : kF tg b e QS ds g = Sat (forL tg b ds e g) QS := rfl
theorem S_forNil {tg : MG} {b : MS γ} : Sat (forL tg b [] e g) QS = QS (.nx e) g := rfl
def kFb (tg : MG) (b : MS γ) (ds : List D) (Q : Fl → γ → Prop) (f : Fl) (g : γ) : Prop := match f with
  | .nx e2 => Sat (forL tg b ds e2 g) Q
  | .ct e2 => Sat (forL tg b ds e2 g) Q
  | .bk e2 => Q (.nx e2) g
  | .rt r => Q (.rt r) g
theorem S_forCons {tg : MG} {b : MS γ} {d : D} {ds : List D} {e1 : Env} (h : tg d e = some e1) : Sat (forL tg b (d :: ds) e g) QS = Sat (b e1 g) (kFb tg b ds QS) := by
  show Sat (match tg d e with | none => .no | some e1 => match b e1 g with
      | .ok (.nx e2) g2 => forL tg b ds e2 g2
      | .ok (.ct e2) g2 => forL tg b ds e2 g2
      | .ok (.bk e2) g2 => .ok (.nx e2) g2
      | .ok (.rt r) g2 => .ok (.rt r) g2
      | .ex x g2 => .ex x g2
      | .no => .no) QS = _
  rw [h]
  dsimp only
  cases b e1 g with
  | ok f g => cases f <;> rfl
  | ex x g => rfl
  | no => rfl
theorem kFb_nx {tg : MG} {b : MS γ} {ds : List D} : kFb tg b ds QS (.nx e) g = Sat (forL tg b ds e g) QS := rfl
theorem kFb_ct {tg : MG} {b : MS γ} {ds : List D} : kFb tg b ds QS (.ct e) g = Sat (forL tg b ds e g) QS := rfl
theorem kFb_bk {tg : MG} {b : MS γ} {ds : List D} : kFb tg b ds QS (.bk e) g = QS (.nx e) g := rfl
theorem kFb_rt {tg : MG} {b : MS γ} {ds : List D} {r : Rv} : kFb tg b ds QS (.rt r) g = QS (.rt r) g := rfl
theorem tgN_ {d : D} : tgN i d e = some (st e i (.dat d)) := rfl
def kItems (Q : List D → γ → Prop) (x : Rv) (g : γ) : Prop := SatO (seqOf x) Q g
theorem S_items : Sat (mItems a e g) QI = Sat (a e g) (kItems QI) := by
  unfold mItems kItems
  rw [Sat_bind]
  congr 1
  funext x g
  exact Sat_ofO _ _ _
theorem kItems_tup {ds : List D} : kItems QI (.dat (.tup ds)) g = QI ds g := rfl
theorem kItems_lst {ds : List D} : kItems QI (.dat (.lst ds)) g = QI ds g := rfl
theorem kItems_own {ds : List D} : kItems QI (.own ds) g = QI ds g := rfl
def kRng (Q : List D → γ → Prop) (x : Rv) (g : γ) : Prop := match x with
  | .dat (.int n) => RngOk n ∧ Q (rng 0 n.toNat) g
  | _ => False
theorem S_range1 : Sat (mRange1 a e g) QI = Sat (a e g) (kRng QI) := by
  unfold mRange1
  rw [Sat_bind]
  congr 1
  funext x g
  unfold kRng
  cases x with
  | dat d =>
    cases d with
    | int n =>
      dsimp only
      by_cases h : RngOk n
      · rw [if_pos h]
        exact propext ⟨fun q => ⟨h, q⟩, fun q => q.2⟩
      · rw [if_neg h]
        exact propext ⟨fun q => q.elim, fun q => h q.1⟩
    | _ => rfl
  | own d => rfl
  | bor d => rfl
theorem kRng_ {n : Int} : kRng QI (.dat (.int n)) g = (RngOk n ∧ QI (rng 0 n.toNat) g) := rfl
/-- list comprehensions -/
def kLc (tg : MG) (c : MT γ) (a : ME γ) (e : Env) (Q : Rv → γ → Prop) (ds : List D) (g : γ) : Prop := Sat (lcL tg c a e ds [] g) Q
theorem S_lc {src : MI γ} {tg : MG} {own : List Nat} : Sat (mLc src tg t a own e g) Q = Sat (src e g) (kLc tg t a (wp e own) Q) := by
  unfold mLc
  rw [Sat_bind]
  rfl
theorem kLc_ {tg : MG} {ds : List D} : kLc tg t a e Q ds g = Sat (lcL tg t a e ds [] g) Q := rfl
theorem S_lcNil {tg : MG} {acc : List D} : Sat (lcL tg t a e [] acc g) Q = Q (.own acc) g := rfl
def kLcA (tg : MG) (t : MT γ) (a : ME γ) (e : Env) (ds acc : List D) (Q : Rv → γ → Prop) (x : Rv) (g : γ) : Prop := match x.sto with
  | some y => acc.length < SZ ∧ Sat (lcL tg t a e ds (acc ++ [y]) g) Q
  | none => False
def kLcT (tg : MG) (t : MT γ) (a : ME γ) (e e1 : Env) (ds acc : List D) (Q : Rv → γ → Prop) (c : Bool) (g : γ) : Prop := match c with
  | true => Sat (a e1 g) (kLcA tg t a e ds acc Q)
  | false => Sat (lcL tg t a e ds acc g) Q
theorem S_lcCons {tg : MG} {d : D} {ds acc : List D} {e1 : Env} (h : tg d e = some e1) : Sat (lcL tg t a e (d :: ds) acc g) Q = Sat (t e1 g) (kLcT tg t a e e1 ds acc Q) := by
  show Sat (match tg d e with
    | none => .no
    | some e1 => match t e1 g with
      | .ok true g1 => match a e1 g1 with
        | .ok r g2 => match r.sto with
          | some y => if acc.length < SZ then lcL tg t a e ds (acc ++ [y]) g2 else .no
          | none => .no
        | _ => .no
      | .ok false g1 => lcL tg t a e ds acc g1
      | _ => .no) Q = _
  rw [h]
  dsimp only
  cases t e1 g with
  | ok c g1 =>
    cases c with
    | false => rfl
    | true =>
      show Sat (match a e1 g1 with
        | .ok r g2 => match r.sto with
          | some y => if acc.length < SZ then lcL tg t a e ds (acc ++ [y]) g2 else .no
          | none => .no
        | _ => .no) Q = Sat (a e1 g1) (kLcA tg t a e ds acc Q)
      cases a e1 g1 with
      | ok r g2 =>
        show Sat (match r.sto with
          | some y => if acc.length < SZ then lcL tg t a e ds (acc ++ [y]) g2 else .no
          | none => .no) Q = kLcA tg t a e ds acc Q r g2
        unfold kLcA
        cases r.sto with
        | none => rfl
        | some y =>
          dsimp only
          by_cases hl : acc.length < SZ
          · rw [if_pos hl]
            exact propext ⟨fun q => ⟨hl, q⟩, fun q => q.2⟩
          · rw [if_neg hl]
            exact propext ⟨fun q => q.elim, fun q => hl q.1⟩
      | ex x g => rfl
      | no => rfl
  | ex x g => rfl
  | no => rfl
theorem kLcT_true {tg : MG} {e1 : Env} {ds acc : List D} : kLcT tg t a e e1 ds acc Q true g = Sat (a e1 g) (kLcA tg t a e ds acc Q) := rfl
theorem kLcA_dat {tg : MG} {ds acc : List D} {d : D} : kLcA tg t a e ds acc Q (.dat d) g = (acc.length < SZ ∧ Sat (lcL tg t a e ds (acc ++ [d]) g) Q) := rfl
theorem S_yes : Sat (mYes e g) QB = QB true g := rfl
/-- while: what holds ahead of each test, what goes down -/
theorem S_while {n : Nat} (I : Nat → Env → γ → Prop) (m0 : Nat) (h0 : I m0 e g) (hn : m0 < n)
    (hs : ∀ m e g, I m e g → Sat (t e g) fun c g1 => match c with
      | true => Sat (s1 e g1) fun f g2 => match f with
        | .nx e2 => ∃ m', m' < m ∧ I m' e2 g2
        | .ct e2 => ∃ m', m' < m ∧ I m' e2 g2
        | .bk e2 => QS (.nx e2) g2
        | .rt r => QS (.rt r) g2
      | false => QS (.nx e) g1) : Sat (mWhile t s1 n e g) QS := by
  induction n generalizing m0 e g with
  | zero => omega
  | succ n ih =>
    have h := hs m0 e g h0
    show Sat (match t e g with
    | .ok true g1 => match s1 e g1 with
      | .ok (.nx e2) g2 => mWhile t s1 n e2 g2
      | .ok (.ct e2) g2 => mWhile t s1 n e2 g2
      | .ok (.bk e2) g2 => .ok (.nx e2) g2
      | .ok (.rt r) g2 => .ok (.rt r) g2
      | .ex x g2 => .ex x g2
      | .no => .no
    | .ok false g1 => .ok (.nx e) g1
    | .ex x g1 => .ex x g1
    | .no => .no) QS
    cases ht : t e g with
    | no =>
      rw [ht] at h
      exact h
    | ex x g1 =>
      rw [ht] at h
      exact h
    | ok c g1 =>
      rw [ht] at h
      cases c with
      | false => exact h
      | true =>
        have h' : Sat (s1 e g1) _ := h
        dsimp only
        cases hb : s1 e g1 with
        | no =>
          rw [hb] at h'
          exact h'
        | ex x g2 =>
          rw [hb] at h'
          exact h'
        | ok f g2 =>
          rw [hb] at h'
          cases f with
          | nx e2 =>
            obtain ⟨m', hm, hi⟩ := h'
            exact ih m' hi (by omega)
          | ct e2 =>
            obtain ⟨m', hm, hi⟩ := h'
            exact ih m' hi (by omega)
          | bk e2 => exact h'
          | rt r => exact h'
/-- a def -/
def kD (Q : Rv → γ → Prop) (f : Fl) (g : γ) : Prop := match f with
  | .nx _ => Q (.dat .non) g
  | .rt r => Q r.ret g
  | _ => False
theorem S_def {n k : Nat} {b : MS γ} {ds : List D} (h : ds.length = k) : Sat (mDef n k b ds g) Q = Sat (b (ds.map Sl.dat ++ List.replicate (n - k) .un) g) (kD Q) := by
  unfold mDef
  rw [if_pos h]
  cases b (ds.map Sl.dat ++ List.replicate (n - k) .un) g with
  | ok f g => cases f <;> rfl
  | ex x g => rfl
  | no => rfl
theorem kD_rt {r : Rv} : kD Q (.rt r) g = Q r.ret g := rfl
theorem kD_nx : kD Q (.nx e) g = Q (.dat .non) g := rfl
/-- operations -/
theorem o_add {i j : Int} : oAdd (.dat (.int i)) (.dat (.int j)) = some (.dat (.int (i + j))) := rfl
theorem o_sub {i j : Int} : oSub (.dat (.int i)) (.dat (.int j)) = some (.dat (.int (i - j))) := rfl
theorem o_mul {i j : Int} (h : MulOk i j) : oMul (.dat (.int i)) (.dat (.int j)) = some (.dat (.int (i * j))) := if_pos h
theorem o_div {i j : Int} (h : DivOk j) : oDiv (.dat (.int i)) (.dat (.int j)) = some (.dat (.int (i / j))) := if_pos h
theorem o_mod {i j : Int} (h : 0 < j) : oMod (.dat (.int i)) (.dat (.int j)) = some (.dat (.int (i % j))) := if_pos h
theorem o_pow {i j : Int} (h : PowOk i j) : oPow (.dat (.int i)) (.dat (.int j)) = some (.dat (.int (i ^ j.toNat))) := if_pos h
theorem o_eq {i j : Int} : oEq (.dat (.int i)) (.dat (.int j)) = some (.dat (.bl (decide (i = j)))) := rfl
theorem o_ne {i j : Int} : oNe (.dat (.int i)) (.dat (.int j)) = some (.dat (.bl (!decide (i = j)))) := rfl
theorem o_lt {i j : Int} : oLt (.dat (.int i)) (.dat (.int j)) = some (.dat (.bl (decide (i < j)))) := rfl
theorem o_le {i j : Int} : oLe (.dat (.int i)) (.dat (.int j)) = some (.dat (.bl (decide (i ≤ j)))) := rfl
theorem o_gt {i j : Int} : oGt (.dat (.int i)) (.dat (.int j)) = some (.dat (.bl (decide (j < i)))) := rfl
theorem o_ge {i j : Int} : oGe (.dat (.int i)) (.dat (.int j)) = some (.dat (.bl (decide (j ≤ i)))) := rfl
theorem o_eqB {i j : Bool} : oEq (.dat (.bl i)) (.dat (.bl j)) = some (.dat (.bl (i == j))) := rfl
theorem o_neB {i j : Bool} : oNe (.dat (.bl i)) (.dat (.bl j)) = some (.dat (.bl (!(i == j)))) := rfl
theorem o_is2 {i j : Bool} : oIs2 (.dat (.bl i)) (.dat (.bl j)) = some (.dat (.bl (decide (i = j)))) := rfl
theorem o_isnot2 {i j : Bool} : oIsNot2 (.dat (.bl i)) (.dat (.bl j)) = some (.dat (.bl (!decide (i = j)))) := rfl
theorem o_abs {i : Int} : oAbs [.dat (.int i)] = some (.dat (.int (if i < 0 then -i else i))) := rfl
theorem o_ix {ds : List D} {i : Int} : oIx (.dat (.tup ds)) (.dat (.int i)) = (atI ds i).map .dat := rfl
theorem o_ixO {ds : List D} {i : Int} : oIx (.own ds) (.dat (.int i)) = (atI ds i).map .dat := rfl
theorem o_ixB {ds : List D} {i : Int} : oIx (.bor ds) (.dat (.int i)) = (atI ds i).map .dat := rfl
theorem o_ixL {ds : List D} {i : Int} : oIx (.dat (.lst ds)) (.dat (.int i)) = (atI ds i).map .dat := rfl
theorem o_tupO {ds : List D} : oTuple [.own ds] = some (.dat (.tup ds)) := rfl
theorem o_isBool {b : Bool} : oIs .bool (.dat (.bl b)) = some (.dat (.bl true)) := rfl
theorem o_any {ds : List D} : oAny [.own ds] = (dBls ds).map fun bs => dB (bs.any id) := rfl
end
section
variable {γ : Type} {g : γ} {F : MF γ} {Q : Rv → γ → Prop} {xs : List Rv} {e : Env} {t : MT γ} {a : ME γ}
theorem kCall_u : kCall F Q xs g = SatO (stoL xs) (fun ds g => Sat (F ds g) Q) g := by
  unfold kCall
  cases stoL xs <;> rfl
theorem kT_u : kT Q xs g = SatO (stoL xs) (fun ds g => ds.length ≤ SZ ∧ Q (.dat (.tup ds)) g) g := by
  unfold kT
  cases stoL xs <;> rfl
theorem kL_u : kL Q xs g = SatO (stoL xs) (fun ds g => ds.length ≤ SZ ∧ Q (.own ds) g) g := by
  unfold kL
  cases stoL xs <;> rfl
theorem o_mul_u {i j : Int} {P : Rv → γ → Prop} : SatO (oMul (.dat (.int i)) (.dat (.int j))) P g = (MulOk i j ∧ P (.dat (.int (i * j))) g) := SatO_ite _ _ _ _
theorem o_div_u {i j : Int} {P : Rv → γ → Prop} : SatO (oDiv (.dat (.int i)) (.dat (.int j))) P g = (DivOk j ∧ P (.dat (.int (i / j))) g) := SatO_ite _ _ _ _
theorem o_mod_u {i j : Int} {P : Rv → γ → Prop} : SatO (oMod (.dat (.int i)) (.dat (.int j))) P g = (0 < j ∧ P (.dat (.int (i % j))) g) := SatO_ite _ _ _ _
theorem o_pow_u {i j : Int} {P : Rv → γ → Prop} : SatO (oPow (.dat (.int i)) (.dat (.int j))) P g = (PowOk i j ∧ P (.dat (.int (i ^ j.toNat))) g) := SatO_ite _ _ _ _
theorem map_some' {α β : Type} (f : α → β) (x : α) : (some x).map f = some (f x) := rfl
theorem dBls_rep (n : Nat) : dBls (List.replicate n (.bl true)) = some (List.replicate n true) := by
  induction n with
  | zero => rfl
  | succ n ih =>
    rw [List.replicate_succ, List.replicate_succ]
    show (dBls _).map _ = _
    rw [ih]
    rfl
theorem o_all_rep {n : Nat} : oAll [.own (List.replicate n (.bl true))] = some (.dat (.bl true)) := by
  show (dBls _).map _ = _
  rw [dBls_rep]
  have : (List.replicate n true).all id = true := by
    induction n with
    | zero => rfl
    | succ n ih => rw [List.replicate_succ, List.all_cons, ih]; rfl
  show some (dB ((List.replicate n true).all id)) = _
  rw [this]
  rfl
/-- a comprehension that tells True of each item it takes -/
theorem S_lcAll {tg : MG} {ds : List D} (hl : ds.length ≤ SZ)
    (hs : ∀ d ∈ ds, ∃ e1, tg d e = some e1 ∧ Sat (t e1 g) fun c g1 => g1 = g ∧ (c = true → Sat (a e1 g) fun r g2 => g2 = g ∧ r = .dat (.bl true)))
    (hd : ∀ n, Q (.own (List.replicate n (.bl true))) g) : Sat (lcL tg t a e ds [] g) Q := by
  have key : ∀ post n, post.length + n ≤ SZ → (∀ d ∈ post, d ∈ ds) → Sat (lcL tg t a e post (List.replicate n (.bl true)) g) Q := by
    intro post
    induction post with
    | nil =>
      intro n _ _
      exact hd n
    | cons d post ih =>
      intro n hn hm
      obtain ⟨e1, h1, h2⟩ := hs d (hm d (by simp))
      rw [S_lcCons h1]
      refine h2.mono fun c g1 q => ?_
      obtain ⟨rfl, q⟩ := q
      rw [List.length_cons] at hn
      cases c with
      | false => exact ih n (by omega) (fun d hd => hm d (by simp [hd]))
      | true =>
        refine (q rfl).mono fun r g2 q2 => ?_
        obtain ⟨rfl, rfl⟩ := q2
        rw [kLcA_dat]
        refine ⟨by rw [List.length_replicate]; omega, ?_⟩
        have := ih (n + 1) (by omega) (fun d hd => hm d (by simp [hd]))
        rw [List.replicate_succ'] at this
        exact this
  exact key ds 0 (by omega) (fun d h => h)
end
section
variable {γ : Type} {g : γ} {QS : Fl → γ → Prop} {QI : List D → γ → Prop} {Q : Rv → γ → Prop} {e : Env} {a b k : ME γ} {i : Nat}
def kPutK (i : Nat) (e : Env) (ds : List D) (QS : Fl → γ → Prop) (y z : Rv) (g : γ) : Prop := SatO y.sto (fun d g => match z with
  | .dat (.int n) => SatO (ixN ds.length n) (fun j g => QS (.nx (st e i (.own (ds.set j d)))) g) g
  | _ => False) g
def kPut (k : ME γ) (i : Nat) (e : Env) (ds : List D) (QS : Fl → γ → Prop) (y : Rv) (g : γ) : Prop := Sat (k e g) (kPutK i e ds QS y)
theorem S_put {ds : List D} (h : gt e i = .own ds) : Sat (mPut i k a e g) QS = Sat (a e g) (kPut k i e ds QS) := by
  unfold mPut
  rw [Sat_bind]
  congr 1
  funext y g
  rw [h]
  dsimp only
  rw [Sat_bind]
  unfold kPut
  congr 1
  funext z g
  unfold kPutK
  cases hy : y.sto with
  | none => rfl
  | some d =>
    cases z with
    | dat z => 
      cases z with
      | int n =>
        dsimp only [SatO]
        cases ixN ds.length n <;> rfl
      | _ => rfl
    | own z => rfl
    | bor z => rfl
theorem kPut_ {ds : List D} {y : Rv} : kPut k i e ds QS y g = Sat (k e g) (kPutK i e ds QS y) := rfl
theorem kPutK_ {ds : List D} {d : D} {n : Int} : kPutK i e ds QS (.dat d) (.dat (.int n)) g = SatO (ixN ds.length n) (fun j g => QS (.nx (st e i (.own (ds.set j d)))) g) g := rfl
def kZip (b : ME γ) (e : Env) (QI : List D → γ → Prop) (x : Rv) (g : γ) : Prop := Sat (b e g) fun y g => SatO (zip2 x y) QI g
def kZipb (QI : List D → γ → Prop) (x y : Rv) (g : γ) : Prop := SatO (zip2 x y) QI g
theorem S_zip2 : Sat (mZip2 a b e g) QI = Sat (a e g) (kZip b e QI) := by
  unfold mZip2 kZip
  rw [Sat_bind]
  congr 1
  funext x g
  rw [Sat_bind]
  congr 1
  funext y g
  exact Sat_ofO _ _ _
theorem kZip_ {x : Rv} : kZip b e QI x g = Sat (b e g) (kZipb QI x) := rfl
theorem kZipb_tup {xs ys : List D} : kZipb QI (.dat (.tup xs)) (.dat (.tup ys)) g = QI (zipD xs ys) g := rfl
theorem o_sum {ds : List D} : oSum [.own ds] = (dInts ds).map fun ns => .dat (.int ns.sum) := rfl
theorem o_sumB {ds : List D} : oSum [.bor ds] = (dInts ds).map fun ns => .dat (.int ns.sum) := rfl
theorem o_tupB {ds : List D} : oTuple [.bor ds] = some (.dat (.tup ds)) := rfl
theorem o_tupL {ds : List D} : oTuple [.dat (.lst ds)] = some (.dat (.tup ds)) := rfl
theorem o_lenT {ds : List D} : oLen [.dat (.tup ds)] = some (.dat (.int ds.length)) := rfl
theorem o_isT {T : Ty} {d : D} (h : ∀ a, d ≠ .ref a) (h2 : ∀ t ks vs, d ≠ .dct t ks vs) : oIs T (.dat d) = some (.dat (.bl (isTy T d))) := by
  cases d with
  | ref a => exact absurd rfl (h a)
  | dct t ks vs => exact absurd rfl (h2 t ks vs)
  | _ => rfl
theorem kRng_3 : kRng QI (.dat (.int 3)) g = QI [.int 0, .int 1, .int 2] g := by
  rw [kRng_]
  exact propext ⟨fun h => h.2, fun h => ⟨by decide, h⟩⟩
end
section
variable {γ : Type} {g : γ} {QS : Fl → γ → Prop} {Q : Rv → γ → Prop} {e : Env} {t : MT γ} {a b : ME γ}
/-- a loop over data made of things of one kind -/
theorem S_forA {α : Type} {tg : MG} {b : MS γ} (ls : List α) (dn : α → D) (I : List α → List α → Env → γ → Prop) (h0 : I [] ls e g)
    (hs : ∀ pre x post e g, ls = pre ++ x :: post → I pre (x :: post) e g → ∃ e1, tg (dn x) e = some e1 ∧ Sat (b e1 g) fun f g2 => match f with
      | .nx e2 => I (pre ++ [x]) post e2 g2
      | .ct e2 => I (pre ++ [x]) post e2 g2
      | .bk e2 => QS (.nx e2) g2
      | .rt r => QS (.rt r) g2)
    (hd : ∀ e g, I ls [] e g → QS (.nx e) g) : Sat (forL tg b (ls.map dn) e g) QS := by
  have key : ∀ post pre e g, ls = pre ++ post → I pre post e g → Sat (forL tg b (post.map dn) e g) QS := by
    intro post
    induction post with
    | nil =>
      intro pre e g hp hi
      rw [List.append_nil] at hp
      subst hp
      exact hd e g hi
    | cons d post ih =>
      intro pre e g hp hi
      obtain ⟨e1, h1, h2⟩ := hs pre d post e g hp hi
      rw [List.map_cons, S_forCons h1]
      refine h2.mono fun f g2 q => ?_
      have hp2 : ls = (pre ++ [d]) ++ post := by rw [hp, List.append_assoc]; rfl
      cases f with
      | nx e2 => exact ih _ _ _ hp2 q
      | ct e2 => exact ih _ _ _ hp2 q
      | bk e2 => exact q
      | rt r => exact q
  exact key ls [] e g rfl h0
/-- a comprehension over such, nothing changed -/
theorem S_lcA {α : Type} {tg : MG} (ls : List α) (dn fn : α → D) (hl : ls.length ≤ SZ)
    (hs : ∀ x ∈ ls, ∃ e1, tg (dn x) e = some e1 ∧ Sat (t e1 g) fun c g1 => c = true ∧ g1 = g ∧ Sat (a e1 g) fun r g2 => r.sto = some (fn x) ∧ g2 = g)
    (hd : Q (.own (ls.map fn)) g) : Sat (lcL tg t a e (ls.map dn) [] g) Q := by
  have key : ∀ post pre, ls = pre ++ post → Sat (lcL tg t a e (post.map dn) (pre.map fn) g) Q := by
    intro post
    induction post with
    | nil =>
      intro pre hp
      rw [List.append_nil] at hp
      subst hp
      exact hd
    | cons d post ih =>
      intro pre hp
      obtain ⟨e1, h1, h2⟩ := hs d (by rw [hp]; simp)
      rw [List.map_cons, S_lcCons h1]
      refine h2.mono fun c g1 q => ?_
      obtain ⟨rfl, rfl, q⟩ := q
      rw [kLcT_true]
      refine q.mono fun r g2 q2 => ?_
      obtain ⟨q2, rfl⟩ := q2
      unfold kLcA
      rw [q2]
      have hpl : (pre.map fn).length < SZ := by
        rw [List.length_map]
        have := congrArg List.length hp
        rw [List.length_append, List.length_cons] at this
        omega
      refine ⟨hpl, ?_⟩
      have hp2 : ls = (pre ++ [d]) ++ post := by rw [hp, List.append_assoc]; rfl
      have := ih (pre ++ [d]) hp2
      rw [List.map_append] at this
      exact this
  exact key ls [] rfl
theorem o_eqS {i j : List Nat} : oEq (.dat (.str i)) (.dat (.str j)) = some (.dat (.bl (i == j))) := rfl
theorem o_neS {i j : List Nat} : oNe (.dat (.str i)) (.dat (.str j)) = some (.dat (.bl (!(i == j)))) := rfl
theorem o_ixT {ds : List D} {i : Int} : oIx (.dat (.tup ds)) (.dat (.int i)) = (atI ds i).map .dat := rfl
theorem o_ixS {s : List Nat} {i : Int} : oIx (.dat (.str s)) (.dat (.int i)) = (atI s i).map fun c => .dat (.str [c]) := rfl
theorem o_intB {b : Bool} : oInt [.dat (.bl b)] = some (.dat (.int (if b then 1 else 0))) := rfl
theorem o_lenS {s : List Nat} : oLen [.dat (.str s)] = some (.dat (.int s.length)) := rfl
theorem o_lenO {s : List D} : oLen [.own s] = some (.dat (.int s.length)) := rfl
theorem o_lenB {s : List D} : oLen [.bor s] = some (.dat (.int s.length)) := rfl
theorem o_iaddI {i j : Int} : oIAdd (.dat (.int i)) (.dat (.int j)) = some (.dat (.int (i + j))) := rfl
def kS1 (f : List Nat → Rv → Option Rv) (b : ME γ) (e : Env) (Q : Rv → γ → Prop) (x : Rv) (g : γ) : Prop := match x with
  | .dat (.str s) => Sat (b e g) fun y g2 => SatO (f s y) Q g2
  | _ => False
def kS1b (f : List Nat → Rv → Option Rv) (s : List Nat) (Q : Rv → γ → Prop) (y : Rv) (g : γ) : Prop := SatO (f s y) Q g
theorem S_s1 {f : List Nat → Rv → Option Rv} : Sat (mS1 f a b e g) Q = Sat (a e g) (kS1 f b e Q) := by
  unfold mS1
  rw [Sat_bind]
  congr 1
  funext x g
  unfold kS1
  cases x with
  | dat d =>
    cases d with
    | str s =>
      dsimp only
      rw [Sat_bind]
      congr 1
      funext y g2
      exact Sat_ofO _ _ _
    | _ => rfl
  | own d => rfl
  | bor d => rfl
theorem kS1_ {f : List Nat → Rv → Option Rv} {s : List Nat} : kS1 f b e Q (.dat (.str s)) g = Sat (b e g) (kS1b f s Q) := rfl
theorem kS1b_ {f : List Nat → Rv → Option Rv} {s : List Nat} {y : Rv} : kS1b f s Q y g = SatO (f s y) Q g := rfl
def kLm (f : List D → D → Option Int) (b : ME γ) (e : Env) (Q : Rv → γ → Prop) (x : Rv) (g : γ) : Prop := match x.items with
  | some l => Sat (b e g) fun y g2 => SatO (f l y.val) (fun n g => Q (.dat (.int n)) g) g2
  | none => False
def kLmb (f : List D → D → Option Int) (l : List D) (Q : Rv → γ → Prop) (y : Rv) (g : γ) : Prop := SatO (f l y.val) (fun n g => Q (.dat (.int n)) g) g
theorem S_lm {f : List D → D → Option Int} : Sat (mLm f a b e g) Q = Sat (a e g) (kLm f b e Q) := by
  unfold mLm
  rw [Sat_bind]
  congr 1
  funext x g
  unfold kLm
  cases x.items with
  | none => rfl
  | some l =>
    dsimp only
    rw [Sat_bind]
    congr 1
    funext y g2
    rw [Sat_ofO]
    cases f l y.val <;> rfl
theorem kLm_bor {f : List D → D → Option Int} {l : List D} : kLm f b e Q (.bor l) g = Sat (b e g) (kLmb f l Q) := rfl
theorem kLm_own {f : List D → D → Option Int} {l : List D} : kLm f b e Q (.own l) g = Sat (b e g) (kLmb f l Q) := rfl
theorem kLmb_ {f : List D → D → Option Int} {l : List D} {d : D} : kLmb f l Q (.dat d) g = SatO (f l d) (fun n g => Q (.dat (.int n)) g) g := rfl
def kTab (tab : List (List Nat × D)) (Q : Rv → γ → Prop) (y : Rv) (g : γ) : Prop := match y with
  | .dat (.str s) => SatO (tab.find? (fun q => q.1 == s)) (fun q g => Q (.dat q.2) g) g
  | _ => False
theorem S_tab {tab : List (List Nat × D)} : Sat (mTab tab a e g) Q = Sat (a e g) (kTab tab Q) := by
  unfold mTab
  rw [Sat_bind]
  congr 1
  funext x g
  unfold kTab
  cases x with
  | dat d =>
    cases d with
    | str s =>
      dsimp only
      rw [Sat_ofO]
      cases tab.find? (fun q => q.1 == s) <;> rfl
    | _ => rfl
  | own d => rfl
  | bor d => rfl
end
theorem rng_map (n : Nat) : ∀ (i : Int), rng i n = (List.range n).map fun k => D.int (i + (k : Nat)) := by
  induction n with
  | zero => intro i; rfl
  | succ n ih =>
    intro i
    rw [rng, ih, List.range_succ_eq_map, List.map_cons, List.map_map]
    congr 1
    · simp
    · apply List.map_congr_left
      intro k _
      show D.int _ = D.int _
      congr 1
      show i + 1 + (k : Int) = i + ((k + 1 : Nat) : Int)
      omega
theorem log2_lt {a n : Nat} (h : a < 2 ^ n) (hn : 0 < n) : a.log2 < n := by
  by_cases h0 : a = 0
  · subst h0
    exact hn
  · exact (Nat.log2_lt h0).mpr h
theorem mulOk {i j : Int} {a b : Nat} (hi : i.natAbs < 2 ^ a) (hj : j.natAbs < 2 ^ b) (h : a + b ≤ 1000000) (ha : 0 < a) (hb : 0 < b) : MulOk i j := by
  have h1 := log2_lt hi ha
  have h2 := log2_lt hj hb
  show _ + _ < _
  omega
theorem divOk {j : Int} {b : Nat} (h0 : 0 < j) (hj : j.natAbs < 2 ^ b) (h : b ≤ 9000) (hb : 0 < b) : DivOk j := ⟨h0, by have := log2_lt hj hb; omega⟩
end PB
set_option Elab.async false
set_option linter.all false
set_option maxRecDepth 10000
set_option exponentiation.threshold 2000
namespace PB
def mixM : MS LS := (mSeq (mIncC 0)
    (mSeq (mSet 1 (mCnt 0))
    (mSeq (mSet 2 (mC (.int 5)))
    (mSeq (mIfS (mHasC 0) (mSet 2 (mAtC 0 (mOp2 oMod (mVar 1) (mLenC 0)))) mPass)
    (mSeq (mSet 3 (mOp2 oMod (mOp2 oPow (mOp2 oAdd (mOp2 oAdd (mOp2 oAdd (mVar 2) (mOp2 oMul (mOp2 oMul (mC (.int 1009)) (mVar 1)) (mVar 1))) (mOp2 oMul (mC (.int 48611)) (mVar 1))) (mC (.int 17))) (mC (.int 5))) (mC (.int 2147483647))))
    (mRet (mOp2 oMod (mOp2 oAdd (mOp2 oMul (mVar 3) (mC (.int 39373))) (mOp2 oMul (mC (.int 7919)) (mVar 1))) (mC (.int 1000000007)))))))))
def mixF : MF LS := mDef 4 1 mixM
def drawM : MS LS := (mSeq (mIfS (mAnd (mTest (mOp2 oEq (mTold 0) (mC (.int 0)))) (mHasG 0)) (mPopG 0) mPass)
    (mSeq (mIfS (mTest (mOp2 oGt (mTold 0) (mC (.int 0)))) (mSeq (mSet 2 (mOp2 oMod (mTold 0) (mVar 1)))
    (mSeq (mSetTold 0 (mOp2 oDiv (mTold 0) (mVar 1)))
    (mRet (mVar 2)))) mPass)
    (mSeq (mSet 2 (mC (.int 0)))
    (mSeq (mSet 3 (mC (.int 1)))
    (mSeq (mWhile (mTest (mOp2 oLt (mVar 3) (mVar 1))) (mSeq (mSet 2 (mOp2 oAdd (mOp2 oMul (mVar 2) (mC (.int 1000000007))) (mCall mixF (mCons (mVar 0) mNil))))
    (mSet 3 (mOp2 oMul (mVar 3) (mC (.int 1000000007))))) 100)
    (mRet (mOp2 oMod (mVar 2) (mVar 1))))))))
def drawF : MF LS := mDef 4 2 drawM
theorem bpow_le {j k : Nat} (h : j ≤ k) : (1000000007 : Int) ^ j ≤ 1000000007 ^ k := by
  have e : ∀ j : Nat, (1000000007 : Int) ^ j = ((1000000007 ^ j : Nat) : Int) := fun j => by
    rw [Int.natCast_pow]
    rfl
  rw [e, e]
  exact Int.ofNat_le.mpr (Nat.pow_le_pow_right (by decide) h)
/-- the state, so many draws to come -/
structure Bud (a b : Nat) (s : LS) : Prop where
  ok : s.Ok
  ea : s.a = a
  cn : s.cnt + 16 * b ≤ 100000000
theorem Bud.le {a b c : Nat} {s : LS} (h : Bud a b s) (k : c ≤ b) : Bud a c s := ⟨h.ok, h.ea, by have := h.cn; omega⟩
theorem isSt_ {e : Env} {i a : Nat} {s : LS} (h : gt e i = .dat (.ref a)) (k : s.a = a) : isSt e i s = true := by
  unfold isSt
  rw [h]
  simp [k]
section
variable {e : Env} {i a b : Nat} {s : LS} {Q : Rv → LS → Prop} {QS : Fl → LS → Prop} {QB : Bool → LS → Prop}
theorem S_told (h : isSt e i s = true) : Sat (mTold i e s) Q = Q (.dat (.int s.told)) s := by
  unfold mTold
  rw [if_pos h]
  rfl
theorem S_cnt (h : isSt e i s = true) : Sat (mCnt i e s) Q = Q (.dat (.int s.cnt)) s := by
  unfold mCnt
  rw [if_pos h]
  rfl
theorem S_hasG (h : isSt e i s = true) : Sat (mHasG i e s) QB = QB (!s.gr.isEmpty) s := by
  unfold mHasG
  rw [if_pos h]
  rfl
theorem S_hasC (h : isSt e i s = true) : Sat (mHasC i e s) QB = QB (!s.cs.isEmpty) s := by
  unfold mHasC
  rw [if_pos h]
  rfl
theorem S_incC (h : isSt e i s = true) : Sat (mIncC i e s) QS = QS (.nx e) { s with cnt := s.cnt + 1 } := by
  unfold mIncC
  rw [if_pos h]
  rfl
end
theorem atI_nat {α : Type} {xs : List α} {i : Int} (h0 : 0 ≤ i) (h1 : i < xs.length) : ∃ x, x ∈ xs ∧ atI xs i = some x := by
  have hi : i.toNat < xs.length := by omega
  refine ⟨xs[i.toNat], List.getElem_mem hi, ?_⟩
  unfold atI ixN
  rw [if_pos h0, if_pos h1]
  show xs[i.toNat]? = _
  exact List.getElem?_eq_getElem hi
theorem pw5 {x : Int} (h0 : 0 ≤ x) (h1 : x < 2 ^ 64) : PowOk x 5 := ⟨by decide, by decide, by omega⟩
theorem S_mix {a b : Nat} {s : LS} {Q : Rv → LS → Prop} (h : s.Ok) (ea : s.a = a) (hc : s.cnt < 100000000)
    (q : ∀ k : Int, 0 ≤ k → k < 1000000007 → Q (.dat (.int k)) { s with cnt := s.cnt + 1 }) : Sat (mixF [.ref a] s) Q := by
  unfold mixF
  rw [S_def (k := 1) (ds := [.ref a]) rfl]
  show Sat (mixM [.dat (.ref a), .un, .un, .un] s) _
  unfold mixM
  rw [S_seq, S_incC (isSt_ rfl ea), kS_nx, S_seq, S_set, S_cnt (s := { s with cnt := s.cnt + 1 }) (isSt_ rfl ea), kSet_dat, kS_nx, S_seq, S_set, S_C, kSet_dat, kS_nx]
  dsimp only [st]
  rw [S_seq, S_ifS, S_hasC (s := { s with cnt := s.cnt + 1 }) (isSt_ rfl ea)]
  have fin : ∀ c : Int, 0 ≤ c → c < 2147483648 → Sat ((mSeq (mSet 3 (mOp2 oMod (mOp2 oPow (mOp2 oAdd (mOp2 oAdd (mOp2 oAdd (mVar 2) (mOp2 oMul (mOp2 oMul (mC (.int 1009)) (mVar 1)) (mVar 1))) (mOp2 oMul (mC (.int 48611)) (mVar 1))) (mC (.int 17))) (mC (.int 5))) (mC (.int 2147483647))))
    (mRet (mOp2 oMod (mOp2 oAdd (mOp2 oMul (mVar 3) (mC (.int 39373))) (mOp2 oMul (mC (.int 7919)) (mVar 1))) (mC (.int 1000000007))))) [.dat (.ref a), .dat (.int ((s.cnt + 1 : Nat) : Int)), .dat (.int c), .un] { s with cnt := s.cnt + 1 }) (kD Q) := by
    intro c c0 c1
    have hn : (s.cnt + 1 : Nat) ≤ 100000000 := by omega
    have hn0 : 0 ≤ ((s.cnt + 1 : Nat) : Int) := by omega
    have hn1 : ((s.cnt + 1 : Nat) : Int) ≤ 100000000 := by omega
    generalize ((s.cnt + 1 : Nat) : Int) = n at *
    rw [S_seq, S_set, S_op2, S_op2, S_op2, S_op2, S_op2, S_var]
    dsimp only [gt]
    rw [kVar_dat, k2_, S_op2, S_op2, S_C, k2_, S_var]
    dsimp only [gt]
    rw [kVar_dat, k2b_, o_mul (mulOk (a := 10) (b := 27) (by decide) (by omega) (by decide) (by decide) (by decide)), SatO_some, k2_, S_var]
    dsimp only [gt]
    have b1 : 0 ≤ 1009 * n := by omega
    have b2 : 1009 * n ≤ 100900000000 := by omega
    have b3 : 0 ≤ 1009 * n * n := Int.mul_nonneg b1 hn0
    have b4 : 1009 * n * n ≤ 100900000000 * 100000000 := Int.mul_le_mul b2 hn1 hn0 (by decide)
    rw [kVar_dat, k2b_, o_mul (mulOk (a := 40) (b := 27) (by omega) (by omega) (by decide) (by decide) (by decide)), SatO_some, k2b_, o_add, SatO_some, k2_, S_op2, S_C, k2_, S_var]
    dsimp only [gt]
    rw [kVar_dat, k2b_, o_mul (mulOk (a := 20) (b := 27) (by decide) (by omega) (by decide) (by decide) (by decide)), SatO_some, k2b_, o_add, SatO_some, k2_, S_C, k2b_, o_add, SatO_some, k2_, S_C, k2b_, o_pow (pw5 (by omega) (by omega)), SatO_some, k2_, S_C, k2b_, o_mod (by decide), SatO_some, kSet_dat, kS_nx]
    dsimp only [st]
    have m0 := Int.emod_nonneg ((c + 1009 * n * n + 48611 * n + 17) ^ (5 : Int).toNat) (show (2147483647 : Int) ≠ 0 by decide)
    have m1 := Int.emod_lt_of_pos ((c + 1009 * n * n + 48611 * n + 17) ^ (5 : Int).toNat) (show (0 : Int) < 2147483647 by decide)
    generalize (c + 1009 * n * n + 48611 * n + 17) ^ (5 : Int).toNat % 2147483647 = m at *
    rw [S_ret', S_op2, S_op2, S_op2, S_var]
    dsimp only [gt]
    rw [kVar_dat, k2_, S_C, k2b_, o_mul (mulOk (a := 32) (b := 20) (by omega) (by decide) (by decide) (by decide) (by decide)), SatO_some, k2_, S_op2, S_C, k2_, S_var]
    dsimp only [gt]
    rw [kVar_dat, k2b_, o_mul (mulOk (a := 20) (b := 27) (by decide) (by omega) (by decide) (by decide) (by decide)), SatO_some, k2b_, o_add, SatO_some, k2_, S_C, k2b_, o_mod (by decide), SatO_some, kR_, kD_rt]
    exact q _ (Int.emod_nonneg _ (by decide)) (Int.emod_lt_of_pos _ (by decide))
  cases hcs : s.cs.isEmpty with
  | true => exact fin 5 (by decide) (by decide)
  | false =>
    show Sat (mSet 2 (mAtC 0 (mOp2 oMod (mVar 1) (mLenC 0))) _ _) _
    have hl : 0 < s.cs.length := by
      cases hq : s.cs with
      | nil =>
        rw [hq] at hcs
        cases hcs
      | cons x xs => simp
    have r0 := Int.emod_nonneg ((s.cnt + 1 : Nat) : Int) (show ((s.cs.length : Nat) : Int) ≠ 0 by omega)
    have r1 := Int.emod_lt_of_pos ((s.cnt + 1 : Nat) : Int) (show (0 : Int) < (s.cs.length : Nat) by omega)
    obtain ⟨x, hx, ex⟩ := atI_nat r0 r1
    have hx2 := h.2.2 x hx
    have key : mAtC 0 (mOp2 oMod (mVar 1) (mLenC 0)) [.dat (.ref a), .dat (.int ((s.cnt + 1 : Nat) : Int)), .dat (.int 5), .un] { s with cnt := s.cnt + 1 } = .ok (.dat (.int x)) { s with cnt := s.cnt + 1 } := by
      unfold mAtC mOp2 mVar mLenC
      have z : ∀ m, isSt [.dat (.ref a), .dat (.int ((s.cnt + 1 : Nat) : Int)), .dat (.int 5), .un] 0 { s with cnt := m } = true := fun m => isSt_ rfl ea
      rw [if_pos (z _)]
      dsimp only [gt, Rs.bind_ok]
      rw [if_pos (z _)]
      dsimp only [Rs.bind_ok]
      rw [o_mod (by omega), ofO_some]
      dsimp only [Rs.bind_ok]
      rw [if_pos (z _), ex]
      rfl
    rw [S_set, key, Sat_ok, kSet_dat, kS_nx]
    exact fin x hx2.1 (by omega)
/-- a draw -/
theorem S_draw {a b : Nat} {n : Int} {s : LS} {Q : Rv → LS → Prop} (h : Bud a (b + 1) s) (n0 : 0 < n) (n1 : n ≤ 10 ^ 90)
    (q : ∀ (k : Int) (s' : LS), 0 ≤ k → k < n → Bud a b s' → Q (.dat (.int k)) s') : Sat (drawF [.ref a, .int n] s) Q := by
  have nb : n.natAbs < 2 ^ 300 := by
    have : (10 : Int) ^ 90 < 2 ^ 300 := by decide
    omega
  have hcn := h.cn
  -- with a number told
  have told : ∀ s' : LS, s'.Ok → s'.a = a → s'.cnt = s.cnt → 0 < s'.told → Sat ((mSeq (mSet 2 (mOp2 oMod (mTold 0) (mVar 1)))
    (mSeq (mSetTold 0 (mOp2 oDiv (mTold 0) (mVar 1)))
    (mRet (mVar 2)))) [.dat (.ref a), .dat (.int n), .un, .un] s') (fun f g => kD Q f g ∧ ∃ r, f = .rt r) := by
    intro s' h1 h2 h3 h4
    rw [S_seq, S_set, S_op2, S_told (isSt_ rfl h2), k2_, S_var]
    dsimp only [gt]
    rw [kVar_dat, k2b_, o_mod n0, SatO_some, kSet_dat, kS_nx]
    dsimp only [st]
    have key : mSetTold 0 (mOp2 oDiv (mTold 0) (mVar 1)) [.dat (.ref a), .dat (.int n), .dat (.int (s'.told % n)), .un] s' = .ok (.nx [.dat (.ref a), .dat (.int n), .dat (.int (s'.told % n)), .un]) { s' with told := s'.told / n } := by
      unfold mSetTold mOp2 mVar mTold
      have z : isSt [.dat (.ref a), .dat (.int n), .dat (.int (s'.told % n)), .un] 0 s' = true := isSt_ rfl h2
      rw [if_pos z]
      dsimp only [gt, Rs.bind_ok]
      rw [o_div (divOk n0 nb (by decide) (by decide)), ofO_some]
      dsimp only [Rs.bind_ok]
      rw [if_pos z]
    rw [S_seq, key, Sat_ok, kS_nx, S_ret', S_var]
    dsimp only [gt]
    rw [kVar_dat, kR_]
    refine ⟨?_, _, rfl⟩
    rw [kD_rt]
    refine q _ _ (Int.emod_nonneg _ (by omega)) (Int.emod_lt_of_pos _ n0) ⟨⟨?_, h1.2.1, h1.2.2⟩, h2, ?_⟩
    · show 0 ≤ s'.told / n
      exact Int.ediv_nonneg (by omega) (by omega)
    · show s'.cnt + 16 * b ≤ _
      omega
  -- the rest
  have rest : ∀ s' : LS, s'.Ok → s'.a = a → s'.cnt = s.cnt → Sat ((mSeq (mSet 2 (mC (.int 0)))
    (mSeq (mSet 3 (mC (.int 1)))
    (mSeq (mWhile (mTest (mOp2 oLt (mVar 3) (mVar 1))) (mSeq (mSet 2 (mOp2 oAdd (mOp2 oMul (mVar 2) (mC (.int 1000000007))) (mCall mixF (mCons (mVar 0) mNil))))
    (mSet 3 (mOp2 oMul (mVar 3) (mC (.int 1000000007))))) 100)
    (mRet (mOp2 oMod (mVar 2) (mVar 1)))))) [.dat (.ref a), .dat (.int n), .un, .un] s') (kD Q) := by
    intro s' h1 h2 h3
    rw [S_seq, S_set, S_C, kSet_dat, kS_nx, S_seq, S_set, S_C, kSet_dat, kS_nx]
    dsimp only [st]
    rw [S_seq]
    refine S_while (fun m e g => ∃ (t z : Int) (j : Nat), e = [.dat (.ref a), .dat (.int n), .dat (.int t), .dat (.int z)] ∧ g.Ok ∧ g.a = a ∧ g.cnt = s.cnt + j ∧ j + m = 12 ∧ z = 1000000007 ^ j ∧ 0 ≤ t ∧ t < z) 12 ⟨0, 1, 0, rfl, h1, h2, h3, rfl, rfl, by decide, by decide⟩ (by decide) ?_
    rintro m e g ⟨t, z, j, rfl, g1, g2, g3, g4, g5, g6, g7⟩
    rw [S_test, S_op2, S_var]
    dsimp only [gt]
    rw [kVar_dat, k2_, S_var]
    dsimp only [gt]
    rw [kVar_dat, k2b_, o_lt, SatO_some, kTest_]
    have zle : ∀ j : Nat, j ≤ 12 → (1000000007 : Int) ^ j < 2 ^ 400 := fun j hj => by
      have e1 : (1000000007 : Int) ^ j ≤ 1000000007 ^ 12 := bpow_le hj
      have e2 : (1000000007 : Int) ^ 12 < 2 ^ 400 := by decide
      omega
    have zpos : (0 : Int) < 1000000007 ^ j := Int.pow_pos (by decide)
    by_cases hz : z < n
    · rw [decide_eq_true hz]
      dsimp only
      have hj : j < 11 := by
        by_cases hj : j < 11
        · exact hj
        · exfalso
          have e1 : (1000000007 : Int) ^ 11 ≤ 1000000007 ^ j := bpow_le (by omega)
          have e2 : (10 : Int) ^ 90 < 1000000007 ^ 11 := by decide
          omega
      have zb := zle j (by omega)
      rw [S_seq, S_set, S_op2, S_op2, S_var]
      dsimp only [gt]
      rw [kVar_dat, k2_, S_C, k2b_, o_mul (mulOk (a := 400) (b := 32) (by omega) (by decide) (by decide) (by decide) (by decide)), SatO_some, k2_, S_call, S_cons, S_var]
      dsimp only [gt]
      rw [kVar_dat, kc_, S_nil, kcb_, kCall_ (ds := [.ref a]) rfl]
      refine S_mix (b := 0) g1 g2 (by omega) fun k k0 k1 => ?_
      rw [k2b_, o_add, SatO_some, kSet_dat, kS_nx]
      dsimp only [st]
      rw [S_set, S_op2, S_var]
      dsimp only [gt]
      rw [kVar_dat, k2_, S_C, k2b_, o_mul (mulOk (a := 400) (b := 32) (by omega) (by decide) (by decide) (by decide) (by decide)), SatO_some, kSet_dat]
      dsimp only [st]
      refine ⟨m - 1, by omega, _, _, j + 1, rfl, g1, g2, ?_, by omega, ?_, ?_, ?_⟩
      · show g.cnt + 1 = _
        omega
      · rw [g5, Int.pow_succ]
      · omega
      · omega
    · rw [decide_eq_false hz]
      dsimp only
      rw [kS_nx, S_ret', S_op2, S_var]
      dsimp only [gt]
      rw [kVar_dat, k2_, S_var]
      dsimp only [gt]
      rw [kVar_dat, k2b_, o_mod n0, SatO_some, kR_, kD_rt]
      exact q _ _ (Int.emod_nonneg _ (by omega)) (Int.emod_lt_of_pos _ n0) ⟨g1, g2, by omega⟩
  unfold drawF
  rw [S_def (k := 2) (ds := [.ref a, .int n]) rfl]
  show Sat (drawM [.dat (.ref a), .dat (.int n), .un, .un] s) _
  unfold drawM
  -- behind the first statement
  have mid : ∀ s' : LS, s'.Ok → s'.a = a → s'.cnt = s.cnt → Sat ((mSeq (mIfS (mTest (mOp2 oGt (mTold 0) (mC (.int 0)))) (mSeq (mSet 2 (mOp2 oMod (mTold 0) (mVar 1)))
    (mSeq (mSetTold 0 (mOp2 oDiv (mTold 0) (mVar 1)))
    (mRet (mVar 2)))) mPass)
    (mSeq (mSet 2 (mC (.int 0)))
    (mSeq (mSet 3 (mC (.int 1)))
    (mSeq (mWhile (mTest (mOp2 oLt (mVar 3) (mVar 1))) (mSeq (mSet 2 (mOp2 oAdd (mOp2 oMul (mVar 2) (mC (.int 1000000007))) (mCall mixF (mCons (mVar 0) mNil))))
    (mSet 3 (mOp2 oMul (mVar 3) (mC (.int 1000000007))))) 100)
    (mRet (mOp2 oMod (mVar 2) (mVar 1))))))) [.dat (.ref a), .dat (.int n), .un, .un] s') (kD Q) := by
    intro s' h1 h2 h3
    rw [S_seq, S_ifS, S_test, S_op2, S_told (isSt_ rfl h2), k2_, S_C, k2b_, o_gt, SatO_some, kTest_]
    refine kI_d (fun hp => ?_) (fun _ => ?_)
    · refine (told s' h1 h2 h3 hp).mono fun f g ⟨w, r, e⟩ => ?_
      subst e
      exact w
    · exact rest s' h1 h2 h3
  rw [S_seq, S_ifS, S_and, S_test, S_op2, S_told (isSt_ rfl h.ea), k2_, S_C, k2b_, o_eq, SatO_some, kTest_]
  by_cases ht : s.told = 0
  · rw [decide_eq_true ht, kAnd_true, S_hasG (isSt_ rfl h.ea)]
    cases hg : s.gr with
    | nil => exact mid s h.ok h.ea rfl
    | cons x r =>
      show Sat (mPopG 0 _ s) _
      have key : mPopG 0 [.dat (.ref a), .dat (.int n), .un, .un] s = .ok (.nx [.dat (.ref a), .dat (.int n), .un, .un]) { s with gr := r, told := x } := by
        unfold mPopG
        rw [if_pos (isSt_ rfl h.ea), hg]
      rw [key, Sat_ok, kS_nx]
      have hx := h.ok.2.1
      rw [hg] at hx
      exact mid _ ⟨Int.le_of_lt (hx x (by simp)), fun y hy => hx y (by simp [hy]), h.ok.2.2⟩ h.ea rfl
  · rw [decide_eq_false ht, kAnd_false]
    exact mid s h.ok h.ea rfl
end PB
set_option Elab.async false
set_option linter.all false
set_option maxRecDepth 10000
set_option exponentiation.threshold 2000
namespace PB
def sharedM : MS LS := (mSeq (mSet 0 (mOpN oAbs (mCons (mVar 0) mNil)))
    (mSeq (mSet 1 (mOpN oAbs (mCons (mVar 1) mNil)))
    (mSeq (mWhile (mTest (mOp2 oGt (mVar 1) (mC (.int 0)))) (mPar 0 1 (mVar 1) (mOp2 oMod (mVar 0) (mVar 1))) 100000)
    (mRet (mVar 0)))))
def sharedF : MF LS := mDef 2 2 sharedM
theorem abs_if (x : Int) : (if x < 0 then -x else x) = (x.natAbs : Int) := by
  split <;> omega
theorem halve {a b m : Nat} (hb : 0 < b) (hab : b ≤ a) (h : a * b < 2 ^ (m + 1)) : b * (a % b) < 2 ^ m := by
  have h1 : a % b < b := Nat.mod_lt _ hb
  have h3 : b * (a / b) + a % b = a := Nat.div_add_mod a b
  have h4 : 0 < a / b := Nat.div_pos hab hb
  have h5 : b * 1 ≤ b * (a / b) := Nat.mul_le_mul_left b h4
  have h2 : 2 * (a % b) ≤ a := by omega
  have h6 : b * (2 * (a % b)) ≤ b * a := Nat.mul_le_mul_left b h2
  rw [Nat.mul_left_comm] at h6
  rw [Nat.mul_comm] at h
  rw [Nat.pow_succ] at h
  omega
/-- a fraction in lowest terms -/
def fr (p q : Int) : D := .tup [.int p, .int q]
structure Low (n : Nat) (p q : Int) : Prop where
  qp : 0 < q
  co : Nat.gcd p.natAbs q.natAbs = 1
  pb : p.natAbs < 2 ^ n
  qb : q.natAbs < 2 ^ n
theorem Low.le {n m : Nat} {p q : Int} (h : Low n p q) (k : n ≤ m) : Low m p q :=
  ⟨h.qp, h.co, Nat.lt_of_lt_of_le h.pb (Nat.pow_le_pow_right (by decide) k), Nat.lt_of_lt_of_le h.qb (Nat.pow_le_pow_right (by decide) k)⟩
end PB
set_option Elab.async false
set_option linter.all false
set_option maxRecDepth 10000
set_option exponentiation.threshold 2000
namespace PB
def v3 (x y z : Int) : D := .tup [.int x, .int y, .int z]
end PB
set_option Elab.async false
set_option linter.all false
set_option maxRecDepth 10000
set_option exponentiation.threshold 2000
namespace PB
inductive Mv where
  | keep (c : Nat) | oth (c e : Nat) | out (c : Nat) | inn (c : Nat)
abbrev wKeep : List Nat := [107, 101, 101, 112]
abbrev wOther : List Nat := [111, 116, 104, 101, 114]
abbrev wOut : List Nat := [111, 117, 116]
abbrev wIn : List Nat := [105, 110]
def Mv.d : Mv → D
  | .keep c => .tup [.str wKeep, .str [c]]
  | .oth c e => .tup [.str wOther, .str [c], .str [e]]
  | .out c => .tup [.str wOut, .str [c]]
  | .inn c => .tup [.str wIn, .str [c]]
end PB
set_option Elab.async false
set_option linter.all false
set_option maxRecDepth 10000
set_option exponentiation.threshold 2000
namespace PB
end PB
set_option Elab.async false
set_option linter.all false
set_option maxRecDepth 10000
set_option exponentiation.threshold 2000
namespace PB
theorem rng_ok {n : Nat} (h : n ≤ 1000) : RngOk (n : Int) := log2_lt (n := 62) (by omega) (by decide)
end PB
set_option Elab.async false
set_option linter.all false
set_option maxRecDepth 10000
set_option exponentiation.threshold 2000
namespace PB
end PB
set_option Elab.async false
set_option linter.all false
set_option maxRecDepth 10000
set_option exponentiation.threshold 2000
namespace PB
theorem Sat.eq {γ α : Type} {r : Rs γ α} {a : α} {g : γ} (h : ∀ Q : α → γ → Prop, Q a g → Sat r Q) : r = .ok a g := by
  have k := h (fun b k => b = a ∧ k = g) ⟨rfl, rfl⟩
  cases r with
  | ok b k' =>
    obtain ⟨rfl, rfl⟩ := k
    rfl
  | ex x g => exact k.elim
  | no => exact k.elim
section
variable {γ : Type} {g : γ} {F : MF γ} {Q : Rv → γ → Prop} {xs : List Rv} {e : Env} {as : MA γ} {es : List D}
/-- what is known of a call -/
theorem Sat_is {r : Rs γ Rv} {v : Rv} {g : γ} (h : r = .ok v g) (q : Q v g) : Sat r Q := by
  rw [h]
  exact q
end
def gcdL : List Int → Nat → Nat
  | [], g => g
  | n :: r, g => gcdL r (Nat.gcd g n.natAbs)
theorem gcdL_app (l m : List Int) : ∀ g, gcdL (l ++ m) g = gcdL m (gcdL l g) := by
  induction l with
  | nil => intro g; rfl
  | cons n r ih => intro g; exact ih _
theorem gcdL_lt {b : Nat} {l : List Int} : ∀ {g}, g < b → (∀ n ∈ l, n.natAbs < b) → gcdL l g < b := by
  induction l with
  | nil => intro g h _; exact h
  | cons n r ih =>
    intro g h hl
    refine ih ?_ fun m hm => hl m (by simp [hm])
    have hn := hl n (by simp)
    by_cases h0 : n.natAbs = 0
    · rw [h0, Nat.gcd_zero_right]
      exact h
    · exact Nat.lt_of_le_of_lt (Nat.gcd_le_right _ (by omega)) hn
theorem gcdL_dvd {l : List Int} : ∀ {g}, gcdL l g ∣ g ∧ ∀ n ∈ l, ((gcdL l g : Nat) : Int) ∣ n := by
  induction l with
  | nil => intro g; exact ⟨Nat.dvd_refl _, fun n hn => by cases hn⟩
  | cons m r ih =>
    intro g
    obtain ⟨h1, h2⟩ := ih (g := Nat.gcd g m.natAbs)
    refine ⟨Nat.dvd_trans h1 (Nat.gcd_dvd_left _ _), fun n hn => ?_⟩
    rcases List.mem_cons.mp hn with rfl | hn
    · exact Int.ofNat_dvd_left.mpr (Nat.dvd_trans h1 (Nat.gcd_dvd_right _ _))
    · exact h2 n hn
theorem gcdL_pos {l : List Int} : ∀ {g}, (0 < g ∨ ∃ n ∈ l, n ≠ 0) → 0 < gcdL l g := by
  induction l with
  | nil => intro g h; exact h.elim id fun ⟨n, hn, _⟩ => by cases hn
  | cons m r ih =>
    intro g h
    refine ih ?_
    by_cases h0 : 0 < Nat.gcd g m.natAbs
    · exact .inl h0
    · refine .inr ?_
      have hz : Nat.gcd g m.natAbs = 0 := by omega
      obtain ⟨g0, m0⟩ := Nat.gcd_eq_zero_iff.mp hz
      rcases h with h | ⟨n, hn, hne⟩
      · omega
      · rcases List.mem_cons.mp hn with rfl | hn
        · omega
        · exact ⟨n, hn, hne⟩
def intDs (ns : List Int) : List D := ns.map D.int
theorem mulLt {a b : Nat} {x y : Int} (hx : x.natAbs < 2 ^ a) (hy : y.natAbs < 2 ^ b) : (x * y).natAbs < 2 ^ (a + b) := by
  rw [Int.natAbs_mul, Nat.pow_add]
  exact Nat.mul_lt_mul'' hx hy
theorem addLt {a : Nat} {x y : Int} (hx : x.natAbs < 2 ^ a) (hy : y.natAbs < 2 ^ a) : (x + y).natAbs < 2 ^ (a + 1) := by
  rw [Nat.pow_succ]
  omega
theorem ltUp {a b : Nat} {x : Int} (hx : x.natAbs < 2 ^ a) (h : a ≤ b) : x.natAbs < 2 ^ b := Nat.lt_of_lt_of_le hx (Nat.pow_le_pow_right (by decide) h)
end PB
set_option Elab.async false
set_option linter.all false
set_option maxRecDepth 10000
set_option exponentiation.threshold 2000
namespace PB
end PB
set_option Elab.async false
set_option linter.all false
set_option maxRecDepth 10000
set_option exponentiation.threshold 2000
namespace PB
def g3 (x y z : Int) : Nat := gcdL [x, y, z] 0
def low3 (x y z : Int) : D := v3 (x / (g3 x y z : Nat)) (y / (g3 x y z : Nat)) (z / (g3 x y z : Nat))
theorem gcdL_mul (k : Nat) : ∀ (l : List Int) (g : Nat), gcdL (l.map (· * (k : Int))) (g * k) = gcdL l g * k := by
  intro l
  induction l with
  | nil => intro g; rfl
  | cons n r ih =>
    intro g
    show gcdL _ (Nat.gcd (g * k) (n * (k : Int)).natAbs) = gcdL r (Nat.gcd g n.natAbs) * k
    rw [Int.natAbs_mul, Int.natAbs_natCast, Nat.gcd_mul_right]
    exact ih _
theorem low3_mul {x y z : Int} {k : Nat} (hk : 0 < k) : low3 (x * k) (y * k) (z * k) = low3 x y z := by
  have h : g3 (x * k) (y * k) (z * k) = g3 x y z * k := by
    have := gcdL_mul k [x, y, z] 0
    rw [Nat.zero_mul] at this
    exact this
  have kp : (k : Int) ≠ 0 := by omega
  unfold low3
  rw [h, Int.natCast_mul, Int.mul_ediv_mul_of_pos_left _ _ (by omega), Int.mul_ediv_mul_of_pos_left _ _ (by omega), Int.mul_ediv_mul_of_pos_left _ _ (by omega)]
/-- two of the same ratio come to the same -/
theorem low3_same {x y z p q r k m : Int} (hk : 0 < k) (hm : 0 < m) (h1 : x * k = p * m) (h2 : y * k = q * m) (h3 : z * k = r * m) : low3 x y z = low3 p q r := by
  obtain ⟨k, rfl⟩ := Int.eq_ofNat_of_zero_le (Int.le_of_lt hk)
  obtain ⟨m, rfl⟩ := Int.eq_ofNat_of_zero_le (Int.le_of_lt hm)
  rw [← low3_mul (k := k) (by omega), h1, h2, h3, low3_mul (by omega)]
end PB
set_option Elab.async false
set_option linter.all false
set_option maxRecDepth 10000
set_option exponentiation.threshold 2000
namespace PB
section
variable {γ : Type} {g : γ} {Q : Rv → γ → Prop} {QI : List D → γ → Prop} {e : Env} {t : MT γ} {a b : ME γ}
def kHi (x : Rv) (l : Option Int) (Q : Rv → γ → Prop) (y : Rv) (g : γ) : Prop := match y with
  | .dat (.int i) => SatO (oCut x l (some i)) Q g
  | _ => False
def kLo (x : Rv) (Q : Rv → γ → Prop) (y : Rv) (g : γ) : Prop := match y with
  | .dat (.int i) => SatO (oCut x (some i) none) Q g
  | _ => False
theorem S_cutH : Sat (mCut a none (some b) e g) Q = Sat (a e g) fun x g => Sat (b e g) (kHi x none Q) := by
  unfold mCut
  rw [Sat_bind]
  congr 1
  funext x g
  show Sat ((mPart (some b) e g).bind fun h g3 => ofO (oCut x none h) g3) Q = _
  unfold mPart
  rw [Sat_bind, Sat_bind]
  congr 1
  funext y g
  cases y with
  | dat d => cases d <;> first | exact Sat_ofO _ _ _ | rfl
  | own d => rfl
  | bor d => rfl
theorem S_cutL : Sat (mCut a (some b) none e g) Q = Sat (a e g) fun x g => Sat (b e g) (kLo x Q) := by
  unfold mCut
  rw [Sat_bind]
  congr 1
  funext x g
  show Sat ((mPart (some b) e g).bind fun l g2 => (mPart none e g2).bind fun h g3 => ofO (oCut x l h) g3) Q = _
  unfold mPart
  rw [Sat_bind, Sat_bind]
  congr 1
  funext y g
  cases y with
  | dat d => cases d <;> first | exact Sat_ofO _ _ _ | rfl
  | own d => rfl
  | bor d => rfl
end
end PB
set_option Elab.async false
set_option linter.all false
set_option maxRecDepth 10000
set_option exponentiation.threshold 2000
namespace PB
end PB
set_option Elab.async false
set_option linter.all false
set_option maxRecDepth 10000
set_option exponentiation.threshold 2000
namespace PB
end PB
set_option Elab.async false
set_option linter.all false
set_option maxRecDepth 10000
set_option exponentiation.threshold 2000
namespace PB
theorem gt_stE (e : Env) (i j : Nat) (x : Sl) : gt (st e i x) j = if j = i ∧ i < e.length then x else gt e j := by
  induction e generalizing i j with
  | nil => simp [st, gt]
  | cons s r ih =>
    cases i with
    | zero =>
      cases j with
      | zero => simp [st, gt]
      | succ j => simp [st, gt]
    | succ i =>
      cases j with
      | zero => simp [st, gt]
      | succ j => simp [st, gt, ih]
theorem st_len (e : Env) (i : Nat) (x : Sl) : (st e i x).length = e.length := by
  induction e generalizing i with
  | nil => rfl
  | cons s r ih => cases i <;> simp [st, ih]
abbrev V3 := Int × Int × Int
def vd (v : V3) : D := .tup [.int v.1, .int v.2.1, .int v.2.2]
def dot (a b : V3) : Int := a.1 * b.1 + a.2.1 * b.2.1 + a.2.2 * b.2.2
structure Lt3 (n : Nat) (v : V3) : Prop where
  x : v.1.natAbs < 2 ^ n
  y : v.2.1.natAbs < 2 ^ n
  z : v.2.2.natAbs < 2 ^ n
theorem Lt3.up {n m : Nat} {v : V3} (h : Lt3 n v) (k : n ≤ m) : Lt3 m v := ⟨ltUp h.x k, ltUp h.y k, ltUp h.z k⟩
theorem mulOkP {a b : Nat} {x y : Int} (hx : x.natAbs < 2 ^ a) (hy : y.natAbs < 2 ^ b) (h : a + b ≤ 999990) : MulOk x y :=
  mulOk (a := a + 1) (b := b + 1) (ltUp hx (by omega)) (ltUp hy (by omega)) (by omega) (by omega) (by omega)
theorem dot_lt {a b : Nat} {u v : V3} (h : Lt3 a u) (k : Lt3 b v) : (dot u v).natAbs < 2 ^ (a + b + 2) := by
  have h1 := mulLt h.x k.x
  have h2 := mulLt h.y k.y
  have h3 := mulLt h.z k.z
  have h4 := addLt h1 h2
  have h5 := addLt h4 (ltUp h3 (Nat.le_succ _))
  exact h5
/-- [f(x, y) for x, y in zip(a, b)], of rows of three -/
theorem S_zipV {A Bm el : ME LS} {e : Env} {s : LS} {i j : Nat} {u v : V3} (f : Int → Int → Int) {Q : Rv → LS → Prop} (hA : A e s = .ok (.dat (vd u)) s) (hB : Bm e s = .ok (.dat (vd v)) s)
    (he : ∀ x y : Int, (x = u.1 ∧ y = v.1) ∨ (x = u.2.1 ∧ y = v.2.1) ∨ (x = u.2.2 ∧ y = v.2.2) → el (st (st (wp e [i, j]) i (.dat (.int x))) j (.dat (.int y))) s = .ok (.dat (.int (f x y))) s)
    (q : Q (.own [.int (f u.1 v.1), .int (f u.2.1 v.2.1), .int (f u.2.2 v.2.2)]) s) : Sat (mLc (mZip2 A Bm) (tgT [i, j]) mYes el [i, j] e s) Q := by
  have key : ∀ (acc ds : List D) (x y : Int) (R : Rv → LS → Prop), acc.length < 16777216 → ((x = u.1 ∧ y = v.1) ∨ (x = u.2.1 ∧ y = v.2.1) ∨ (x = u.2.2 ∧ y = v.2.2)) → Sat (lcL (tgT [i, j]) mYes el (wp e [i, j]) ds (acc ++ [.int (f x y)]) s) R →
      Sat (lcL (tgT [i, j]) mYes el (wp e [i, j]) (.tup [.int x, .int y] :: ds) acc s) R := by
    intro acc ds x y R hl hm h
    rw [S_lcCons (e1 := st (st (wp e [i, j]) i (.dat (.int x))) j (.dat (.int y))) rfl, S_yes, kLcT_true]
    refine Sat_is (he x y hm) ?_
    rw [kLcA_dat]
    exact ⟨hl, h⟩
  simp only [S_lc, S_zip2]
  refine Sat_is hA ?_
  rw [kZip_]
  refine Sat_is hB ?_
  show Sat (lcL (tgT [i, j]) mYes el (wp e [i, j]) [.tup [.int u.1, .int v.1], .tup [.int u.2.1, .int v.2.1], .tup [.int u.2.2, .int v.2.2]] [] s) _
  refine key [] _ _ _ _ (Nat.lt_of_sub_pos (by simp)) (.inl ⟨rfl, rfl⟩) ?_
  refine key [_] _ _ _ _ (Nat.lt_of_sub_pos (by simp)) (.inr (.inl ⟨rfl, rfl⟩)) ?_
  refine key [_, _] _ _ _ _ (Nat.lt_of_sub_pos (by simp)) (.inr (.inr ⟨rfl, rfl⟩)) ?_
  rw [S_lcNil]
  exact q
theorem o_sum3 (x y z : Int) : oSum [.own [.int x, .int y, .int z]] = some (.dat (.int (x + y + z))) := by
  show some (Rv.dat (.int (x + (y + (z + 0))))) = _
  congr 3
  omega
/-- sum([x * y for x, y in zip(a, b)]) -/
theorem dot_eq {A Bm : ME LS} {e : Env} {s : LS} {i j n m : Nat} {u v : V3} (hA : A e s = .ok (.dat (vd u)) s) (hB : Bm e s = .ok (.dat (vd v)) s) (hi : i < e.length) (hj : j < e.length) (hij : i ≠ j) (hu : Lt3 n u) (hv : Lt3 m v) (hb : n + m ≤ 900000) :
    mOpN oSum (mCons (mLc (mZip2 A Bm) (tgT [i, j]) mYes (mOp2 oMul (mVar i) (mVar j)) [i, j]) mNil) e s = .ok (.dat (.int (dot u v))) s := Sat.eq fun Q q => by
  simp only [S_opN, S_cons]
  refine S_zipV (fun x y => x * y) hA hB (fun x y h => ?_) ?_
  · have g1 : gt (st (st (wp e [i, j]) i (.dat (.int x))) j (.dat (.int y))) i = .dat (.int x) := by
      rw [gt_stE, if_neg (fun z => hij z.1), gt_stE, if_pos ⟨rfl, by simp only [wp, st_len]; exact hi⟩]
    have g2 : gt (st (st (wp e [i, j]) i (.dat (.int x))) j (.dat (.int y))) j = .dat (.int y) := by
      rw [gt_stE, if_pos ⟨rfl, by simp only [wp, st_len]; exact hj⟩]
    have hm : MulOk x y := by
      rcases h with ⟨rfl, rfl⟩ | ⟨rfl, rfl⟩ | ⟨rfl, rfl⟩
      · exact mulOkP hu.x hv.x (by omega)
      · exact mulOkP hu.y hv.y (by omega)
      · exact mulOkP hu.z hv.z (by omega)
    refine Sat.eq fun Q q => ?_
    simp only [S_op2, S_var, g1, g2, kVar_dat, k2_, k2b_, o_mul hm, SatO_some]
    exact q
  · simp only [kc_, S_nil, kcb_, kN_, o_sum3, SatO_some]
    exact q
def lowV (v : V3) : V3 := (v.1 / (g3 v.1 v.2.1 v.2.2 : Nat), v.2.1 / (g3 v.1 v.2.1 v.2.2 : Nat), v.2.2 / (g3 v.1 v.2.1 v.2.2 : Nat))
def iabs (x : Int) : Int := if x < 0 then -x else x
def addV (a b : V3) : V3 := (a.1 + b.1, a.2.1 + b.2.1, a.2.2 + b.2.2)
def mulV (k : Int) (a : V3) : V3 := (k * a.1, k * a.2.1, k * a.2.2)
/-- the corner between two, where the side is worth nought -/
def mid (w a b : V3) : V3 := lowV (addV (mulV (iabs (dot w b)) a) (mulV (iabs (dot w a)) b))
def prevV (vs : List V3) (k : Nat) : V3 := vs.getD ((k + vs.length - 1) % vs.length) (0, 0, 0)
def piece (w : V3) (vs : List V3) (k : Nat) : List V3 :=
  (if dot w (prevV vs k) * dot w (vs.getD k (0, 0, 0)) < 0 then [mid w (prevV vs k) (vs.getD k (0, 0, 0))] else []) ++ (if 0 ≤ dot w (vs.getD k (0, 0, 0)) then [vs.getD k (0, 0, 0)] else [])
def kept (w : V3) (vs : List V3) : List V3 := (List.range vs.length).flatMap (piece w vs)
def ltV (a b : V3) : Bool := if a.1 = b.1 then (if a.2.1 = b.2.1 then decide (a.2.2 < b.2.2) else decide (a.2.1 < b.2.1)) else decide (a.1 < b.1)
def minV : V3 → List V3 → V3
  | m, [] => m
  | m, x :: xs => minV (if ltV x m = true then x else m) xs
def rotV : List V3 → List V3
  | [] => []
  | v :: vs => (v :: vs).drop ((v :: vs).findIdx fun x => decide (x = minV v vs)) ++ (v :: vs).take ((v :: vs).findIdx fun x => decide (x = minV v vs))
theorem lt_vd (a b : V3) : ltD (vd a) (vd b) = ltV a b := by
  show (if eqv (.int a.1) (.int b.1) = true then (if eqv (.int a.2.1) (.int b.2.1) = true then (if eqv (.int a.2.2) (.int b.2.2) = true then false else decide (a.2.2 < b.2.2)) else decide (a.2.1 < b.2.1)) else decide (a.1 < b.1)) = _
  simp only [eqv, beq_iff_eq]
  unfold ltV
  by_cases h1 : a.1 = b.1
  · rw [if_pos h1, if_pos h1]
    by_cases h2 : a.2.1 = b.2.1
    · rw [if_pos h2, if_pos h2]
      by_cases h3 : a.2.2 = b.2.2
      · rw [if_pos h3, h3]
        simp
      · rw [if_neg h3]
    · rw [if_neg h2, if_neg h2]
  · rw [if_neg h1, if_neg h1]
theorem min_vd : ∀ (vs : List V3) (v : V3), minD (vd v) (vs.map vd) = vd (minV v vs)
  | [], _ => rfl
  | x :: xs, v => by
    show minD (if ltD (vd x) (vd v) = true then vd x else vd v) (xs.map vd) = _
    rw [lt_vd, ← apply_ite vd, min_vd xs]
    rfl
theorem eqv_vd (a b : V3) : eqv (vd a) (vd b) = decide (a = b) := by
  show (a.1 == b.1 && (a.2.1 == b.2.1 && (a.2.2 == b.2.2 && true))) = _
  rcases a with ⟨x, y, z⟩
  rcases b with ⟨p, q, r⟩
  simp only [Bool.and_true, Prod.mk.injEq]
  by_cases h1 : x = p
  · by_cases h2 : y = q
    · by_cases h3 : z = r
      · simp [h1, h2, h3]
      · simp [h1, h2, h3]
    · simp [h1, h2]
  · simp [h1]
theorem okL_vd {n : Nat} : ∀ vs : List V3, okL (n + 1) (vs.map vd) = true
  | [] => rfl
  | v :: vs => by
    show (okE (n + 1) (vd v) && okL (n + 1) (vs.map vd)) = true
    rw [okL_vd vs]
    rfl
theorem alkAll_vd (vs : List V3) : alkAll (vs.map vd) = true := by
  unfold alkAll
  rw [List.all_eq_true]
  intro x hx
  obtain ⟨a, _, rfl⟩ := List.mem_map.mp hx
  rw [List.all_eq_true]
  intro y hy
  obtain ⟨b, _, rfl⟩ := List.mem_map.mp hy
  rfl
theorem o_minV {v : V3} {vs : List V3} : oMinT [.bor ((v :: vs).map vd)] = some (.dat (vd (minV v vs))) := by
  show (if alkAll ((v :: vs).map vd) = true ∧ okL 59 ((v :: vs).map vd) = true then some (Rv.dat (minD (vd v) (vs.map vd))) else none) = _
  rw [if_pos ⟨alkAll_vd _, okL_vd _⟩, min_vd]
theorem minV_mem : ∀ (vs : List V3) (v : V3), minV v vs ∈ v :: vs
  | [], v => List.mem_cons_self
  | x :: xs, v => by
    show minV (if ltV x v = true then x else v) xs ∈ _
    rcases List.mem_cons.mp (minV_mem xs (if ltV x v = true then x else v)) with h | h
    · rw [h]
      split
      · exact List.mem_cons_of_mem _ List.mem_cons_self
      · exact List.mem_cons_self
    · exact List.mem_cons_of_mem _ (List.mem_cons_of_mem _ h)
theorem o_indexV {vs : List V3} {m : V3} (h : m ∈ vs) : oIndex (vs.map vd) (vd m) = some ((vs.findIdx fun x => decide (x = m) : Nat) : Int) := by
  unfold oIndex
  rw [if_pos ⟨rfl, okL_vd _⟩]
  have e : (vs.map vd).findIdx? (fun d => eqv d (vd m)) = some (vs.findIdx fun x => decide (x = m)) := by
    rw [List.findIdx?_map]
    have ef : ((fun d => eqv d (vd m)) ∘ vd) = fun x => decide (x = m) := funext fun x => eqv_vd x m
    rw [ef]
    rw [List.findIdx?_eq_some_iff_findIdx_eq]
    refine ⟨List.findIdx_lt_length_of_exists ⟨m, h, by simp⟩, rfl⟩
  rw [e]
  rfl
/-- at = kept.index(min(kept)) -/
theorem idxMin_eq {e : Env} {s : LS} {i : Nat} {v : V3} {vs : List V3} (h : gt e i = .own ((v :: vs).map vd)) : mLm oIndex (mVar i) (mOpN oMinT (mCons (mVar i) mNil)) e s = .ok (.dat (.int (((v :: vs).findIdx fun x => decide (x = minV v vs) : Nat) : Int))) s := Sat.eq fun Q q => by
  simp only [S_lm, S_var, h, kVar_own, kLm_bor, S_opN, S_cons, S_nil, kc_, kcb_, kN_, o_minV, SatO_some, kLmb_, o_indexV (minV_mem vs v)]
  exact q
theorem cutLoI {α : Type} (L : List α) (k : Nat) : cut L (some (k : Int)) none = L.drop k := by
  unfold cut sIx
  dsimp only
  rw [if_neg (by omega)]
  simp only [Int.toNat_natCast]
  rcases Nat.le_total k L.length with h | h
  · rw [Nat.min_eq_left h]
    exact List.take_of_length_le (by rw [List.length_drop]; omega)
  · rw [Nat.min_eq_right h, List.drop_of_length_le (Nat.le_refl _), List.drop_of_length_le h]
    exact List.take_nil
theorem cutHiI {α : Type} (L : List α) (k : Nat) : cut L none (some (k : Int)) = L.take k := by
  unfold cut sIx
  dsimp only
  rw [if_neg (by omega)]
  simp
/-- tuple(kept[at:] + kept[:at]) -/
theorem rot_eq {e : Env} {s : LS} {i j k : Nat} {L : List D} (h : gt e i = .own L) (hk : gt e j = .dat (.int (k : Nat))) (hl : L.length ≤ 8000000) : mOpN oTuple (mCons (mOp2 oAdd (mCut (mVar i) (some (mVar j)) none) (mCut (mVar i) none (some (mVar j)))) mNil) e s = .ok (.dat (.tup (L.drop k ++ L.take k))) s := Sat.eq fun Q q => by
  have e1 : mCut (mVar i) (some (mVar j)) none e s = .ok (.own (L.drop k)) s := Sat.eq fun Q q => by
    rw [S_cutL, S_var, h, kVar_own, S_var, hk, kVar_dat]
    show SatO (some (Rv.own (cut L (some (k : Int)) none))) Q s
    rw [cutLoI]
    exact q
  have e2 : mCut (mVar i) none (some (mVar j)) e s = .ok (.own (L.take k)) s := Sat.eq fun Q q => by
    rw [S_cutH, S_var, h, kVar_own, S_var, hk, kVar_dat]
    show SatO (some (Rv.own (cut L none (some (k : Int))))) Q s
    rw [cutHiI]
    exact q
  rw [S_opN, S_cons, S_op2]
  refine Sat_is e1 ?_
  rw [k2_]
  refine Sat_is e2 ?_
  have e3 : oAdd (.own (L.drop k)) (.own (L.take k)) = some (.own (L.drop k ++ L.take k)) := if_pos (by rw [List.length_drop, List.length_take]; show _ ≤ 16777216; omega)
  rw [k2b_, e3]
  exact q
theorem ixNnat {n k : Nat} (h : k < n) : ixN n ((k : Nat) : Int) = some k := by
  unfold ixN
  rw [if_pos (by omega), if_pos (by omega)]
  simp
theorem atIat {α : Type} {xs : List α} {k : Nat} (h : k < xs.length) : atI xs ((k : Nat) : Int) = some xs[k] := by
  unfold atI
  rw [ixNnat h]
  simp [h]
/-- xs[k - 1], round about -/
theorem atIprev {α : Type} {xs : List α} {k : Nat} (h : k < xs.length) : atI xs (((k : Nat) : Int) - 1) = xs[(k + xs.length - 1) % xs.length]? := by
  unfold atI
  cases k with
  | zero =>
    have e : ixN xs.length (((0 : Nat) : Int) - 1) = some (xs.length - 1) := by
      unfold ixN
      rw [if_neg (by omega), if_pos (by omega)]
      congr 1
      omega
    rw [e, show (0 + xs.length - 1) % xs.length = xs.length - 1 from by rw [Nat.zero_add, Nat.mod_eq_of_lt (by omega)]]
    rfl
  | succ k =>
    rw [show (((k + 1 : Nat) : Int) - 1) = (k : Nat) from by omega, ixNnat (by omega), show k + 1 + xs.length - 1 = k + xs.length from by omega, Nat.add_mod_right, Nat.mod_eq_of_lt (by omega)]
    rfl
theorem at_prev {vs : List V3} {k : Nat} (h : k < vs.length) : atI (vs.map vd) (((k : Nat) : Int) - 1) = some (vd (prevV vs k)) := by
  rw [atIprev (by rw [List.length_map]; exact h), List.length_map, List.getElem?_map]
  unfold prevV
  have hm : (k + vs.length - 1) % vs.length < vs.length := Nat.mod_lt _ (by omega)
  rw [List.getElem?_eq_getElem hm, List.getD_eq_getElem?_getD, List.getElem?_eq_getElem hm]
  rfl
theorem at_vd {vs : List V3} {k : Nat} (h : k < vs.length) : atI (vs.map vd) ((k : Nat) : Int) = some (vd (vs.getD k (0, 0, 0))) := by
  rw [atIat (by rw [List.length_map]; exact h), List.getElem_map, List.getD_eq_getElem?_getD, List.getElem?_eq_getElem h]
  rfl
theorem prev_mem {vs : List V3} {k : Nat} (h : k < vs.length) : prevV vs k ∈ vs := by
  unfold prevV
  have hm : (k + vs.length - 1) % vs.length < vs.length := Nat.mod_lt _ (by omega)
  rw [List.getD_eq_getElem?_getD, List.getElem?_eq_getElem hm]
  exact List.getElem_mem hm
theorem getD_memV {vs : List V3} {k : Nat} (h : k < vs.length) : vs.getD k (0, 0, 0) ∈ vs := by
  rw [List.getD_eq_getElem?_getD, List.getElem?_eq_getElem h]
  exact List.getElem_mem h
structure Prc (v : V3) : Prop where
  x : 0 ≤ v.1
  y : 0 ≤ v.2.1
  z : 0 ≤ v.2.2
  n : v.1 ≠ 0 ∨ v.2.1 ≠ 0 ∨ v.2.2 ≠ 0
theorem iabs_nat (x : Int) : iabs x = (x.natAbs : Int) := by
  unfold iabs
  split <;> omega
theorem mulV_lt {n m : Nat} {k : Int} {v : V3} (hk : k.natAbs < 2 ^ n) (h : Lt3 m v) : Lt3 (n + m) (mulV k v) := ⟨mulLt hk h.x, mulLt hk h.y, mulLt hk h.z⟩
theorem addV_lt {n : Nat} {u v : V3} (h : Lt3 n u) (k : Lt3 n v) : Lt3 (n + 1) (addV u v) := ⟨addLt h.x k.x, addLt h.y k.y, addLt h.z k.z⟩
theorem lowV_prc {v : V3} (h : Prc v) : Prc (lowV v) := by
  have hg : 0 < g3 v.1 v.2.1 v.2.2 := by
    refine gcdL_pos (.inr ?_)
    rcases h.n with k | k | k
    · exact ⟨_, List.mem_cons_self, k⟩
    · exact ⟨_, List.mem_cons_of_mem _ List.mem_cons_self, k⟩
    · exact ⟨_, List.mem_cons_of_mem _ (List.mem_cons_of_mem _ List.mem_cons_self), k⟩
  have hd := (gcdL_dvd (l := [v.1, v.2.1, v.2.2]) (g := 0)).2
  have nz : ∀ x : Int, ((g3 v.1 v.2.1 v.2.2 : Nat) : Int) ∣ x → x ≠ 0 → x / (g3 v.1 v.2.1 v.2.2 : Nat) ≠ 0 := by
    rintro x ⟨c, rfl⟩ hx
    rw [Int.mul_ediv_cancel_left _ (by omega)]
    intro z
    rw [z] at hx
    simp at hx
  refine ⟨Int.ediv_nonneg h.x (by omega), Int.ediv_nonneg h.y (by omega), Int.ediv_nonneg h.z (by omega), ?_⟩
  rcases h.n with k | k | k
  · exact .inl (nz _ (hd _ List.mem_cons_self) k)
  · exact .inr (.inl (nz _ (hd _ (List.mem_cons_of_mem _ List.mem_cons_self)) k))
  · exact .inr (.inr (nz _ (hd _ (List.mem_cons_of_mem _ (List.mem_cons_of_mem _ List.mem_cons_self))) k))
theorem lowV_lt {n : Nat} {v : V3} (h : Lt3 n v) : Lt3 n (lowV v) := by
  have key : ∀ x : Int, ∀ g : Nat, x.natAbs < 2 ^ n → (x / (g : Int)).natAbs < 2 ^ n := by
    intro x g hx
    refine Nat.lt_of_le_of_lt ?_ hx
    exact Int.natAbs_ediv_le_natAbs x g
  exact ⟨key _ _ h.x, key _ _ h.y, key _ _ h.z⟩
theorem mid_sum {w a b : V3} (ha : Prc a) (hb : Prc b) (h : dot w a * dot w b < 0) : Prc (addV (mulV (iabs (dot w b)) a) (mulV (iabs (dot w a)) b)) := by
  have p1 : 0 < iabs (dot w b) := by
    rw [iabs_nat]
    have : dot w b ≠ 0 := fun z => by rw [z, Int.mul_zero] at h; exact absurd h (Int.lt_irrefl _)
    omega
  have p2 : 0 < iabs (dot w a) := by
    rw [iabs_nat]
    have : dot w a ≠ 0 := fun z => by rw [z, Int.zero_mul] at h; exact absurd h (Int.lt_irrefl _)
    omega
  generalize iabs (dot w b) = p at *
  generalize iabs (dot w a) = q at *
  have mm : ∀ {k x : Int}, 0 < k → 0 ≤ x → 0 ≤ k * x ∧ (x ≠ 0 → 0 < k * x) := fun hk hx => ⟨Int.mul_nonneg (Int.le_of_lt hk) hx, fun hn => Int.mul_pos hk (by omega)⟩
  obtain ⟨a1, a2⟩ := mm p1 ha.x
  obtain ⟨a3, a4⟩ := mm p1 ha.y
  obtain ⟨a5, a6⟩ := mm p1 ha.z
  obtain ⟨b1, b2⟩ := mm p2 hb.x
  obtain ⟨b3, b4⟩ := mm p2 hb.y
  obtain ⟨b5, b6⟩ := mm p2 hb.z
  refine ⟨Int.add_nonneg a1 b1, Int.add_nonneg a3 b3, Int.add_nonneg a5 b5, ?_⟩
  show p * a.1 + q * b.1 ≠ 0 ∨ p * a.2.1 + q * b.2.1 ≠ 0 ∨ p * a.2.2 + q * b.2.2 ≠ 0
  rcases ha.n with k | k | k
  · exact .inl (by have := a2 k; omega)
  · exact .inr (.inl (by have := a4 k; omega))
  · exact .inr (.inr (by have := a6 k; omega))
theorem mid_prc {w a b : V3} (ha : Prc a) (hb : Prc b) (h : dot w a * dot w b < 0) : Prc (mid w a b) := lowV_prc (mid_sum ha hb h)
theorem mid_ltS {m n : Nat} {w a b : V3} (hw : Lt3 m w) (ha : Lt3 n a) (hb : Lt3 n b) : Lt3 (m + n + n + 3) (addV (mulV (iabs (dot w b)) a) (mulV (iabs (dot w a)) b)) := by
  have e : m + n + n + 3 = (m + n + 2) + n + 1 := by omega
  rw [e]
  refine addV_lt (mulV_lt ?_ ha) (mulV_lt ?_ hb)
  · rw [iabs_nat]
    exact dot_lt hw hb
  · rw [iabs_nat]
    exact dot_lt hw ha
theorem mid_lt {m n : Nat} {w a b : V3} (hw : Lt3 m w) (ha : Lt3 n a) (hb : Lt3 n b) : Lt3 (m + n + n + 3) (mid w a b) := lowV_lt (mid_ltS hw ha hb)
end PB
set_option Elab.async false
set_option linter.all false
set_option maxRecDepth 10000
set_option maxHeartbeats 4000000
set_option exponentiation.threshold 2000
namespace PB
section
variable {e : Env} {i : Nat} {s : LS} {r : MA LS} {QS : Fl → LS → Prop}
def kInsA (i : Nat) (e : Env) (ds : List D) (QS : Fl → LS → Prop) (ys : List Rv) (g : LS) : Prop := match ys with
  | [.dat (.int k), .dat d] => ds.length < SZ ∧ 0 ≤ k ∧ k ≤ 16777216 ∧ QS (.nx (st e i (.own (ds.take k.toNat ++ [d] ++ ds.drop k.toNat)))) g
  | _ => False
theorem S_insA {ds : List D} (h : gt e i = .own ds) (q : Sat (r e s) (kInsA i e ds QS)) : Sat (mIns i r e s) QS := by
  unfold mIns
  rw [h]
  dsimp only
  rw [Sat_bind]
  refine q.mono fun ys g hy => ?_
  unfold kInsA at hy
  split at hy
  · rename_i k d
    dsimp only [Rv.sto]
    rw [if_pos ⟨hy.1, hy.2.1, hy.2.2.1⟩]
    exact hy.2.2.2
  · exact hy.elim
theorem kInsA_ {ds : List D} {k : Int} {d : D} {g : LS} : kInsA i e ds QS [.dat (.int k), .dat d] g = (ds.length < SZ ∧ 0 ≤ k ∧ k ≤ 16777216 ∧ QS (.nx (st e i (.own (ds.take k.toNat ++ [d] ++ ds.drop k.toNat)))) g) := rfl
end
/-- two words of so many letters at most -/
def tw (x y : List Nat) : D := .tup [.str x, .str y]
end PB
set_option Elab.async false
set_option linter.all false
set_option maxRecDepth 10000
set_option maxHeartbeats 4000000
set_option exponentiation.threshold 2000
namespace PB
def det (a b c : V3) : Int := a.1 * (b.2.1 * c.2.2 - b.2.2 * c.2.1) - a.2.1 * (b.1 * c.2.2 - b.2.2 * c.1) + a.2.2 * (b.1 * c.2.1 - b.2.1 * c.1)
theorem det_cyc (a b c : V3) : det a b c = det b c a := by unfold det; grind
theorem det_aab (a b : V3) : det a a b = 0 := by unfold det; grind
theorem det_abb (a b : V3) : det a b b = 0 := by unfold det; grind
/-- between two: some times the one and some times the other -/
def Cmb (x a b : V3) : Prop := ∃ g p q : Int, 0 < g ∧ 0 < p ∧ 0 < q ∧ g * x.1 = p * a.1 + q * b.1 ∧ g * x.2.1 = p * a.2.1 + q * b.2.1 ∧ g * x.2.2 = p * a.2.2 + q * b.2.2
theorem det_comb {a b x u v : V3} {g p q : Int} (h1 : g * x.1 = p * a.1 + q * b.1) (h2 : g * x.2.1 = p * a.2.1 + q * b.2.1) (h3 : g * x.2.2 = p * a.2.2 + q * b.2.2) : g * det x u v = p * det a u v + q * det b u v := by unfold det; grind
theorem nn_of {g z : Int} (hg : 0 < g) (h : 0 ≤ g * z) : 0 ≤ z := by
  rcases Int.lt_or_le z 0 with hz | hz
  · have := Int.mul_neg_of_pos_of_neg hg hz
    omega
  · exact hz
theorem Cmb.nn {x a b u v : V3} (h : Cmb x a b) (h1 : 0 ≤ det a u v) (h2 : 0 ≤ det b u v) : 0 ≤ det x u v := by
  obtain ⟨g, p, q, hg, hp, hq, e1, e2, e3⟩ := h
  refine nn_of hg ?_
  rw [det_comb e1 e2 e3]
  exact Int.add_nonneg (Int.mul_nonneg (Int.le_of_lt hp) h1) (Int.mul_nonneg (Int.le_of_lt hq) h2)
def Tri : List V3 → Prop
  | [] => True
  | a :: r => r.Pairwise (fun b c => 0 ≤ det a b c) ∧ Tri r
theorem Tri.sub : ∀ {L L' : List V3}, L.Sublist L' → Tri L' → Tri L
  | _, _, .slnil, h => h
  | _, _, .cons _ s, h => Tri.sub s h.2
  | _, _, .cons₂ _ s, h => ⟨h.1.sublist s, Tri.sub s h.2⟩
theorem Tri.snoc {a : V3} : ∀ {l : List V3}, Tri (l ++ [a]) ↔ Tri l ∧ l.Pairwise (fun b c => 0 ≤ det b c a)
  | [] => ⟨fun _ => ⟨trivial, .nil⟩, fun _ => ⟨.nil, trivial⟩⟩
  | b :: l => by
    show (l ++ [a]).Pairwise _ ∧ Tri (l ++ [a]) ↔ (l.Pairwise _ ∧ Tri l) ∧ (b :: l).Pairwise _
    rw [Tri.snoc (l := l), List.pairwise_append, List.pairwise_cons (a := b) (l := l)]
    constructor
    · intro ⟨⟨h1, _, h2⟩, h3, h4⟩
      exact ⟨⟨h1, h3⟩, ⟨fun u hu => h2 u hu a (List.mem_singleton.mpr rfl), h4⟩⟩
    · intro ⟨⟨h1, h3⟩, ⟨h2, h4⟩⟩
      exact ⟨⟨h1, List.pairwise_singleton _ _, fun u hu v hv => by rw [List.mem_singleton.mp hv]; exact h2 u hu⟩, h3, h4⟩
theorem Tri.rot1 {a : V3} {l : List V3} : Tri (a :: l) ↔ Tri (l ++ [a]) := by
  rw [Tri.snoc]
  constructor
  · rintro ⟨h1, h2⟩
    exact ⟨h2, h1.imp fun {b c} h => by rw [← det_cyc]; exact h⟩
  · rintro ⟨h2, h1⟩
    exact ⟨h1.imp fun {b c} h => by rw [det_cyc]; exact h, h2⟩
theorem Tri.rot : ∀ {l m : List V3}, Tri (l ++ m) → Tri (m ++ l)
  | [], m, h => by rw [List.append_nil]; exact h
  | a :: l, m, h => by
    have h1 : Tri (l ++ (m ++ [a])) := by
      rw [← List.append_assoc]
      exact Tri.rot1.mp h
    have := Tri.rot h1
    rw [List.append_assoc] at this
    exact this
theorem Tri.ins0 {a b x : V3} {m : List V3} (h : Tri (a :: b :: m)) (c : Cmb x a b) : Tri (a :: x :: b :: m) := by
  obtain ⟨h1, h2, h3⟩ := h
  have h1' := List.pairwise_cons.mp h1
  have av : ∀ v ∈ m, 0 ≤ det a x v := fun v hv => by
    have : 0 ≤ det x v a := c.nn (by rw [← det_cyc, det_aab]; exact Int.le_refl _) (by rw [← det_cyc]; exact h1'.1 v hv)
    rw [det_cyc]
    exact this
  have ab : 0 ≤ det a x b := by
    have : 0 ≤ det x b a := c.nn (by rw [← det_cyc, det_aab]; exact Int.le_refl _) (by rw [det_aab]; exact Int.le_refl _)
    rw [det_cyc]
    exact this
  refine ⟨List.pairwise_cons.mpr ⟨fun v hv => ?_, h1⟩, List.pairwise_cons.mpr ⟨fun v hv => ?_, ?_⟩, h2, h3⟩
  · rcases List.mem_cons.mp hv with rfl | hv
    · exact ab
    · exact av v hv
  · exact c.nn (h1'.1 v hv) (by rw [det_aab]; exact Int.le_refl _)
  · refine (h1'.2.and h2).imp fun {u v} h => c.nn h.1 h.2
theorem Tri.ins {l m : List V3} {a b x : V3} (h : Tri (l ++ a :: b :: m)) (c : Cmb x a b) : Tri (l ++ a :: x :: b :: m) := by
  have h1 : Tri (a :: b :: (m ++ l)) := Tri.rot (l := l) (m := a :: b :: m) h
  have h2 : Tri ((a :: x :: b :: m) ++ l) := Tri.ins0 h1 c
  exact Tri.rot h2
theorem Tri.insE {m : List V3} {a f x : V3} (h : Tri (f :: m ++ [a])) (c : Cmb x a f) : Tri (f :: m ++ [a, x]) := by
  have h1 : Tri (a :: f :: m) := Tri.rot1.mpr h
  exact Tri.rot (l := [a, x]) (m := f :: m) (Tri.ins0 h1 c)
theorem Tri.pair {p q : V3} {m : List V3} (h : Tri (p :: q :: m)) : ∀ c ∈ p :: q :: m, 0 ≤ det p q c := by
  intro c hc
  rcases List.mem_cons.mp hc with rfl | hc
  · rw [← det_cyc, det_aab]
    exact Int.le_refl _
  · rcases List.mem_cons.mp hc with rfl | hc
    · rw [det_abb]
      exact Int.le_refl _
    · exact (List.pairwise_cons.mp h.1).1 c hc
theorem Tri.edge {L : List V3} (h : Tri L) {k : Nat} (hk : k < L.length) : ∀ c ∈ L, 0 ≤ det (prevV L k) (L.getD k (0, 0, 0)) c := by
  intro c hc
  have gd : L.getD k (0, 0, 0) = L[k] := by rw [List.getD_eq_getElem?_getD, List.getElem?_eq_getElem hk]; rfl
  cases k with
  | zero =>
    cases L with
    | nil => cases hc
    | cons q r =>
      rw [gd]
      show 0 ≤ det (prevV (q :: r) 0) q c
      rcases List.eq_nil_or_concat r with rfl | ⟨m, p, rfl⟩
      · have : prevV [q] 0 = q := rfl
        rw [this, det_aab]
        exact Int.le_refl _
      · rw [List.concat_eq_append] at h hc ⊢
        have e : prevV (q :: (m ++ [p])) 0 = p := by
          unfold prevV
          have hl : (q :: (m ++ [p])).length = m.length + 2 := by simp
          rw [hl, Nat.zero_add, Nat.mod_eq_of_lt (by omega), show m.length + 2 - 1 = m.length + 1 by omega, List.getD_eq_getElem?_getD, List.getElem?_cons_succ, List.getElem?_append_right (Nat.le_refl _), Nat.sub_self]
          rfl
        rw [e]
        have h1 : Tri (p :: q :: m) := Tri.rot1.mpr h
        refine h1.pair c ?_
        rcases List.mem_cons.mp hc with rfl | hc
        · simp
        · rcases List.mem_append.mp hc with hc | hc
          · simp [hc]
          · simp [List.mem_singleton.mp hc]
  | succ j =>
    have hj : j < L.length := by omega
    have e : prevV L (j + 1) = L[j] := by
      unfold prevV
      rw [show j + 1 + L.length - 1 = j + L.length by omega, Nat.add_mod_right, Nat.mod_eq_of_lt hj, List.getD_eq_getElem?_getD, List.getElem?_eq_getElem hj]
      rfl
    rw [e, gd]
    have hs : L = L.take j ++ (L[j] :: L[j + 1] :: L.drop (j + 2)) := by
      rw [← List.drop_eq_getElem_cons hk, ← List.drop_eq_getElem_cons hj, List.take_append_drop]
    have h1 : Tri ((L[j] :: L[j + 1] :: L.drop (j + 2)) ++ L.take j) := Tri.rot (by rw [← hs]; exact h)
    refine Tri.pair (m := L.drop (j + 2) ++ L.take j) h1 c ?_
    rw [hs] at hc
    rcases List.mem_append.mp hc with hc | hc
    · exact List.mem_append_right (L[j] :: L[j + 1] :: L.drop (j + 2)) hc
    · exact List.mem_append_left (L.take j) hc
def crossN (w a b : V3) : List V3 := if dot w a * dot w b < 0 then [mid w a b] else []
def zipF (F : V3 → V3 → List V3) : List V3 → List V3 → List V3
  | a :: r, b :: s => F a b ++ zipF F r s
  | _, _ => []
def nextV (vs : List V3) (k : Nat) : V3 := vs.getD ((k + 1) % vs.length) (0, 0, 0)
def pieceN (w a b : V3) : List V3 := (if 0 ≤ dot w a then [a] else []) ++ crossN w a b
def keptN (w : V3) (vs : List V3) : List V3 := (List.range vs.length).flatMap fun k => pieceN w (vs.getD k (0, 0, 0)) (nextV vs k)
theorem zipF_range (F : V3 → V3 → List V3) : ∀ (xs ys : List V3), xs.length = ys.length → (List.range xs.length).flatMap (fun k => F (xs.getD k (0, 0, 0)) (ys.getD k (0, 0, 0))) = zipF F xs ys
  | [], [], _ => rfl
  | x :: xs, y :: ys, h => by
    rw [List.length_cons, List.range_succ_eq_map, List.flatMap_cons, List.flatMap_map, zipF, ← zipF_range F xs ys (Nat.succ.inj h)]
    rfl
  | [], _ :: _, h => by cases h
  | _ :: _, [], h => by cases h
theorem nextV_eq {a : V3} {r : List V3} {k : Nat} (hk : k < (a :: r).length) : nextV (a :: r) k = (r ++ [a]).getD k (0, 0, 0) := by
  unfold nextV
  rw [List.length_cons] at hk ⊢
  by_cases h : k = r.length
  · subst h
    rw [Nat.mod_self, List.getD_eq_getElem?_getD, List.getD_eq_getElem?_getD, List.getElem?_append_right (Nat.le_refl _), Nat.sub_self]
    rfl
  · rw [Nat.mod_eq_of_lt (by omega), List.getD_eq_getElem?_getD, List.getD_eq_getElem?_getD, List.getElem?_append_left (by omega), List.getElem?_cons_succ]
theorem keptN_zip {w a : V3} {r : List V3} : keptN w (a :: r) = zipF (pieceN w) (a :: r) (r ++ [a]) := by
  rw [← zipF_range _ _ _ (by simp)]
  unfold keptN
  rw [List.flatMap_def, List.flatMap_def]
  congr 1
  apply List.map_congr_left
  intro k hk
  rw [nextV_eq (List.mem_range.mp hk)]
theorem zipF_sub {F G : V3 → V3 → List V3} (h : ∀ a b, (F a b).Sublist (G a b)) : ∀ xs ys : List V3, (zipF F xs ys).Sublist (zipF G xs ys)
  | [], ys => by cases ys <;> exact .slnil
  | x :: xs, [] => .slnil
  | x :: xs, y :: ys => (h x y).append (zipF_sub h xs ys)
theorem crossN_cmb {w a b : V3} (ha : Prc a) (hb : Prc b) (h : dot w a * dot w b < 0) : Cmb (mid w a b) a b := by
  have hs := mid_sum ha hb h
  have p1 : 0 < iabs (dot w b) := by
    rw [iabs_nat]
    have : dot w b ≠ 0 := fun z => by rw [z, Int.mul_zero] at h; exact absurd h (Int.lt_irrefl _)
    omega
  have p2 : 0 < iabs (dot w a) := by
    rw [iabs_nat]
    have : dot w a ≠ 0 := fun z => by rw [z, Int.zero_mul] at h; exact absurd h (Int.lt_irrefl _)
    omega
  unfold mid
  generalize iabs (dot w b) = p at *
  generalize iabs (dot w a) = q at *
  generalize hv : addV (mulV p a) (mulV q b) = v at *
  have v1 : v.1 = p * a.1 + q * b.1 := by rw [← hv]; rfl
  have v2 : v.2.1 = p * a.2.1 + q * b.2.1 := by rw [← hv]; rfl
  have v3 : v.2.2 = p * a.2.2 + q * b.2.2 := by rw [← hv]; rfl
  have hg : 0 < g3 v.1 v.2.1 v.2.2 := by
    refine gcdL_pos (.inr ?_)
    rcases hs.n with k | k | k
    · exact ⟨_, List.mem_cons_self, k⟩
    · exact ⟨_, List.mem_cons_of_mem _ List.mem_cons_self, k⟩
    · exact ⟨_, List.mem_cons_of_mem _ (List.mem_cons_of_mem _ List.mem_cons_self), k⟩
  have hd := (gcdL_dvd (l := [v.1, v.2.1, v.2.2]) (g := 0)).2
  have mulc : ∀ x : Int, ((g3 v.1 v.2.1 v.2.2 : Nat) : Int) ∣ x → ((g3 v.1 v.2.1 v.2.2 : Nat) : Int) * (x / (g3 v.1 v.2.1 v.2.2 : Nat)) = x := fun x hx => Int.mul_ediv_cancel' hx
  refine ⟨(g3 v.1 v.2.1 v.2.2 : Nat), p, q, by omega, p1, p2, ?_, ?_, ?_⟩
  · rw [← v1]
    exact mulc _ (hd _ List.mem_cons_self)
  · rw [← v2]
    exact mulc _ (hd _ (List.mem_cons_of_mem _ List.mem_cons_self))
  · rw [← v3]
    exact mulc _ (hd _ (List.mem_cons_of_mem _ (List.mem_cons_of_mem _ List.mem_cons_self)))
theorem Tri.zip {w : V3} (f : V3) : ∀ (r l : List V3) (a : V3), (l ++ a :: r).head? = some f → (∀ v ∈ l ++ a :: r, Prc v) → Tri (l ++ a :: r) → Prc f → Tri (l ++ zipF (fun a b => a :: crossN w a b) (a :: r) (r ++ [f]))
  | [], l, a, hf, hp, h, pf => by
    have ez : zipF (fun a b => a :: crossN w a b) [a] ([] ++ [f]) = a :: crossN w a f := by
      show (a :: crossN w a f) ++ [] = _
      rw [List.append_nil]
    rw [ez]
    unfold crossN
    by_cases hc : dot w a * dot w f < 0
    · rw [if_pos hc]
      cases l with
      | nil =>
        cases hf
        rcases Int.lt_or_le (dot w f) 0 with z | z
        · have := Int.mul_pos_of_neg_of_neg z z
          omega
        · have := Int.mul_nonneg z z
          omega
      | cons b l =>
        cases hf
        exact Tri.insE h (crossN_cmb (hp a (by simp)) pf hc)
    · rw [if_neg hc]
      exact h
  | b :: r, l, a, hf, hp, h, pf => by
    have e : l ++ zipF (fun a b => a :: crossN w a b) (a :: b :: r) (b :: r ++ [f]) = (l ++ (a :: crossN w a b)) ++ zipF (fun a b => a :: crossN w a b) (b :: r) (r ++ [f]) := by
      show l ++ ((a :: crossN w a b) ++ zipF _ (b :: r) (r ++ [f])) = _
      rw [List.append_assoc]
    rw [e]
    have pa : Prc a := hp a (by simp)
    have pb : Prc b := hp b (by simp)
    refine Tri.zip f r (l ++ (a :: crossN w a b)) b ?_ ?_ ?_ pf
    · cases l with
      | nil => exact hf
      | cons c l => exact hf
    · intro v hv
      unfold crossN at hv
      rw [List.append_assoc] at hv
      rcases List.mem_append.mp hv with hv | hv
      · exact hp v (List.mem_append_left _ hv)
      · rcases List.mem_append.mp hv with hv | hv
        · rcases List.mem_cons.mp hv with rfl | hv
          · exact pa
          · by_cases hc : dot w a * dot w b < 0
            · rw [if_pos hc] at hv
              rw [List.mem_singleton.mp hv]
              exact mid_prc pa pb hc
            · rw [if_neg hc] at hv
              cases hv
        · exact hp v (List.mem_append_right _ (List.mem_cons_of_mem _ hv))
    · unfold crossN
      by_cases hc : dot w a * dot w b < 0
      · rw [if_pos hc, List.append_assoc]
        exact Tri.ins h (crossN_cmb pa pb hc)
      · rw [if_neg hc, List.append_assoc]
        exact h
theorem Tri.keptN {w : V3} {vs : List V3} (h : Tri vs) (hp : ∀ v ∈ vs, Prc v) : Tri (keptN w vs) := by
  cases vs with
  | nil => exact trivial
  | cons a r =>
    rw [keptN_zip]
    refine Tri.sub (zipF_sub (fun a b => ?_) _ _) (Tri.zip (w := w) a r [] a rfl hp h (hp a List.mem_cons_self))
    unfold pieceN
    split
    · exact List.Sublist.refl _
    · exact .cons _ (List.Sublist.refl _)
theorem rotV_cut (vs : List V3) : ∃ l m, vs = l ++ m ∧ rotV vs = m ++ l := by
  cases vs with
  | nil => exact ⟨[], [], rfl, rfl⟩
  | cons v vs => exact ⟨_, _, (List.take_append_drop _ _).symm, rfl⟩
theorem Tri.rotV {vs : List V3} (h : Tri vs) : Tri (rotV vs) := by
  obtain ⟨l, m, e, e2⟩ := rotV_cut vs
  rw [e2]
  rw [e] at h
  exact h.rot
end PB
set_option Elab.async false
set_option linter.all false
set_option maxRecDepth 10000
set_option maxHeartbeats 4000000
set_option exponentiation.threshold 2000
namespace PB
def l_worthM : MS LS := (mRet (mOpN oSum (mCons (mLc (mZip2 (mVar 0) (mVar 1)) (tgT [2, 3]) mYes (mOp2 oMul (mVar 2) (mVar 3)) [2, 3]) mNil)))
def l_worthF : MF LS := mDef 4 2 (l_worthM)
def l_sharedM : MS LS := (mSeq (mWhile (mTest (mOp2 oGt (mVar 1) (mC (.int 0)))) (mPar 0 1 (mVar 1) (mOp2 oMod (mVar 0) (mVar 1))) 100000)
    (mRet (mVar 0)))
def l_sharedF : MF LS := mDef 2 2 (l_sharedM)
def l_lowestM : MS LS := (mSeq (mSet 1 (mC (.int 0)))
    (mSeq (mFor (mItems (mVar 0)) (tgN 2) (mSeq (mFrz 1) (mSet 1 (mCall l_sharedF (mCons (mVar 2) (mCons (mVar 1) mNil))))))
    (mRet (mOpN oTuple (mCons (mLc (mItems (mVar 0)) (tgN 2) mYes (mOp2 oDiv (mVar 2) (mVar 1)) [2]) mNil)))))
def l_lowestF : MF LS := mDef 3 1 (l_lowestM)
def l_cutM : MS LS := (mSeq (mIfS (mNot (mTest (mOpN oAny (mCons (mLc (mItems (mVar 0)) (tgN 9) mYes (mOp2 oGt (mCall l_worthF (mCons (mVar 1) (mCons (mVar 9) mNil))) (mC (.int 0))) [9]) mNil)))) (mRet (mTup mNil)) mPass)
    (mSeq (mSet 2 (mLst mNil))
    (mSeq (mFor (mRange1 (mOpN oLen (mCons (mVar 0) mNil))) (tgN 3) (mSeq (mPar 4 5 (mOp2 oIx (mVar 0) (mVar 3)) (mOp2 oIx (mVar 0) (mOp2 oMod (mOp2 oAdd (mVar 3) (mC (.int 1))) (mOpN oLen (mCons (mVar 0) mNil)))))
    (mSeq (mTgt (tgT [6, 7]) (mTup (mCons (mCall l_worthF (mCons (mVar 1) (mCons (mVar 4) mNil))) (mCons (mCall l_worthF (mCons (mVar 1) (mCons (mVar 5) mNil))) mNil))))
    (mSeq (mIfS (mTest (mOp2 oGe (mVar 6) (mC (.int 0)))) (mApp 2 (mVar 4)) mPass)
    (mIfS (mOr (mTest (mChain oGt oGt (mVar 6) (mC (.int 0)) (mVar 7))) (mTest (mChain oLt oLt (mVar 6) (mC (.int 0)) (mVar 7)))) (mApp 2 (mCall l_lowestF (mCons (mLc (mZip2 (mVar 4) (mVar 5)) (tgT [10, 11]) mYes (mOp2 oAdd (mOp2 oMul (mOpN oAbs (mCons (mVar 7) mNil)) (mVar 10)) (mOp2 oMul (mOpN oAbs (mCons (mVar 6) mNil)) (mVar 11))) [10, 11]) mNil))) mPass)))))
    (mSeq (mSet 8 (mLm oIndex (mVar 2) (mOpN oMinT (mCons (mVar 2) mNil))))
    (mRet (mOpN oTuple (mCons (mOp2 oAdd (mCut (mVar 2) (some (mVar 8)) none) (mCut (mVar 2) none (some (mVar 8)))) mNil)))))))
def l_cutF : MF LS := mDef 12 2 (l_cutM)
def l_sideM : MS LS := (mSeq (mSet 2 (mLc (mRange1 (mC (.int 3))) (tgN 3) mYes (mOp2 oSub (mCall drawF (mCons (mVar 0) (mCons (mOp2 oAdd (mOp2 oMul (mC (.int 2)) (mVar 1)) (mC (.int 1))) mNil))) (mVar 1)) [3]))
    (mSeq (mIfS (mTest (mOp2 oEq (mCall drawF (mCons (mVar 0) (mCons (mC (.int 5)) mNil))) (mC (.int 0)))) (mPut 2 (mCall drawF (mCons (mVar 0) (mCons (mC (.int 3)) mNil))) (mC (.int 0))) mPass)
    (mRet (mOpN oTuple (mCons (mVar 2) mNil)))))
def l_sideF : MF LS := mDef 4 2 (l_sideM)
def l_shapeM : MS LS := (mSeq (mSet 3 (mTup (mCons (mTup (mCons (mC (.int 0)) (mCons (mC (.int 0)) (mCons (mC (.int 1)) mNil)))) (mCons (mTup (mCons (mC (.int 1)) (mCons (mC (.int 0)) (mCons (mC (.int 0)) mNil)))) (mCons (mTup (mCons (mC (.int 0)) (mCons (mC (.int 1)) (mCons (mC (.int 0)) mNil)))) mNil)))))
    (mSeq (mFor (mRange1 (mCall drawF (mCons (mVar 0) (mCons (mOp2 oAdd (mVar 1) (mC (.int 1))) mNil)))) (tgN 4) (mSeq (mSet 5 (mCall l_cutF (mCons (mVar 3) (mCons (mCall l_sideF (mCons (mVar 0) (mCons (mVar 2) mNil))) mNil))))
    (mIfS (mTest (mOp2 oNe (mVar 5) (mTup mNil))) (mSet 3 (mVar 5)) mPass)))
    (mRet (mVar 3))))
def l_shapeF : MF LS := mDef 6 3 (l_shapeM)
def lowest2M : MS LS := (mSeq (mSet 1 (mC (.int 0)))
    (mSeq (mFor (mItems (mVar 0)) (tgN 2) (mSeq (mFrz 1) (mSet 1 (mCall sharedF (mCons (mVar 1) (mCons (mVar 2) mNil))))))
    (mRet (mOpN oTuple (mCons (mLc (mItems (mVar 0)) (tgN 2) mYes (mOp2 oDiv (mVar 2) (mVar 1)) [2]) mNil)))))
def lowest2F : MF LS := mDef 3 1 (lowest2M)
def shp (vs : List V3) : D := .tup (vs.map vd)
def Beg : List V3 → Prop
  | [] => False
  | v :: r => ∀ x ∈ r, ltV x v = false
structure Shp (n k : Nat) (vs : List V3) : Prop where
  le : vs.length ≤ k
  pr : ∀ v ∈ vs, Prc v ∧ Lt3 n v
  tri : Tri vs
  beg : Beg vs
theorem Shp.up {n n' k k' : Nat} {vs : List V3} (h : Shp n k vs) (hn : n ≤ n') (hk : k ≤ k') : Shp n' k' vs := ⟨Nat.le_trans h.le hk, fun v hv => ⟨(h.pr v hv).1, (h.pr v hv).2.up hn⟩, h.tri, h.beg⟩
theorem ltV_trans {a b c : V3} (h1 : ltV a b = true) (h2 : ltV b c = true) : ltV a c = true := by
  unfold ltV at *
  split at h1 <;> split at h2 <;> (try split at h1) <;> (try split at h2) <;> simp only [decide_eq_true_eq] at h1 h2 <;> split <;> (try split) <;> simp only [decide_eq_true_eq] <;> omega
theorem ltV_neg {a b c : V3} (h1 : ltV a b = true) : ltV a c = true ∨ ltV c b = true := by
  unfold ltV at *
  split at h1 <;> (try split at h1) <;> simp only [decide_eq_true_eq] at h1 <;> split <;> (try split) <;> (try split) <;> (try split) <;> simp only [decide_eq_true_eq] <;> omega
theorem ltV_irr (a : V3) : ltV a a = false := by
  unfold ltV
  rw [if_pos rfl, if_pos rfl]
  exact decide_eq_false (Int.lt_irrefl _)
theorem minV_le : ∀ (vs : List V3) (v : V3), ∀ y ∈ v :: vs, ltV y (minV v vs) = false
  | [], v, y, hy => by
    rw [List.mem_singleton.mp hy]
    exact ltV_irr v
  | x :: xs, v, y, hy => by
    show ltV y (minV (if ltV x v = true then x else v) xs) = false
    have ih := minV_le xs (if ltV x v = true then x else v)
    generalize hM : minV (if ltV x v = true then x else v) xs = M at *
    rcases List.mem_cons.mp hy with rfl | hy
    · by_cases c : ltV x y = true
      · rw [if_pos c] at ih
        have := ih x List.mem_cons_self
        cases hz : ltV y M with
        | false => rfl
        | true =>
          rw [ltV_trans c hz] at this
          cases this
      · rw [if_neg c] at ih
        exact ih y List.mem_cons_self
    · rcases List.mem_cons.mp hy with rfl | hy
      · by_cases c : ltV y v = true
        · rw [if_pos c] at ih
          exact ih y List.mem_cons_self
        · rw [if_neg c] at ih
          have := ih v List.mem_cons_self
          cases hz : ltV y M with
          | false => rfl
          | true =>
            rcases ltV_neg (c := v) hz with k | k
            · exact absurd k c
            · rw [this] at k
              cases k
      · exact ih y (List.mem_cons_of_mem _ hy)
theorem rotV_mem (vs : List V3) (v : V3) : v ∈ rotV vs ↔ v ∈ vs := by
  obtain ⟨l, m, e, e2⟩ := rotV_cut vs
  rw [e2, e, List.mem_append, List.mem_append, or_comm]
theorem rotV_len (vs : List V3) : (rotV vs).length = vs.length := by
  obtain ⟨l, m, e, e2⟩ := rotV_cut vs
  rw [e2, e, List.length_append, List.length_append, Nat.add_comm]
theorem beg_rotV {vs : List V3} (h : 0 < vs.length) : Beg (rotV vs) := by
  cases vs with
  | nil => exact absurd h (by decide)
  | cons v r =>
    have hm := minV_mem r v
    have hlt : (v :: r).findIdx (fun x => decide (x = minV v r)) < (v :: r).length := List.findIdx_lt_length_of_exists ⟨_, hm, by simp⟩
    have hg : (v :: r)[(v :: r).findIdx (fun x => decide (x = minV v r))] = minV v r := by
      have := List.findIdx_getElem (xs := v :: r) (p := fun x => decide (x = minV v r)) (w := hlt)
      simpa using this
    have e : rotV (v :: r) = minV v r :: ((v :: r).drop ((v :: r).findIdx (fun x => decide (x = minV v r)) + 1) ++ (v :: r).take ((v :: r).findIdx fun x => decide (x = minV v r))) := by
      show (v :: r).drop _ ++ (v :: r).take _ = _
      rw [List.drop_eq_getElem_cons hlt, hg]
      rfl
    rw [e]
    intro x hx
    refine minV_le r v x ?_
    have : x ∈ rotV (v :: r) := by rw [e]; exact List.mem_cons_of_mem _ hx
    exact (rotV_mem _ _).mp this
theorem zipF_len {F : V3 → V3 → List V3} (h : ∀ a b, (F a b).length ≤ 2) : ∀ xs ys : List V3, (zipF F xs ys).length ≤ 2 * xs.length
  | [], ys => by cases ys <;> exact Nat.le_refl _
  | x :: xs, [] => Nat.zero_le _
  | x :: xs, y :: ys => by
    rw [zipF, List.length_append, List.length_cons]
    have := h x y
    have := zipF_len h xs ys
    omega
theorem zipF_mem {F : V3 → V3 → List V3} {v : V3} : ∀ {xs ys : List V3}, v ∈ zipF F xs ys → ∃ a b, a ∈ xs ∧ b ∈ ys ∧ v ∈ F a b
  | [], ys, h => by cases ys <;> cases h
  | x :: xs, [], h => by cases h
  | x :: xs, y :: ys, h => by
    rw [zipF] at h
    rcases List.mem_append.mp h with h | h
    · exact ⟨x, y, List.mem_cons_self, List.mem_cons_self, h⟩
    · obtain ⟨a, b, ha, hb, hv⟩ := zipF_mem h
      exact ⟨a, b, List.mem_cons_of_mem _ ha, List.mem_cons_of_mem _ hb, hv⟩
theorem keptN_len (w : V3) (vs : List V3) : (keptN w vs).length ≤ 2 * vs.length := by
  cases vs with
  | nil => exact Nat.le_refl _
  | cons a r =>
    rw [keptN_zip]
    refine zipF_len (fun a b => ?_) _ _
    unfold pieceN crossN
    rw [List.length_append]
    split <;> split <;> simp
theorem keptN_mem {w v : V3} {vs : List V3} (h : v ∈ keptN w vs) : ∃ a b, a ∈ vs ∧ b ∈ vs ∧ v ∈ pieceN w a b := by
  cases vs with
  | nil => cases h
  | cons a r =>
    rw [keptN_zip] at h
    obtain ⟨x, y, hx, hy, hv⟩ := zipF_mem h
    refine ⟨x, y, hx, ?_, hv⟩
    rcases List.mem_append.mp hy with hy | hy
    · exact List.mem_cons_of_mem _ hy
    · rw [List.mem_singleton.mp hy]
      exact List.mem_cons_self
theorem keptN_ok {n k m : Nat} {w : V3} {vs : List V3} (h : Shp n k vs) (hw : Lt3 m w) : ∀ v ∈ keptN w vs, Prc v ∧ Lt3 (m + n + n + 3) v := by
  intro v hv
  obtain ⟨a, b, ha, hb, hv⟩ := keptN_mem hv
  have h1 := h.pr _ ha
  have h2 := h.pr _ hb
  unfold pieceN crossN at hv
  rcases List.mem_append.mp hv with hv | hv
  · split at hv
    · rw [List.mem_singleton.mp hv]
      exact ⟨h1.1, h1.2.up (by omega)⟩
    · cases hv
  · split at hv
    · rename_i hlt
      rw [List.mem_singleton.mp hv]
      exact ⟨mid_prc h1.1 h2.1 hlt, mid_lt hw h1.2 h2.2⟩
    · cases hv
theorem keptN_ne {w v : V3} {vs : List V3} (hv : v ∈ vs) (h : 0 < dot w v) : 0 < (keptN w vs).length := by
  obtain ⟨j, hj, rfl⟩ := List.getElem_of_mem hv
  refine List.length_pos_iff.mpr fun z => ?_
  have : vs[j] ∈ keptN w vs := by
    refine List.mem_flatMap.mpr ⟨j, List.mem_range.mpr hj, List.mem_append.mpr (.inl ?_)⟩
    rw [List.getD_eq_getElem?_getD, List.getElem?_eq_getElem hj]
    show _ ∈ if 0 ≤ dot w vs[j] then [vs[j]] else []
    rw [if_pos (by omega)]
    exact List.mem_singleton.mpr rfl
  rw [z] at this
  cases this
theorem Shp.cutN {n k m : Nat} {w v : V3} {vs : List V3} (h : Shp n k vs) (hw : Lt3 m w) (hv : v ∈ vs) (hp : 0 < dot w v) : Shp (m + n + n + 3) (2 * k) (rotV (keptN w vs)) := by
  have hle := h.le
  refine ⟨by rw [rotV_len]; have := keptN_len w vs; omega, fun u hu => keptN_ok h hw u ((rotV_mem _ _).mp hu), (h.tri.keptN fun u hu => (h.pr u hu).1).rotV, beg_rotV (keptN_ne hv hp)⟩
end PB
set_option Elab.async false
set_option linter.all false
set_option maxRecDepth 10000
set_option maxHeartbeats 4000000
set_option exponentiation.threshold 20000
namespace PB
theorem S_lshared {a0 b0 : Nat} {s : LS} {Q : Rv → LS → Prop} (hx : a0 < 2 ^ 6000) (hy : b0 < 2 ^ 6000) (q : Q (.dat (.int ((Nat.gcd a0 b0 : Nat) : Int))) s) : Sat (l_sharedF [.int (a0 : Nat), .int (b0 : Nat)] s) Q := by
  unfold l_sharedF
  rw [S_def (k := 2) (ds := [.int (a0 : Nat), .int (b0 : Nat)]) rfl]
  show Sat (l_sharedM [.dat (.int (a0 : Nat)), .dat (.int (b0 : Nat))] s) _
  unfold l_sharedM
  simp only [S_var, S_C, S_op1, k1_, S_op2, k2_, k2b_, S_nil, S_cons, kc_, kcb_, S_opN, kN_, S_tup, S_lst, kT_u, kL_u, stoL_nil, stoL_dat, stoL_own, consO_some, SatO_some, S_call, kCall_u, S_if, S_ifS, kI_true, kI_false, S_andV, S_orV, kAndV_true, kAndV_false, kOrV_true, kOrV_false, S_test, kTest_, S_tru, kTru_, S_and, S_or, S_not, kAnd_true, kAnd_false, kOr_true, kOr_false, kNot_, S_seq, kS_nx, kS_rt, kS_bk, kS_ct, S_pass, S_set, kSet_dat, kSet_own, S_par, kP_, kPb_, S_ret', kR_, S_retN, S_break, S_cont, S_for, kF_, S_forNil, kFb_nx, kFb_ct, kFb_bk, kFb_rt, S_items, kItems_tup, kItems_lst, kItems_own, S_lc, kLc_, S_lcNil, S_yes, kD_rt, kD_nx, Rv.ret, gt, st, kVar_dat, kVar_own, o_add, o_sub, o_eq, o_ne, o_lt, o_le, o_gt, o_ge, o_eqB, o_neB, o_is2, o_isnot2, o_abs, o_ix, o_ixO, o_ixB, o_ixL, o_tupO, o_isBool, map_some', wp, tgN_, List.length_cons, List.length_nil, Nat.reduceAdd, Nat.reduceLeDiff, true_and, decide_true, decide_false, Bool.not_true, Bool.not_false, o_mul_u, o_div_u, o_mod_u, o_pow_u, o_eqS, o_neS, o_intB, o_lenS, o_lenO, o_lenB, o_iaddI, S_s1, kS1_, kS1b_, S_lm, kLm_bor, kLm_own, kLmb_, S_tab, o_ixT, o_ixS, S_put, kPut_, kPutK_, S_zip2, kZip_, kZipb_tup, o_sum, o_sumB, o_tupB, o_tupL, o_lenT, S_range1, kRng_3, S_tgtL, kTgtL_, List.nil_append, List.cons_append, Nat.reduceLT, SZ, forall_const, true_implies]
  refine S_while (fun m e g => ∃ (a b k : Nat), e = [.dat (.int (a : Int)), .dat (.int (b : Int))] ∧ g = s ∧ Nat.gcd a b = Nat.gcd a0 b0 ∧ a * b < 2 ^ k ∧ m = if b ≤ a then k + 1 else k + 2) (if b0 ≤ a0 then 12000 + 1 else 12000 + 2) ⟨_, _, 12000, rfl, rfl, rfl, ?_, rfl⟩ (by split <;> decide) ?_
  · have h1 : a0 * b0 < 2 ^ 6000 * 2 ^ 6000 := Nat.mul_lt_mul'' hx hy
    rw [← Nat.pow_add] at h1
    exact h1
  · rintro m e g ⟨a, b, k, rfl, rfl, h1, h2, h3⟩
    simp only [S_var, S_C, S_op1, k1_, S_op2, k2_, k2b_, S_nil, S_cons, kc_, kcb_, S_opN, kN_, S_tup, S_lst, kT_u, kL_u, stoL_nil, stoL_dat, stoL_own, consO_some, SatO_some, S_call, kCall_u, S_if, S_ifS, kI_true, kI_false, S_andV, S_orV, kAndV_true, kAndV_false, kOrV_true, kOrV_false, S_test, kTest_, S_tru, kTru_, S_and, S_or, S_not, kAnd_true, kAnd_false, kOr_true, kOr_false, kNot_, S_seq, kS_nx, kS_rt, kS_bk, kS_ct, S_pass, S_set, kSet_dat, kSet_own, S_par, kP_, kPb_, S_ret', kR_, S_retN, S_break, S_cont, S_for, kF_, S_forNil, kFb_nx, kFb_ct, kFb_bk, kFb_rt, S_items, kItems_tup, kItems_lst, kItems_own, S_lc, kLc_, S_lcNil, S_yes, kD_rt, kD_nx, Rv.ret, gt, st, kVar_dat, kVar_own, o_add, o_sub, o_eq, o_ne, o_lt, o_le, o_gt, o_ge, o_eqB, o_neB, o_is2, o_isnot2, o_abs, o_ix, o_ixO, o_ixB, o_ixL, o_tupO, o_isBool, map_some', wp, tgN_, List.length_cons, List.length_nil, Nat.reduceAdd, Nat.reduceLeDiff, true_and, decide_true, decide_false, Bool.not_true, Bool.not_false, o_mul_u, o_div_u, o_mod_u, o_pow_u, o_eqS, o_neS, o_intB, o_lenS, o_lenO, o_lenB, o_iaddI, S_s1, kS1_, kS1b_, S_lm, kLm_bor, kLm_own, kLmb_, S_tab, o_ixT, o_ixS, S_put, kPut_, kPutK_, S_zip2, kZip_, kZipb_tup, o_sum, o_sumB, o_tupB, o_tupL, o_lenT, S_range1, kRng_3, S_tgtL, kTgtL_, List.nil_append, List.cons_append, Nat.reduceLT, SZ, forall_const, true_implies]
    by_cases hb : 0 < b
    · rw [decide_eq_true (by omega)]
      simp only [S_var, S_C, S_op1, k1_, S_op2, k2_, k2b_, S_nil, S_cons, kc_, kcb_, S_opN, kN_, S_tup, S_lst, kT_u, kL_u, stoL_nil, stoL_dat, stoL_own, consO_some, SatO_some, S_call, kCall_u, S_if, S_ifS, kI_true, kI_false, S_andV, S_orV, kAndV_true, kAndV_false, kOrV_true, kOrV_false, S_test, kTest_, S_tru, kTru_, S_and, S_or, S_not, kAnd_true, kAnd_false, kOr_true, kOr_false, kNot_, S_seq, kS_nx, kS_rt, kS_bk, kS_ct, S_pass, S_set, kSet_dat, kSet_own, S_par, kP_, kPb_, S_ret', kR_, S_retN, S_break, S_cont, S_for, kF_, S_forNil, kFb_nx, kFb_ct, kFb_bk, kFb_rt, S_items, kItems_tup, kItems_lst, kItems_own, S_lc, kLc_, S_lcNil, S_yes, kD_rt, kD_nx, Rv.ret, gt, st, kVar_dat, kVar_own, o_add, o_sub, o_eq, o_ne, o_lt, o_le, o_gt, o_ge, o_eqB, o_neB, o_is2, o_isnot2, o_abs, o_ix, o_ixO, o_ixB, o_ixL, o_tupO, o_isBool, map_some', wp, tgN_, List.length_cons, List.length_nil, Nat.reduceAdd, Nat.reduceLeDiff, true_and, decide_true, decide_false, Bool.not_true, Bool.not_false, o_mul_u, o_div_u, o_mod_u, o_pow_u, o_eqS, o_neS, o_intB, o_lenS, o_lenO, o_lenB, o_iaddI, S_s1, kS1_, kS1b_, S_lm, kLm_bor, kLm_own, kLmb_, S_tab, o_ixT, o_ixS, S_put, kPut_, kPutK_, S_zip2, kZip_, kZipb_tup, o_sum, o_sumB, o_tupB, o_tupL, o_lenT, S_range1, kRng_3, S_tgtL, kTgtL_, List.nil_append, List.cons_append, Nat.reduceLT, SZ, forall_const, true_implies]
      refine ⟨by omega, ?_⟩
      have e1 : (a : Int) % (b : Int) = ((a % b : Nat) : Int) := rfl
      have hg : Nat.gcd b (a % b) = Nat.gcd a0 b0 := by
        rw [← h1, Nat.gcd_comm b, ← Nat.gcd_rec, Nat.gcd_comm]
      by_cases hab : b ≤ a
      · rw [if_pos hab] at h3
        have hlt := Nat.mod_lt a hb
        cases k with
        | zero =>
          exfalso
          have : 1 * 1 ≤ a * b := Nat.mul_le_mul (by omega) hb
          omega
        | succ k =>
          refine ⟨k + 1, by omega, b, a % b, k, by rw [e1], hg, halve hb hab h2, ?_⟩
          rw [if_pos (by omega)]
      · rw [if_neg hab] at h3
        have e2 : a % b = a := Nat.mod_eq_of_lt (by omega)
        refine ⟨k + 1, by omega, b, a % b, k, by rw [e1], hg, by rw [e2, Nat.mul_comm]; exact h2, ?_⟩
        rw [e2, if_pos (by omega)]
    · rw [decide_eq_false (by omega)]
      simp only [S_var, S_C, S_op1, k1_, S_op2, k2_, k2b_, S_nil, S_cons, kc_, kcb_, S_opN, kN_, S_tup, S_lst, kT_u, kL_u, stoL_nil, stoL_dat, stoL_own, consO_some, SatO_some, S_call, kCall_u, S_if, S_ifS, kI_true, kI_false, S_andV, S_orV, kAndV_true, kAndV_false, kOrV_true, kOrV_false, S_test, kTest_, S_tru, kTru_, S_and, S_or, S_not, kAnd_true, kAnd_false, kOr_true, kOr_false, kNot_, S_seq, kS_nx, kS_rt, kS_bk, kS_ct, S_pass, S_set, kSet_dat, kSet_own, S_par, kP_, kPb_, S_ret', kR_, S_retN, S_break, S_cont, S_for, kF_, S_forNil, kFb_nx, kFb_ct, kFb_bk, kFb_rt, S_items, kItems_tup, kItems_lst, kItems_own, S_lc, kLc_, S_lcNil, S_yes, kD_rt, kD_nx, Rv.ret, gt, st, kVar_dat, kVar_own, o_add, o_sub, o_eq, o_ne, o_lt, o_le, o_gt, o_ge, o_eqB, o_neB, o_is2, o_isnot2, o_abs, o_ix, o_ixO, o_ixB, o_ixL, o_tupO, o_isBool, map_some', wp, tgN_, List.length_cons, List.length_nil, Nat.reduceAdd, Nat.reduceLeDiff, true_and, decide_true, decide_false, Bool.not_true, Bool.not_false, o_mul_u, o_div_u, o_mod_u, o_pow_u, o_eqS, o_neS, o_intB, o_lenS, o_lenO, o_lenB, o_iaddI, S_s1, kS1_, kS1b_, S_lm, kLm_bor, kLm_own, kLmb_, S_tab, o_ixT, o_ixS, S_put, kPut_, kPutK_, S_zip2, kZip_, kZipb_tup, o_sum, o_sumB, o_tupB, o_tupL, o_lenT, S_range1, kRng_3, S_tgtL, kTgtL_, List.nil_append, List.cons_append, Nat.reduceLT, SZ, forall_const, true_implies]
      have hb0 : b = 0 := by omega
      subst hb0
      rw [Nat.gcd_zero_right] at h1
      rw [h1]
      exact q
theorem S_shared6 {x y : Int} {s : LS} {Q : Rv → LS → Prop} (hx : x.natAbs < 2 ^ 6000) (hy : y.natAbs < 2 ^ 6000) (q : Q (.dat (.int ((Nat.gcd x.natAbs y.natAbs : Nat) : Int))) s) : Sat (sharedF [.int x, .int y] s) Q := by
  unfold sharedF
  rw [S_def (k := 2) (ds := [.int x, .int y]) rfl]
  show Sat (sharedM [.dat (.int x), .dat (.int y)] s) _
  unfold sharedM
  simp only [S_var, S_C, S_op1, k1_, S_op2, k2_, k2b_, S_nil, S_cons, kc_, kcb_, S_opN, kN_, S_tup, S_lst, kT_u, kL_u, stoL_nil, stoL_dat, stoL_own, consO_some, SatO_some, S_call, kCall_u, S_if, S_ifS, kI_true, kI_false, S_andV, S_orV, kAndV_true, kAndV_false, kOrV_true, kOrV_false, S_test, kTest_, S_tru, kTru_, S_and, S_or, S_not, kAnd_true, kAnd_false, kOr_true, kOr_false, kNot_, S_seq, kS_nx, kS_rt, kS_bk, kS_ct, S_pass, S_set, kSet_dat, kSet_own, S_par, kP_, kPb_, S_ret', kR_, S_retN, S_break, S_cont, S_for, kF_, S_forNil, kFb_nx, kFb_ct, kFb_bk, kFb_rt, S_items, kItems_tup, kItems_lst, kItems_own, S_lc, kLc_, S_lcNil, S_yes, kD_rt, kD_nx, Rv.ret, gt, st, kVar_dat, kVar_own, o_add, o_sub, o_eq, o_ne, o_lt, o_le, o_gt, o_ge, o_eqB, o_neB, o_is2, o_isnot2, o_abs, o_ix, o_ixO, o_ixB, o_ixL, o_tupO, o_isBool, map_some', wp, tgN_, List.length_cons, List.length_nil, Nat.reduceAdd, Nat.reduceLeDiff, true_and, decide_true, decide_false, Bool.not_true, Bool.not_false, o_mul_u, o_div_u, o_mod_u, o_pow_u, o_eqS, o_neS, o_intB, o_lenS, o_lenO, o_lenB, o_iaddI, S_s1, kS1_, kS1b_, S_lm, kLm_bor, kLm_own, kLmb_, S_tab, o_ixT, o_ixS, S_put, kPut_, kPutK_, S_zip2, kZip_, kZipb_tup, o_sum, o_sumB, o_tupB, o_tupL, o_lenT, S_range1, kRng_3, S_tgtL, kTgtL_, List.nil_append, List.cons_append, Nat.reduceLT, SZ, forall_const, true_implies, abs_if]
  refine S_while (fun m e g => ∃ (a b k : Nat), e = [.dat (.int (a : Int)), .dat (.int (b : Int))] ∧ g = s ∧ Nat.gcd a b = Nat.gcd x.natAbs y.natAbs ∧ a * b < 2 ^ k ∧ m = if b ≤ a then k + 1 else k + 2) (if y.natAbs ≤ x.natAbs then 12000 + 1 else 12000 + 2) ⟨_, _, 12000, rfl, rfl, rfl, ?_, rfl⟩ (by split <;> decide) ?_
  · have h1 : x.natAbs * y.natAbs < 2 ^ 6000 * 2 ^ 6000 := Nat.mul_lt_mul'' hx hy
    rw [← Nat.pow_add] at h1
    exact h1
  · rintro m e g ⟨a, b, k, rfl, rfl, h1, h2, h3⟩
    simp only [S_var, S_C, S_op1, k1_, S_op2, k2_, k2b_, S_nil, S_cons, kc_, kcb_, S_opN, kN_, S_tup, S_lst, kT_u, kL_u, stoL_nil, stoL_dat, stoL_own, consO_some, SatO_some, S_call, kCall_u, S_if, S_ifS, kI_true, kI_false, S_andV, S_orV, kAndV_true, kAndV_false, kOrV_true, kOrV_false, S_test, kTest_, S_tru, kTru_, S_and, S_or, S_not, kAnd_true, kAnd_false, kOr_true, kOr_false, kNot_, S_seq, kS_nx, kS_rt, kS_bk, kS_ct, S_pass, S_set, kSet_dat, kSet_own, S_par, kP_, kPb_, S_ret', kR_, S_retN, S_break, S_cont, S_for, kF_, S_forNil, kFb_nx, kFb_ct, kFb_bk, kFb_rt, S_items, kItems_tup, kItems_lst, kItems_own, S_lc, kLc_, S_lcNil, S_yes, kD_rt, kD_nx, Rv.ret, gt, st, kVar_dat, kVar_own, o_add, o_sub, o_eq, o_ne, o_lt, o_le, o_gt, o_ge, o_eqB, o_neB, o_is2, o_isnot2, o_abs, o_ix, o_ixO, o_ixB, o_ixL, o_tupO, o_isBool, map_some', wp, tgN_, List.length_cons, List.length_nil, Nat.reduceAdd, Nat.reduceLeDiff, true_and, decide_true, decide_false, Bool.not_true, Bool.not_false, o_mul_u, o_div_u, o_mod_u, o_pow_u, o_eqS, o_neS, o_intB, o_lenS, o_lenO, o_lenB, o_iaddI, S_s1, kS1_, kS1b_, S_lm, kLm_bor, kLm_own, kLmb_, S_tab, o_ixT, o_ixS, S_put, kPut_, kPutK_, S_zip2, kZip_, kZipb_tup, o_sum, o_sumB, o_tupB, o_tupL, o_lenT, S_range1, kRng_3, S_tgtL, kTgtL_, List.nil_append, List.cons_append, Nat.reduceLT, SZ, forall_const, true_implies]
    by_cases hb : 0 < b
    · rw [decide_eq_true (by omega)]
      simp only [S_var, S_C, S_op1, k1_, S_op2, k2_, k2b_, S_nil, S_cons, kc_, kcb_, S_opN, kN_, S_tup, S_lst, kT_u, kL_u, stoL_nil, stoL_dat, stoL_own, consO_some, SatO_some, S_call, kCall_u, S_if, S_ifS, kI_true, kI_false, S_andV, S_orV, kAndV_true, kAndV_false, kOrV_true, kOrV_false, S_test, kTest_, S_tru, kTru_, S_and, S_or, S_not, kAnd_true, kAnd_false, kOr_true, kOr_false, kNot_, S_seq, kS_nx, kS_rt, kS_bk, kS_ct, S_pass, S_set, kSet_dat, kSet_own, S_par, kP_, kPb_, S_ret', kR_, S_retN, S_break, S_cont, S_for, kF_, S_forNil, kFb_nx, kFb_ct, kFb_bk, kFb_rt, S_items, kItems_tup, kItems_lst, kItems_own, S_lc, kLc_, S_lcNil, S_yes, kD_rt, kD_nx, Rv.ret, gt, st, kVar_dat, kVar_own, o_add, o_sub, o_eq, o_ne, o_lt, o_le, o_gt, o_ge, o_eqB, o_neB, o_is2, o_isnot2, o_abs, o_ix, o_ixO, o_ixB, o_ixL, o_tupO, o_isBool, map_some', wp, tgN_, List.length_cons, List.length_nil, Nat.reduceAdd, Nat.reduceLeDiff, true_and, decide_true, decide_false, Bool.not_true, Bool.not_false, o_mul_u, o_div_u, o_mod_u, o_pow_u, o_eqS, o_neS, o_intB, o_lenS, o_lenO, o_lenB, o_iaddI, S_s1, kS1_, kS1b_, S_lm, kLm_bor, kLm_own, kLmb_, S_tab, o_ixT, o_ixS, S_put, kPut_, kPutK_, S_zip2, kZip_, kZipb_tup, o_sum, o_sumB, o_tupB, o_tupL, o_lenT, S_range1, kRng_3, S_tgtL, kTgtL_, List.nil_append, List.cons_append, Nat.reduceLT, SZ, forall_const, true_implies]
      refine ⟨by omega, ?_⟩
      have e1 : (a : Int) % (b : Int) = ((a % b : Nat) : Int) := rfl
      have hg : Nat.gcd b (a % b) = Nat.gcd x.natAbs y.natAbs := by
        rw [← h1, Nat.gcd_comm b, ← Nat.gcd_rec, Nat.gcd_comm]
      by_cases hab : b ≤ a
      · rw [if_pos hab] at h3
        have hlt := Nat.mod_lt a hb
        cases k with
        | zero =>
          exfalso
          have : 1 * 1 ≤ a * b := Nat.mul_le_mul (by omega) hb
          omega
        | succ k =>
          refine ⟨k + 1, by omega, b, a % b, k, by rw [e1], hg, halve hb hab h2, ?_⟩
          rw [if_pos (by omega)]
      · rw [if_neg hab] at h3
        have e2 : a % b = a := Nat.mod_eq_of_lt (by omega)
        refine ⟨k + 1, by omega, b, a % b, k, by rw [e1], hg, by rw [e2, Nat.mul_comm]; exact h2, ?_⟩
        rw [e2, if_pos (by omega)]
    · rw [decide_eq_false (by omega)]
      simp only [S_var, S_C, S_op1, k1_, S_op2, k2_, k2b_, S_nil, S_cons, kc_, kcb_, S_opN, kN_, S_tup, S_lst, kT_u, kL_u, stoL_nil, stoL_dat, stoL_own, consO_some, SatO_some, S_call, kCall_u, S_if, S_ifS, kI_true, kI_false, S_andV, S_orV, kAndV_true, kAndV_false, kOrV_true, kOrV_false, S_test, kTest_, S_tru, kTru_, S_and, S_or, S_not, kAnd_true, kAnd_false, kOr_true, kOr_false, kNot_, S_seq, kS_nx, kS_rt, kS_bk, kS_ct, S_pass, S_set, kSet_dat, kSet_own, S_par, kP_, kPb_, S_ret', kR_, S_retN, S_break, S_cont, S_for, kF_, S_forNil, kFb_nx, kFb_ct, kFb_bk, kFb_rt, S_items, kItems_tup, kItems_lst, kItems_own, S_lc, kLc_, S_lcNil, S_yes, kD_rt, kD_nx, Rv.ret, gt, st, kVar_dat, kVar_own, o_add, o_sub, o_eq, o_ne, o_lt, o_le, o_gt, o_ge, o_eqB, o_neB, o_is2, o_isnot2, o_abs, o_ix, o_ixO, o_ixB, o_ixL, o_tupO, o_isBool, map_some', wp, tgN_, List.length_cons, List.length_nil, Nat.reduceAdd, Nat.reduceLeDiff, true_and, decide_true, decide_false, Bool.not_true, Bool.not_false, o_mul_u, o_div_u, o_mod_u, o_pow_u, o_eqS, o_neS, o_intB, o_lenS, o_lenO, o_lenB, o_iaddI, S_s1, kS1_, kS1b_, S_lm, kLm_bor, kLm_own, kLmb_, S_tab, o_ixT, o_ixS, S_put, kPut_, kPutK_, S_zip2, kZip_, kZipb_tup, o_sum, o_sumB, o_tupB, o_tupL, o_lenT, S_range1, kRng_3, S_tgtL, kTgtL_, List.nil_append, List.cons_append, Nat.reduceLT, SZ, forall_const, true_implies]
      have hb0 : b = 0 := by omega
      subst hb0
      rw [Nat.gcd_zero_right] at h1
      rw [h1]
      exact q
theorem S_llowest {ns : List Int} {d : D} {s : LS} {Q : Rv → LS → Prop} (hd : d = .tup (intDs ns) ∨ d = .lst (intDs ns)) (hb : ∀ n ∈ ns, 0 ≤ n ∧ n.natAbs < 2 ^ 6000) (h0 : 0 < gcdL ns 0) (hl : ns.length ≤ 1000) (q : Q (.dat (.tup (intDs (ns.map fun n => n / (gcdL ns 0 : Nat))))) s) : Sat (l_lowestF [d] s) Q := by
  unfold l_lowestF
  rw [S_def (k := 1) (ds := [d]) rfl]
  show Sat (l_lowestM [.dat d, .un, .un] s) _
  have it : ∀ {QI : List D → LS → Prop} {g : LS}, kItems QI (.dat d) g = QI (intDs ns) g := by
    rcases hd with rfl | rfl
    · intros; rfl
    · intros; rfl
  unfold l_lowestM
  simp only [S_var, S_C, S_op1, k1_, S_op2, k2_, k2b_, S_nil, S_cons, kc_, kcb_, S_opN, kN_, S_tup, S_lst, kT_u, kL_u, stoL_nil, stoL_dat, stoL_own, consO_some, SatO_some, S_call, kCall_u, S_if, S_ifS, kI_true, kI_false, S_andV, S_orV, kAndV_true, kAndV_false, kOrV_true, kOrV_false, S_test, kTest_, S_tru, kTru_, S_and, S_or, S_not, kAnd_true, kAnd_false, kOr_true, kOr_false, kNot_, S_seq, kS_nx, kS_rt, kS_bk, kS_ct, S_pass, S_set, kSet_dat, kSet_own, S_par, kP_, kPb_, S_ret', kR_, S_retN, S_break, S_cont, S_for, kF_, S_forNil, kFb_nx, kFb_ct, kFb_bk, kFb_rt, S_items, kItems_tup, kItems_lst, kItems_own, S_lc, kLc_, S_lcNil, S_yes, kD_rt, kD_nx, Rv.ret, gt, st, kVar_dat, kVar_own, o_add, o_sub, o_eq, o_ne, o_lt, o_le, o_gt, o_ge, o_eqB, o_neB, o_is2, o_isnot2, o_abs, o_ix, o_ixO, o_ixB, o_ixL, o_tupO, o_isBool, map_some', wp, tgN_, List.length_cons, List.length_nil, Nat.reduceAdd, Nat.reduceLeDiff, true_and, decide_true, decide_false, Bool.not_true, Bool.not_false, o_mul_u, o_div_u, o_mod_u, o_pow_u, o_eqS, o_neS, o_intB, o_lenS, o_lenO, o_lenB, o_iaddI, S_s1, kS1_, kS1b_, S_lm, kLm_bor, kLm_own, kLmb_, S_tab, o_ixT, o_ixS, S_put, kPut_, kPutK_, S_zip2, kZip_, kZipb_tup, o_sum, o_sumB, o_tupB, o_tupL, o_lenT, S_range1, kRng_3, S_tgtL, kTgtL_, List.nil_append, List.cons_append, Nat.reduceLT, SZ, forall_const, true_implies]
  rw [it]
  unfold intDs
  refine S_forA ns D.int (fun pre _ e g => ∃ x, e = [.dat d, .dat (.int ((gcdL pre 0 : Nat) : Int)), x] ∧ g = s) ⟨_, rfl, rfl⟩ ?_ ?_
  · rintro pre x post e g hns ⟨y, rfl, rfl⟩
    refine ⟨_, rfl, ?_⟩
    have hpre : gcdL pre 0 < 2 ^ 6000 := gcdL_lt (by decide) fun n hn => (hb n (by rw [hns]; simp [hn])).2
    obtain ⟨x0, x1⟩ := hb x (by rw [hns]; simp)
    obtain ⟨xn, rfl⟩ : ∃ xn : Nat, x = (xn : Nat) := ⟨x.toNat, by omega⟩
    rw [Int.natAbs_natCast] at x1
    simp only [st]
    rw [S_seq, S_frz_dat rfl, kS_nx]
    simp only [S_var, S_C, S_op1, k1_, S_op2, k2_, k2b_, S_nil, S_cons, kc_, kcb_, S_opN, kN_, S_tup, S_lst, kT_u, kL_u, stoL_nil, stoL_dat, stoL_own, consO_some, SatO_some, S_call, kCall_u, S_if, S_ifS, kI_true, kI_false, S_andV, S_orV, kAndV_true, kAndV_false, kOrV_true, kOrV_false, S_test, kTest_, S_tru, kTru_, S_and, S_or, S_not, kAnd_true, kAnd_false, kOr_true, kOr_false, kNot_, S_seq, kS_nx, kS_rt, kS_bk, kS_ct, S_pass, S_set, kSet_dat, kSet_own, S_par, kP_, kPb_, S_ret', kR_, S_retN, S_break, S_cont, S_for, kF_, S_forNil, kFb_nx, kFb_ct, kFb_bk, kFb_rt, S_items, kItems_tup, kItems_lst, kItems_own, S_lc, kLc_, S_lcNil, S_yes, kD_rt, kD_nx, Rv.ret, gt, st, kVar_dat, kVar_own, o_add, o_sub, o_eq, o_ne, o_lt, o_le, o_gt, o_ge, o_eqB, o_neB, o_is2, o_isnot2, o_abs, o_ix, o_ixO, o_ixB, o_ixL, o_tupO, o_isBool, map_some', wp, tgN_, List.length_cons, List.length_nil, Nat.reduceAdd, Nat.reduceLeDiff, true_and, decide_true, decide_false, Bool.not_true, Bool.not_false, o_mul_u, o_div_u, o_mod_u, o_pow_u, o_eqS, o_neS, o_intB, o_lenS, o_lenO, o_lenB, o_iaddI, S_s1, kS1_, kS1b_, S_lm, kLm_bor, kLm_own, kLmb_, S_tab, o_ixT, o_ixS, S_put, kPut_, kPutK_, S_zip2, kZip_, kZipb_tup, o_sum, o_sumB, o_tupB, o_tupL, o_lenT, S_range1, kRng_3, S_tgtL, kTgtL_, List.nil_append, List.cons_append, Nat.reduceLT, SZ, forall_const, true_implies]
    refine S_lshared x1 hpre ?_
    simp only [S_var, S_C, S_op1, k1_, S_op2, k2_, k2b_, S_nil, S_cons, kc_, kcb_, S_opN, kN_, S_tup, S_lst, kT_u, kL_u, stoL_nil, stoL_dat, stoL_own, consO_some, SatO_some, S_call, kCall_u, S_if, S_ifS, kI_true, kI_false, S_andV, S_orV, kAndV_true, kAndV_false, kOrV_true, kOrV_false, S_test, kTest_, S_tru, kTru_, S_and, S_or, S_not, kAnd_true, kAnd_false, kOr_true, kOr_false, kNot_, S_seq, kS_nx, kS_rt, kS_bk, kS_ct, S_pass, S_set, kSet_dat, kSet_own, S_par, kP_, kPb_, S_ret', kR_, S_retN, S_break, S_cont, S_for, kF_, S_forNil, kFb_nx, kFb_ct, kFb_bk, kFb_rt, S_items, kItems_tup, kItems_lst, kItems_own, S_lc, kLc_, S_lcNil, S_yes, kD_rt, kD_nx, Rv.ret, gt, st, kVar_dat, kVar_own, o_add, o_sub, o_eq, o_ne, o_lt, o_le, o_gt, o_ge, o_eqB, o_neB, o_is2, o_isnot2, o_abs, o_ix, o_ixO, o_ixB, o_ixL, o_tupO, o_isBool, map_some', wp, tgN_, List.length_cons, List.length_nil, Nat.reduceAdd, Nat.reduceLeDiff, true_and, decide_true, decide_false, Bool.not_true, Bool.not_false, o_mul_u, o_div_u, o_mod_u, o_pow_u, o_eqS, o_neS, o_intB, o_lenS, o_lenO, o_lenB, o_iaddI, S_s1, kS1_, kS1b_, S_lm, kLm_bor, kLm_own, kLmb_, S_tab, o_ixT, o_ixS, S_put, kPut_, kPutK_, S_zip2, kZip_, kZipb_tup, o_sum, o_sumB, o_tupB, o_tupL, o_lenT, S_range1, kRng_3, S_tgtL, kTgtL_, List.nil_append, List.cons_append, Nat.reduceLT, SZ, forall_const, true_implies]
    rw [gcdL_app]
    refine ⟨.dat (.int (xn : Nat)), ?_, trivial⟩
    show [_, Sl.dat (.int ((Nat.gcd xn (gcdL pre 0) : Nat) : Int)), _] = [_, Sl.dat (.int ((Nat.gcd (gcdL pre 0) xn : Nat) : Int)), _]
    rw [Nat.gcd_comm]
  · rintro e g ⟨y, rfl, rfl⟩
    have hg : gcdL ns 0 < 2 ^ 6000 := gcdL_lt (by decide) fun n hn => (hb n hn).2
    have dv : DivOk ((gcdL ns 0 : Nat) : Int) := divOk (b := 6000) (by omega) (by rw [Int.natAbs_natCast]; exact hg) (by decide) (by decide)
    simp only [S_var, S_C, S_op1, k1_, S_op2, k2_, k2b_, S_nil, S_cons, kc_, kcb_, S_opN, kN_, S_tup, S_lst, kT_u, kL_u, stoL_nil, stoL_dat, stoL_own, consO_some, SatO_some, S_call, kCall_u, S_if, S_ifS, kI_true, kI_false, S_andV, S_orV, kAndV_true, kAndV_false, kOrV_true, kOrV_false, S_test, kTest_, S_tru, kTru_, S_and, S_or, S_not, kAnd_true, kAnd_false, kOr_true, kOr_false, kNot_, S_seq, kS_nx, kS_rt, kS_bk, kS_ct, S_pass, S_set, kSet_dat, kSet_own, S_par, kP_, kPb_, S_ret', kR_, S_retN, S_break, S_cont, S_for, kF_, S_forNil, kFb_nx, kFb_ct, kFb_bk, kFb_rt, S_items, kItems_tup, kItems_lst, kItems_own, S_lc, kLc_, S_lcNil, S_yes, kD_rt, kD_nx, Rv.ret, gt, st, kVar_dat, kVar_own, o_add, o_sub, o_eq, o_ne, o_lt, o_le, o_gt, o_ge, o_eqB, o_neB, o_is2, o_isnot2, o_abs, o_ix, o_ixO, o_ixB, o_ixL, o_tupO, o_isBool, map_some', wp, tgN_, List.length_cons, List.length_nil, Nat.reduceAdd, Nat.reduceLeDiff, true_and, decide_true, decide_false, Bool.not_true, Bool.not_false, o_mul_u, o_div_u, o_mod_u, o_pow_u, o_eqS, o_neS, o_intB, o_lenS, o_lenO, o_lenB, o_iaddI, S_s1, kS1_, kS1b_, S_lm, kLm_bor, kLm_own, kLmb_, S_tab, o_ixT, o_ixS, S_put, kPut_, kPutK_, S_zip2, kZip_, kZipb_tup, o_sum, o_sumB, o_tupB, o_tupL, o_lenT, S_range1, kRng_3, S_tgtL, kTgtL_, List.nil_append, List.cons_append, Nat.reduceLT, SZ, forall_const, true_implies, it]
    unfold intDs
    refine S_lcA ns D.int (fun n => D.int (n / (gcdL ns 0 : Nat))) (by show _ ≤ 16777216; omega) (fun x _ => ⟨_, rfl, ?_⟩) ?_
    · simp only [S_var, S_C, S_op1, k1_, S_op2, k2_, k2b_, S_nil, S_cons, kc_, kcb_, S_opN, kN_, S_tup, S_lst, kT_u, kL_u, stoL_nil, stoL_dat, stoL_own, consO_some, SatO_some, S_call, kCall_u, S_if, S_ifS, kI_true, kI_false, S_andV, S_orV, kAndV_true, kAndV_false, kOrV_true, kOrV_false, S_test, kTest_, S_tru, kTru_, S_and, S_or, S_not, kAnd_true, kAnd_false, kOr_true, kOr_false, kNot_, S_seq, kS_nx, kS_rt, kS_bk, kS_ct, S_pass, S_set, kSet_dat, kSet_own, S_par, kP_, kPb_, S_ret', kR_, S_retN, S_break, S_cont, S_for, kF_, S_forNil, kFb_nx, kFb_ct, kFb_bk, kFb_rt, S_items, kItems_tup, kItems_lst, kItems_own, S_lc, kLc_, S_lcNil, S_yes, kD_rt, kD_nx, Rv.ret, gt, st, kVar_dat, kVar_own, o_add, o_sub, o_eq, o_ne, o_lt, o_le, o_gt, o_ge, o_eqB, o_neB, o_is2, o_isnot2, o_abs, o_ix, o_ixO, o_ixB, o_ixL, o_tupO, o_isBool, map_some', wp, tgN_, List.length_cons, List.length_nil, Nat.reduceAdd, Nat.reduceLeDiff, true_and, decide_true, decide_false, Bool.not_true, Bool.not_false, o_mul_u, o_div_u, o_mod_u, o_pow_u, o_eqS, o_neS, o_intB, o_lenS, o_lenO, o_lenB, o_iaddI, S_s1, kS1_, kS1b_, S_lm, kLm_bor, kLm_own, kLmb_, S_tab, o_ixT, o_ixS, S_put, kPut_, kPutK_, S_zip2, kZip_, kZipb_tup, o_sum, o_sumB, o_tupB, o_tupL, o_lenT, S_range1, kRng_3, S_tgtL, kTgtL_, List.nil_append, List.cons_append, Nat.reduceLT, SZ, forall_const, true_implies]
      exact ⟨dv, rfl, trivial⟩
    · simp only [S_var, S_C, S_op1, k1_, S_op2, k2_, k2b_, S_nil, S_cons, kc_, kcb_, S_opN, kN_, S_tup, S_lst, kT_u, kL_u, stoL_nil, stoL_dat, stoL_own, consO_some, SatO_some, S_call, kCall_u, S_if, S_ifS, kI_true, kI_false, S_andV, S_orV, kAndV_true, kAndV_false, kOrV_true, kOrV_false, S_test, kTest_, S_tru, kTru_, S_and, S_or, S_not, kAnd_true, kAnd_false, kOr_true, kOr_false, kNot_, S_seq, kS_nx, kS_rt, kS_bk, kS_ct, S_pass, S_set, kSet_dat, kSet_own, S_par, kP_, kPb_, S_ret', kR_, S_retN, S_break, S_cont, S_for, kF_, S_forNil, kFb_nx, kFb_ct, kFb_bk, kFb_rt, S_items, kItems_tup, kItems_lst, kItems_own, S_lc, kLc_, S_lcNil, S_yes, kD_rt, kD_nx, Rv.ret, gt, st, kVar_dat, kVar_own, o_add, o_sub, o_eq, o_ne, o_lt, o_le, o_gt, o_ge, o_eqB, o_neB, o_is2, o_isnot2, o_abs, o_ix, o_ixO, o_ixB, o_ixL, o_tupO, o_isBool, map_some', wp, tgN_, List.length_cons, List.length_nil, Nat.reduceAdd, Nat.reduceLeDiff, true_and, decide_true, decide_false, Bool.not_true, Bool.not_false, o_mul_u, o_div_u, o_mod_u, o_pow_u, o_eqS, o_neS, o_intB, o_lenS, o_lenO, o_lenB, o_iaddI, S_s1, kS1_, kS1b_, S_lm, kLm_bor, kLm_own, kLmb_, S_tab, o_ixT, o_ixS, S_put, kPut_, kPutK_, S_zip2, kZip_, kZipb_tup, o_sum, o_sumB, o_tupB, o_tupL, o_lenT, S_range1, kRng_3, S_tgtL, kTgtL_, List.nil_append, List.cons_append, Nat.reduceLT, SZ, forall_const, true_implies]
      unfold intDs at q
      rw [List.map_map] at q
      exact q
theorem S_lowest2 {ns : List Int} {d : D} {s : LS} {Q : Rv → LS → Prop} (hd : d = .tup (intDs ns) ∨ d = .lst (intDs ns)) (hb : ∀ n ∈ ns, n.natAbs < 2 ^ 6000) (h0 : 0 < gcdL ns 0) (hl : ns.length ≤ 1000) (q : Q (.dat (.tup (intDs (ns.map fun n => n / (gcdL ns 0 : Nat))))) s) : Sat (lowest2F [d] s) Q := by
  unfold lowest2F
  rw [S_def (k := 1) (ds := [d]) rfl]
  show Sat (lowest2M [.dat d, .un, .un] s) _
  have it : ∀ {QI : List D → LS → Prop} {g : LS}, kItems QI (.dat d) g = QI (intDs ns) g := by
    rcases hd with rfl | rfl
    · intros; rfl
    · intros; rfl
  unfold lowest2M
  simp only [S_var, S_C, S_op1, k1_, S_op2, k2_, k2b_, S_nil, S_cons, kc_, kcb_, S_opN, kN_, S_tup, S_lst, kT_u, kL_u, stoL_nil, stoL_dat, stoL_own, consO_some, SatO_some, S_call, kCall_u, S_if, S_ifS, kI_true, kI_false, S_andV, S_orV, kAndV_true, kAndV_false, kOrV_true, kOrV_false, S_test, kTest_, S_tru, kTru_, S_and, S_or, S_not, kAnd_true, kAnd_false, kOr_true, kOr_false, kNot_, S_seq, kS_nx, kS_rt, kS_bk, kS_ct, S_pass, S_set, kSet_dat, kSet_own, S_par, kP_, kPb_, S_ret', kR_, S_retN, S_break, S_cont, S_for, kF_, S_forNil, kFb_nx, kFb_ct, kFb_bk, kFb_rt, S_items, kItems_tup, kItems_lst, kItems_own, S_lc, kLc_, S_lcNil, S_yes, kD_rt, kD_nx, Rv.ret, gt, st, kVar_dat, kVar_own, o_add, o_sub, o_eq, o_ne, o_lt, o_le, o_gt, o_ge, o_eqB, o_neB, o_is2, o_isnot2, o_abs, o_ix, o_ixO, o_ixB, o_ixL, o_tupO, o_isBool, map_some', wp, tgN_, List.length_cons, List.length_nil, Nat.reduceAdd, Nat.reduceLeDiff, true_and, decide_true, decide_false, Bool.not_true, Bool.not_false, o_mul_u, o_div_u, o_mod_u, o_pow_u, o_eqS, o_neS, o_intB, o_lenS, o_lenO, o_lenB, o_iaddI, S_s1, kS1_, kS1b_, S_lm, kLm_bor, kLm_own, kLmb_, S_tab, o_ixT, o_ixS, S_put, kPut_, kPutK_, S_zip2, kZip_, kZipb_tup, o_sum, o_sumB, o_tupB, o_tupL, o_lenT, S_range1, kRng_3, S_tgtL, kTgtL_, List.nil_append, List.cons_append, Nat.reduceLT, SZ, forall_const, true_implies]
  rw [it]
  unfold intDs
  refine S_forA ns D.int (fun pre _ e g => ∃ x, e = [.dat d, .dat (.int ((gcdL pre 0 : Nat) : Int)), x] ∧ g = s) ⟨_, rfl, rfl⟩ ?_ ?_
  · rintro pre x post e g hns ⟨y, rfl, rfl⟩
    refine ⟨_, rfl, ?_⟩
    have hpre : gcdL pre 0 < 2 ^ 6000 := gcdL_lt (by decide) fun n hn => hb n (by rw [hns]; simp [hn])
    simp only [st]
    rw [S_seq, S_frz_dat rfl, kS_nx]
    simp only [S_var, S_C, S_op1, k1_, S_op2, k2_, k2b_, S_nil, S_cons, kc_, kcb_, S_opN, kN_, S_tup, S_lst, kT_u, kL_u, stoL_nil, stoL_dat, stoL_own, consO_some, SatO_some, S_call, kCall_u, S_if, S_ifS, kI_true, kI_false, S_andV, S_orV, kAndV_true, kAndV_false, kOrV_true, kOrV_false, S_test, kTest_, S_tru, kTru_, S_and, S_or, S_not, kAnd_true, kAnd_false, kOr_true, kOr_false, kNot_, S_seq, kS_nx, kS_rt, kS_bk, kS_ct, S_pass, S_set, kSet_dat, kSet_own, S_par, kP_, kPb_, S_ret', kR_, S_retN, S_break, S_cont, S_for, kF_, S_forNil, kFb_nx, kFb_ct, kFb_bk, kFb_rt, S_items, kItems_tup, kItems_lst, kItems_own, S_lc, kLc_, S_lcNil, S_yes, kD_rt, kD_nx, Rv.ret, gt, st, kVar_dat, kVar_own, o_add, o_sub, o_eq, o_ne, o_lt, o_le, o_gt, o_ge, o_eqB, o_neB, o_is2, o_isnot2, o_abs, o_ix, o_ixO, o_ixB, o_ixL, o_tupO, o_isBool, map_some', wp, tgN_, List.length_cons, List.length_nil, Nat.reduceAdd, Nat.reduceLeDiff, true_and, decide_true, decide_false, Bool.not_true, Bool.not_false, o_mul_u, o_div_u, o_mod_u, o_pow_u, o_eqS, o_neS, o_intB, o_lenS, o_lenO, o_lenB, o_iaddI, S_s1, kS1_, kS1b_, S_lm, kLm_bor, kLm_own, kLmb_, S_tab, o_ixT, o_ixS, S_put, kPut_, kPutK_, S_zip2, kZip_, kZipb_tup, o_sum, o_sumB, o_tupB, o_tupL, o_lenT, S_range1, kRng_3, S_tgtL, kTgtL_, List.nil_append, List.cons_append, Nat.reduceLT, SZ, forall_const, true_implies]
    refine S_shared6 (by rw [Int.natAbs_natCast]; exact hpre) (hb x (by rw [hns]; simp)) ?_
    rw [Int.natAbs_natCast]
    simp only [S_var, S_C, S_op1, k1_, S_op2, k2_, k2b_, S_nil, S_cons, kc_, kcb_, S_opN, kN_, S_tup, S_lst, kT_u, kL_u, stoL_nil, stoL_dat, stoL_own, consO_some, SatO_some, S_call, kCall_u, S_if, S_ifS, kI_true, kI_false, S_andV, S_orV, kAndV_true, kAndV_false, kOrV_true, kOrV_false, S_test, kTest_, S_tru, kTru_, S_and, S_or, S_not, kAnd_true, kAnd_false, kOr_true, kOr_false, kNot_, S_seq, kS_nx, kS_rt, kS_bk, kS_ct, S_pass, S_set, kSet_dat, kSet_own, S_par, kP_, kPb_, S_ret', kR_, S_retN, S_break, S_cont, S_for, kF_, S_forNil, kFb_nx, kFb_ct, kFb_bk, kFb_rt, S_items, kItems_tup, kItems_lst, kItems_own, S_lc, kLc_, S_lcNil, S_yes, kD_rt, kD_nx, Rv.ret, gt, st, kVar_dat, kVar_own, o_add, o_sub, o_eq, o_ne, o_lt, o_le, o_gt, o_ge, o_eqB, o_neB, o_is2, o_isnot2, o_abs, o_ix, o_ixO, o_ixB, o_ixL, o_tupO, o_isBool, map_some', wp, tgN_, List.length_cons, List.length_nil, Nat.reduceAdd, Nat.reduceLeDiff, true_and, decide_true, decide_false, Bool.not_true, Bool.not_false, o_mul_u, o_div_u, o_mod_u, o_pow_u, o_eqS, o_neS, o_intB, o_lenS, o_lenO, o_lenB, o_iaddI, S_s1, kS1_, kS1b_, S_lm, kLm_bor, kLm_own, kLmb_, S_tab, o_ixT, o_ixS, S_put, kPut_, kPutK_, S_zip2, kZip_, kZipb_tup, o_sum, o_sumB, o_tupB, o_tupL, o_lenT, S_range1, kRng_3, S_tgtL, kTgtL_, List.nil_append, List.cons_append, Nat.reduceLT, SZ, forall_const, true_implies]
    rw [gcdL_app]
    exact ⟨_, rfl, trivial⟩
  · rintro e g ⟨y, rfl, rfl⟩
    have hg : gcdL ns 0 < 2 ^ 6000 := gcdL_lt (by decide) hb
    have dv : DivOk ((gcdL ns 0 : Nat) : Int) := divOk (b := 6000) (by omega) (by rw [Int.natAbs_natCast]; exact hg) (by decide) (by decide)
    simp only [S_var, S_C, S_op1, k1_, S_op2, k2_, k2b_, S_nil, S_cons, kc_, kcb_, S_opN, kN_, S_tup, S_lst, kT_u, kL_u, stoL_nil, stoL_dat, stoL_own, consO_some, SatO_some, S_call, kCall_u, S_if, S_ifS, kI_true, kI_false, S_andV, S_orV, kAndV_true, kAndV_false, kOrV_true, kOrV_false, S_test, kTest_, S_tru, kTru_, S_and, S_or, S_not, kAnd_true, kAnd_false, kOr_true, kOr_false, kNot_, S_seq, kS_nx, kS_rt, kS_bk, kS_ct, S_pass, S_set, kSet_dat, kSet_own, S_par, kP_, kPb_, S_ret', kR_, S_retN, S_break, S_cont, S_for, kF_, S_forNil, kFb_nx, kFb_ct, kFb_bk, kFb_rt, S_items, kItems_tup, kItems_lst, kItems_own, S_lc, kLc_, S_lcNil, S_yes, kD_rt, kD_nx, Rv.ret, gt, st, kVar_dat, kVar_own, o_add, o_sub, o_eq, o_ne, o_lt, o_le, o_gt, o_ge, o_eqB, o_neB, o_is2, o_isnot2, o_abs, o_ix, o_ixO, o_ixB, o_ixL, o_tupO, o_isBool, map_some', wp, tgN_, List.length_cons, List.length_nil, Nat.reduceAdd, Nat.reduceLeDiff, true_and, decide_true, decide_false, Bool.not_true, Bool.not_false, o_mul_u, o_div_u, o_mod_u, o_pow_u, o_eqS, o_neS, o_intB, o_lenS, o_lenO, o_lenB, o_iaddI, S_s1, kS1_, kS1b_, S_lm, kLm_bor, kLm_own, kLmb_, S_tab, o_ixT, o_ixS, S_put, kPut_, kPutK_, S_zip2, kZip_, kZipb_tup, o_sum, o_sumB, o_tupB, o_tupL, o_lenT, S_range1, kRng_3, S_tgtL, kTgtL_, List.nil_append, List.cons_append, Nat.reduceLT, SZ, forall_const, true_implies, it]
    unfold intDs
    refine S_lcA ns D.int (fun n => D.int (n / (gcdL ns 0 : Nat))) (by show _ ≤ 16777216; omega) (fun x _ => ⟨_, rfl, ?_⟩) ?_
    · simp only [S_var, S_C, S_op1, k1_, S_op2, k2_, k2b_, S_nil, S_cons, kc_, kcb_, S_opN, kN_, S_tup, S_lst, kT_u, kL_u, stoL_nil, stoL_dat, stoL_own, consO_some, SatO_some, S_call, kCall_u, S_if, S_ifS, kI_true, kI_false, S_andV, S_orV, kAndV_true, kAndV_false, kOrV_true, kOrV_false, S_test, kTest_, S_tru, kTru_, S_and, S_or, S_not, kAnd_true, kAnd_false, kOr_true, kOr_false, kNot_, S_seq, kS_nx, kS_rt, kS_bk, kS_ct, S_pass, S_set, kSet_dat, kSet_own, S_par, kP_, kPb_, S_ret', kR_, S_retN, S_break, S_cont, S_for, kF_, S_forNil, kFb_nx, kFb_ct, kFb_bk, kFb_rt, S_items, kItems_tup, kItems_lst, kItems_own, S_lc, kLc_, S_lcNil, S_yes, kD_rt, kD_nx, Rv.ret, gt, st, kVar_dat, kVar_own, o_add, o_sub, o_eq, o_ne, o_lt, o_le, o_gt, o_ge, o_eqB, o_neB, o_is2, o_isnot2, o_abs, o_ix, o_ixO, o_ixB, o_ixL, o_tupO, o_isBool, map_some', wp, tgN_, List.length_cons, List.length_nil, Nat.reduceAdd, Nat.reduceLeDiff, true_and, decide_true, decide_false, Bool.not_true, Bool.not_false, o_mul_u, o_div_u, o_mod_u, o_pow_u, o_eqS, o_neS, o_intB, o_lenS, o_lenO, o_lenB, o_iaddI, S_s1, kS1_, kS1b_, S_lm, kLm_bor, kLm_own, kLmb_, S_tab, o_ixT, o_ixS, S_put, kPut_, kPutK_, S_zip2, kZip_, kZipb_tup, o_sum, o_sumB, o_tupB, o_tupL, o_lenT, S_range1, kRng_3, S_tgtL, kTgtL_, List.nil_append, List.cons_append, Nat.reduceLT, SZ, forall_const, true_implies]
      exact ⟨dv, rfl, trivial⟩
    · simp only [S_var, S_C, S_op1, k1_, S_op2, k2_, k2b_, S_nil, S_cons, kc_, kcb_, S_opN, kN_, S_tup, S_lst, kT_u, kL_u, stoL_nil, stoL_dat, stoL_own, consO_some, SatO_some, S_call, kCall_u, S_if, S_ifS, kI_true, kI_false, S_andV, S_orV, kAndV_true, kAndV_false, kOrV_true, kOrV_false, S_test, kTest_, S_tru, kTru_, S_and, S_or, S_not, kAnd_true, kAnd_false, kOr_true, kOr_false, kNot_, S_seq, kS_nx, kS_rt, kS_bk, kS_ct, S_pass, S_set, kSet_dat, kSet_own, S_par, kP_, kPb_, S_ret', kR_, S_retN, S_break, S_cont, S_for, kF_, S_forNil, kFb_nx, kFb_ct, kFb_bk, kFb_rt, S_items, kItems_tup, kItems_lst, kItems_own, S_lc, kLc_, S_lcNil, S_yes, kD_rt, kD_nx, Rv.ret, gt, st, kVar_dat, kVar_own, o_add, o_sub, o_eq, o_ne, o_lt, o_le, o_gt, o_ge, o_eqB, o_neB, o_is2, o_isnot2, o_abs, o_ix, o_ixO, o_ixB, o_ixL, o_tupO, o_isBool, map_some', wp, tgN_, List.length_cons, List.length_nil, Nat.reduceAdd, Nat.reduceLeDiff, true_and, decide_true, decide_false, Bool.not_true, Bool.not_false, o_mul_u, o_div_u, o_mod_u, o_pow_u, o_eqS, o_neS, o_intB, o_lenS, o_lenO, o_lenB, o_iaddI, S_s1, kS1_, kS1b_, S_lm, kLm_bor, kLm_own, kLmb_, S_tab, o_ixT, o_ixS, S_put, kPut_, kPutK_, S_zip2, kZip_, kZipb_tup, o_sum, o_sumB, o_tupB, o_tupL, o_lenT, S_range1, kRng_3, S_tgtL, kTgtL_, List.nil_append, List.cons_append, Nat.reduceLT, SZ, forall_const, true_implies]
      unfold intDs at q
      rw [List.map_map] at q
      exact q
theorem prc_gcd {v : V3} (h : Prc v) : 0 < gcdL [v.1, v.2.1, v.2.2] 0 := by
  refine gcdL_pos (.inr ?_)
  rcases h.n with k | k | k
  · exact ⟨_, List.mem_cons_self, k⟩
  · exact ⟨_, List.mem_cons_of_mem _ List.mem_cons_self, k⟩
  · exact ⟨_, List.mem_cons_of_mem _ (List.mem_cons_of_mem _ List.mem_cons_self), k⟩
theorem mem3 {P : Int → Prop} {x y z : Int} (hx : P x) (hy : P y) (hz : P z) : ∀ n ∈ [x, y, z], P n := by
  intro n hn
  rcases List.mem_cons.mp hn with rfl | hn
  · exact hx
  · rcases List.mem_cons.mp hn with rfl | hn
    · exact hy
    · rw [List.mem_singleton.mp hn]
      exact hz
theorem S_llow {n : Nat} {v : V3} {s : LS} {Q : Rv → LS → Prop} (h : Prc v) (hb : Lt3 n v) (hn : n ≤ 6000) (q : Q (.dat (vd (lowV v))) s) : Sat (l_lowestF [.lst [.int v.1, .int v.2.1, .int v.2.2]] s) Q :=
  S_llowest (ns := [v.1, v.2.1, v.2.2]) (.inr rfl) (mem3 ⟨h.x, ltUp hb.x hn⟩ ⟨h.y, ltUp hb.y hn⟩ ⟨h.z, ltUp hb.z hn⟩) (prc_gcd h) (by simp) q
theorem S_worthW {n m : Nat} {w v : V3} {s : LS} {Q : Rv → LS → Prop} (hw : Lt3 m w) (hv : Lt3 n v) (hb : m + n ≤ 900000) (q : Q (.dat (.int (dot w v))) s) : Sat (l_worthF [vd w, vd v] s) Q := by
  unfold l_worthF
  rw [S_def (k := 2) (ds := [vd w, vd v]) rfl]
  show Sat (l_worthM [.dat (vd w), .dat (vd v), .un, .un] s) _
  unfold l_worthM
  rw [S_ret', dot_eq (i := 2) (j := 3) (u := w) (v := v) (e := [.dat (vd w), .dat (vd v), .un, .un]) (s := s) rfl rfl (show 2 < 4 by decide) (show 3 < 4 by decide) (by decide) hw hv hb, Sat_ok, kR_, kD_rt]
  exact q
theorem Sat_eqU {γ α : Type} {r : Rs γ α} {a : α} {g : γ} {Q : α → γ → Prop} (h : r = .ok a g) (q : Q a g) : Sat r Q := by
  rw [h, Sat_ok]
  exact q
theorem oAny_map {α : Type} (f : α → Bool) (ls : List α) : oAny [.own (ls.map fun x => .bl (f x))] = some (.dat (.bl (ls.any f))) := by
  rw [o_any]
  have e : dBls (ls.map fun x => .bl (f x)) = some (ls.map f) := by
    induction ls with
    | nil => rfl
    | cons x xs ih =>
      show (dBls (xs.map fun x => .bl (f x))).map (f x :: ·) = _
      rw [ih]
      rfl
  rw [e]
  show some (dB ((ls.map f).any id)) = _
  rw [List.any_map]
  rfl
section
variable {γ : Type} {e : Env} {g : γ} {a b c : ME γ} {f f' : Op2} {Q : Rv → γ → Prop} {QB : Bool → γ → Prop}
theorem chain_ii {i j k : Int} {u v : Bool} (ha : a e g = .ok (.dat (.int i)) g) (hb : b e g = .ok (.dat (.int j)) g) (hc : c e g = .ok (.dat (.int k)) g) (h1 : f (.dat (.int i)) (.dat (.int j)) = some (.dat (.bl u))) (h2 : f' (.dat (.int j)) (.dat (.int k)) = some (.dat (.bl v))) :
    mChain f f' a b c e g = .ok (.dat (.bl (u && v))) g := by
  unfold mChain
  rw [ha, Rs.bind_ok]
  try dsimp only
  rw [hb, Rs.bind_ok]
  try dsimp only
  rw [h1]
  cases u with
  | true =>
    try dsimp only
    rw [hc, Rs.bind_ok]
    try dsimp only
    rw [h2]
    rfl
  | false => rfl
end
theorem S_lcut {n m k : Nat} {w : V3} {vs : List V3} {s : LS} {Q : Rv → LS → Prop} (h : Shp n k vs) (hw : Lt3 m w) (hn : m + n + n + 3 ≤ 6000) (hk : k ≤ 400)
    (q0 : (∀ v ∈ vs, dot w v ≤ 0) → Q (.dat (.tup [])) s) (q : ∀ v ∈ vs, 0 < dot w v → Q (.dat (shp (rotV (keptN w vs)))) s) : Sat (l_cutF [shp vs, vd w] s) Q := by
  have hvl := h.le
  unfold l_cutF
  rw [S_def (k := 2) (ds := [shp vs, vd w]) rfl]
  show Sat (l_cutM [.dat (shp vs), .dat (vd w), .un, .un, .un, .un, .un, .un, .un, .un, .un, .un] s) _
  unfold l_cutM
  simp only [S_var, S_C, S_op1, k1_, S_op2, k2_, k2b_, S_nil, S_cons, kc_, kcb_, S_opN, kN_, S_tup, S_lst, kT_u, kL_u, stoL_nil, stoL_dat, stoL_own, consO_some, SatO_some, S_call, kCall_u, S_if, S_ifS, kI_true, kI_false, S_andV, S_orV, kAndV_true, kAndV_false, kOrV_true, kOrV_false, S_test, kTest_, S_tru, kTru_, S_and, S_or, S_not, kAnd_true, kAnd_false, kOr_true, kOr_false, kNot_, S_seq, kS_nx, kS_rt, kS_bk, kS_ct, S_pass, S_set, kSet_dat, kSet_own, S_par, kP_, kPb_, S_ret', kR_, S_retN, S_break, S_cont, S_for, kF_, S_forNil, kFb_nx, kFb_ct, kFb_bk, kFb_rt, S_items, kItems_tup, kItems_lst, kItems_own, S_lc, kLc_, S_lcNil, S_yes, kD_rt, kD_nx, Rv.ret, gt, st, kVar_dat, kVar_own, o_add, o_sub, o_eq, o_ne, o_lt, o_le, o_gt, o_ge, o_eqB, o_neB, o_is2, o_isnot2, o_abs, o_ix, o_ixO, o_ixB, o_ixL, o_tupO, o_isBool, map_some', wp, tgN_, List.length_cons, List.length_nil, Nat.reduceAdd, Nat.reduceLeDiff, true_and, decide_true, decide_false, Bool.not_true, Bool.not_false, o_mul_u, o_div_u, o_mod_u, o_pow_u, o_eqS, o_neS, o_intB, o_lenS, o_lenO, o_lenB, o_iaddI, S_s1, kS1_, kS1b_, S_lm, kLm_bor, kLm_own, kLmb_, S_tab, o_ixT, o_ixS, S_put, kPut_, kPutK_, S_zip2, kZip_, kZipb_tup, o_sum, o_sumB, o_tupB, o_tupL, o_lenT, S_range1, kRng_3, S_tgtL, kTgtL_, List.nil_append, List.cons_append, Nat.reduceLT, SZ, forall_const, true_implies, shp]
  refine S_lcA vs vd (fun v => .bl (decide (0 < dot w v))) (by show _ ≤ 16777216; omega) (fun v hv => ⟨_, rfl, ?_⟩) ?_
  · simp only [S_var, S_C, S_op1, k1_, S_op2, k2_, k2b_, S_nil, S_cons, kc_, kcb_, S_opN, kN_, S_tup, S_lst, kT_u, kL_u, stoL_nil, stoL_dat, stoL_own, consO_some, SatO_some, S_call, kCall_u, S_if, S_ifS, kI_true, kI_false, S_andV, S_orV, kAndV_true, kAndV_false, kOrV_true, kOrV_false, S_test, kTest_, S_tru, kTru_, S_and, S_or, S_not, kAnd_true, kAnd_false, kOr_true, kOr_false, kNot_, S_seq, kS_nx, kS_rt, kS_bk, kS_ct, S_pass, S_set, kSet_dat, kSet_own, S_par, kP_, kPb_, S_ret', kR_, S_retN, S_break, S_cont, S_for, kF_, S_forNil, kFb_nx, kFb_ct, kFb_bk, kFb_rt, S_items, kItems_tup, kItems_lst, kItems_own, S_lc, kLc_, S_lcNil, S_yes, kD_rt, kD_nx, Rv.ret, gt, st, kVar_dat, kVar_own, o_add, o_sub, o_eq, o_ne, o_lt, o_le, o_gt, o_ge, o_eqB, o_neB, o_is2, o_isnot2, o_abs, o_ix, o_ixO, o_ixB, o_ixL, o_tupO, o_isBool, map_some', wp, tgN_, List.length_cons, List.length_nil, Nat.reduceAdd, Nat.reduceLeDiff, true_and, decide_true, decide_false, Bool.not_true, Bool.not_false, o_mul_u, o_div_u, o_mod_u, o_pow_u, o_eqS, o_neS, o_intB, o_lenS, o_lenO, o_lenB, o_iaddI, S_s1, kS1_, kS1b_, S_lm, kLm_bor, kLm_own, kLmb_, S_tab, o_ixT, o_ixS, S_put, kPut_, kPutK_, S_zip2, kZip_, kZipb_tup, o_sum, o_sumB, o_tupB, o_tupL, o_lenT, S_range1, kRng_3, S_tgtL, kTgtL_, List.nil_append, List.cons_append, Nat.reduceLT, SZ, forall_const, true_implies]
    refine S_worthW hw (h.pr v hv).2 (by omega) ?_
    simp only [S_var, S_C, S_op1, k1_, S_op2, k2_, k2b_, S_nil, S_cons, kc_, kcb_, S_opN, kN_, S_tup, S_lst, kT_u, kL_u, stoL_nil, stoL_dat, stoL_own, consO_some, SatO_some, S_call, kCall_u, S_if, S_ifS, kI_true, kI_false, S_andV, S_orV, kAndV_true, kAndV_false, kOrV_true, kOrV_false, S_test, kTest_, S_tru, kTru_, S_and, S_or, S_not, kAnd_true, kAnd_false, kOr_true, kOr_false, kNot_, S_seq, kS_nx, kS_rt, kS_bk, kS_ct, S_pass, S_set, kSet_dat, kSet_own, S_par, kP_, kPb_, S_ret', kR_, S_retN, S_break, S_cont, S_for, kF_, S_forNil, kFb_nx, kFb_ct, kFb_bk, kFb_rt, S_items, kItems_tup, kItems_lst, kItems_own, S_lc, kLc_, S_lcNil, S_yes, kD_rt, kD_nx, Rv.ret, gt, st, kVar_dat, kVar_own, o_add, o_sub, o_eq, o_ne, o_lt, o_le, o_gt, o_ge, o_eqB, o_neB, o_is2, o_isnot2, o_abs, o_ix, o_ixO, o_ixB, o_ixL, o_tupO, o_isBool, map_some', wp, tgN_, List.length_cons, List.length_nil, Nat.reduceAdd, Nat.reduceLeDiff, true_and, decide_true, decide_false, Bool.not_true, Bool.not_false, o_mul_u, o_div_u, o_mod_u, o_pow_u, o_eqS, o_neS, o_intB, o_lenS, o_lenO, o_lenB, o_iaddI, S_s1, kS1_, kS1b_, S_lm, kLm_bor, kLm_own, kLmb_, S_tab, o_ixT, o_ixS, S_put, kPut_, kPutK_, S_zip2, kZip_, kZipb_tup, o_sum, o_sumB, o_tupB, o_tupL, o_lenT, S_range1, kRng_3, S_tgtL, kTgtL_, List.nil_append, List.cons_append, Nat.reduceLT, SZ, forall_const, true_implies]
    exact ⟨rfl, trivial⟩
  · simp only [S_var, S_C, S_op1, k1_, S_op2, k2_, k2b_, S_nil, S_cons, kc_, kcb_, S_opN, kN_, S_tup, S_lst, kT_u, kL_u, stoL_nil, stoL_dat, stoL_own, consO_some, SatO_some, S_call, kCall_u, S_if, S_ifS, kI_true, kI_false, S_andV, S_orV, kAndV_true, kAndV_false, kOrV_true, kOrV_false, S_test, kTest_, S_tru, kTru_, S_and, S_or, S_not, kAnd_true, kAnd_false, kOr_true, kOr_false, kNot_, S_seq, kS_nx, kS_rt, kS_bk, kS_ct, S_pass, S_set, kSet_dat, kSet_own, S_par, kP_, kPb_, S_ret', kR_, S_retN, S_break, S_cont, S_for, kF_, S_forNil, kFb_nx, kFb_ct, kFb_bk, kFb_rt, S_items, kItems_tup, kItems_lst, kItems_own, S_lc, kLc_, S_lcNil, S_yes, kD_rt, kD_nx, Rv.ret, gt, st, kVar_dat, kVar_own, o_add, o_sub, o_eq, o_ne, o_lt, o_le, o_gt, o_ge, o_eqB, o_neB, o_is2, o_isnot2, o_abs, o_ix, o_ixO, o_ixB, o_ixL, o_tupO, o_isBool, map_some', wp, tgN_, List.length_cons, List.length_nil, Nat.reduceAdd, Nat.reduceLeDiff, true_and, decide_true, decide_false, Bool.not_true, Bool.not_false, o_mul_u, o_div_u, o_mod_u, o_pow_u, o_eqS, o_neS, o_intB, o_lenS, o_lenO, o_lenB, o_iaddI, S_s1, kS1_, kS1b_, S_lm, kLm_bor, kLm_own, kLmb_, S_tab, o_ixT, o_ixS, S_put, kPut_, kPutK_, S_zip2, kZip_, kZipb_tup, o_sum, o_sumB, o_tupB, o_tupL, o_lenT, S_range1, kRng_3, S_tgtL, kTgtL_, List.nil_append, List.cons_append, Nat.reduceLT, SZ, forall_const, true_implies, oAny_map]
    cases hc : vs.any fun v => decide (0 < dot w v) with
    | false =>
      simp only [S_var, S_C, S_op1, k1_, S_op2, k2_, k2b_, S_nil, S_cons, kc_, kcb_, S_opN, kN_, S_tup, S_lst, kT_u, kL_u, stoL_nil, stoL_dat, stoL_own, consO_some, SatO_some, S_call, kCall_u, S_if, S_ifS, kI_true, kI_false, S_andV, S_orV, kAndV_true, kAndV_false, kOrV_true, kOrV_false, S_test, kTest_, S_tru, kTru_, S_and, S_or, S_not, kAnd_true, kAnd_false, kOr_true, kOr_false, kNot_, S_seq, kS_nx, kS_rt, kS_bk, kS_ct, S_pass, S_set, kSet_dat, kSet_own, S_par, kP_, kPb_, S_ret', kR_, S_retN, S_break, S_cont, S_for, kF_, S_forNil, kFb_nx, kFb_ct, kFb_bk, kFb_rt, S_items, kItems_tup, kItems_lst, kItems_own, S_lc, kLc_, S_lcNil, S_yes, kD_rt, kD_nx, Rv.ret, gt, st, kVar_dat, kVar_own, o_add, o_sub, o_eq, o_ne, o_lt, o_le, o_gt, o_ge, o_eqB, o_neB, o_is2, o_isnot2, o_abs, o_ix, o_ixO, o_ixB, o_ixL, o_tupO, o_isBool, map_some', wp, tgN_, List.length_cons, List.length_nil, Nat.reduceAdd, Nat.reduceLeDiff, true_and, decide_true, decide_false, Bool.not_true, Bool.not_false, o_mul_u, o_div_u, o_mod_u, o_pow_u, o_eqS, o_neS, o_intB, o_lenS, o_lenO, o_lenB, o_iaddI, S_s1, kS1_, kS1b_, S_lm, kLm_bor, kLm_own, kLmb_, S_tab, o_ixT, o_ixS, S_put, kPut_, kPutK_, S_zip2, kZip_, kZipb_tup, o_sum, o_sumB, o_tupB, o_tupL, o_lenT, S_range1, kRng_3, S_tgtL, kTgtL_, List.nil_append, List.cons_append, Nat.reduceLT, SZ, forall_const, true_implies]
      refine q0 fun v hv => ?_
      rw [List.any_eq_false] at hc
      have := hc v hv
      simp only [decide_eq_true_eq] at this
      omega
    | true =>
      rw [List.any_eq_true] at hc
      obtain ⟨v0, hv0, hp0⟩ := hc
      have hp0 := of_decide_eq_true hp0
      have q := q v0 hv0 hp0
      simp only [S_var, S_C, S_op1, k1_, S_op2, k2_, k2b_, S_nil, S_cons, kc_, kcb_, S_opN, kN_, S_tup, S_lst, kT_u, kL_u, stoL_nil, stoL_dat, stoL_own, consO_some, SatO_some, S_call, kCall_u, S_if, S_ifS, kI_true, kI_false, S_andV, S_orV, kAndV_true, kAndV_false, kOrV_true, kOrV_false, S_test, kTest_, S_tru, kTru_, S_and, S_or, S_not, kAnd_true, kAnd_false, kOr_true, kOr_false, kNot_, S_seq, kS_nx, kS_rt, kS_bk, kS_ct, S_pass, S_set, kSet_dat, kSet_own, S_par, kP_, kPb_, S_ret', kR_, S_retN, S_break, S_cont, S_for, kF_, S_forNil, kFb_nx, kFb_ct, kFb_bk, kFb_rt, S_items, kItems_tup, kItems_lst, kItems_own, S_lc, kLc_, S_lcNil, S_yes, kD_rt, kD_nx, Rv.ret, gt, st, kVar_dat, kVar_own, o_add, o_sub, o_eq, o_ne, o_lt, o_le, o_gt, o_ge, o_eqB, o_neB, o_is2, o_isnot2, o_abs, o_ix, o_ixO, o_ixB, o_ixL, o_tupO, o_isBool, map_some', wp, tgN_, List.length_cons, List.length_nil, Nat.reduceAdd, Nat.reduceLeDiff, true_and, decide_true, decide_false, Bool.not_true, Bool.not_false, o_mul_u, o_div_u, o_mod_u, o_pow_u, o_eqS, o_neS, o_intB, o_lenS, o_lenO, o_lenB, o_iaddI, S_s1, kS1_, kS1b_, S_lm, kLm_bor, kLm_own, kLmb_, S_tab, o_ixT, o_ixS, S_put, kPut_, kPutK_, S_zip2, kZip_, kZipb_tup, o_sum, o_sumB, o_tupB, o_tupL, o_lenT, S_range1, kRng_3, S_tgtL, kTgtL_, List.nil_append, List.cons_append, Nat.reduceLT, SZ, forall_const, true_implies, List.length_map]
      have kr : ∀ {QI : List D → LS → Prop} {g : LS}, QI ((List.range vs.length).map fun k => D.int (k : Nat)) g → kRng QI (.dat (.int (vs.length : Nat))) g := fun {QI g} q => by
        rw [kRng_]
        refine ⟨rng_ok (by omega), ?_⟩
        rw [Int.toNat_natCast, rng_map]
        simp only [Int.zero_add]
        exact q
      refine kr ?_
      rw [kF_]
      refine S_forA (List.range vs.length) (fun k => D.int (k : Nat)) (fun pre post e g => ∃ x3 x4 x5 x6 x7 : Sl, e = [.dat (.tup (vs.map vd)), .dat (vd w), .own ((pre.flatMap fun k => pieceN w (vs.getD k (0, 0, 0)) (nextV vs k)).map vd), x3, x4, x5, x6, x7, .un, .un, .un, .un] ∧ g = s) ⟨_, _, _, _, _, rfl, rfl⟩ ?_ ?_
      · rintro pre j post e g hr ⟨x3, x4, x5, x6, x7, rfl, rfl⟩
        refine ⟨_, rfl, ?_⟩
        have hj : j < vs.length := List.mem_range.mp (by rw [hr]; simp)
        have hj2 : (j + 1) % vs.length < vs.length := Nat.mod_lt _ (by omega)
        have hpl : (pre.flatMap fun k => pieceN w (vs.getD k (0, 0, 0)) (nextV vs k)).length ≤ 2 * vs.length := by
          have e1 : (pre.flatMap fun k => pieceN w (vs.getD k (0, 0, 0)) (nextV vs k)).length ≤ (keptN w vs).length := by
            unfold keptN
            rw [hr, List.flatMap_append, List.length_append]
            omega
          exact Nat.le_trans e1 (keptN_len w vs)
        have ep : (pre ++ [j]).flatMap (fun k => pieceN w (vs.getD k (0, 0, 0)) (nextV vs k)) = (pre.flatMap fun k => pieceN w (vs.getD k (0, 0, 0)) (nextV vs k)) ++ pieceN w (vs.getD j (0, 0, 0)) (nextV vs j) := by
          rw [List.flatMap_append, List.flatMap_cons, List.flatMap_nil, List.append_nil]
        have hA := h.pr _ (getD_memV hj)
        have hB : Prc (nextV vs j) ∧ Lt3 n (nextV vs j) := h.pr _ (getD_memV hj2)
        have atA := at_vd hj
        have atB : atI (vs.map vd) ((((j : Nat) : Int) + 1) % ((vs.length : Nat) : Int)) = some (vd (nextV vs j)) := at_vd hj2
        have dA := dot_lt hw hA.2
        have dB := dot_lt hw hB.2
        rw [ep]
        generalize (pre.flatMap fun k => pieceN w (vs.getD k (0, 0, 0)) (nextV vs k)) = P at *
        generalize vs.getD j (0, 0, 0) = A at *
        generalize nextV vs j = B at *
        simp only [S_var, S_C, S_op1, k1_, S_op2, k2_, k2b_, S_nil, S_cons, kc_, kcb_, S_opN, kN_, S_tup, S_lst, kT_u, kL_u, stoL_nil, stoL_dat, stoL_own, consO_some, SatO_some, S_call, kCall_u, S_if, S_ifS, kI_true, kI_false, S_andV, S_orV, kAndV_true, kAndV_false, kOrV_true, kOrV_false, S_test, kTest_, S_tru, kTru_, S_and, S_or, S_not, kAnd_true, kAnd_false, kOr_true, kOr_false, kNot_, S_seq, kS_nx, kS_rt, kS_bk, kS_ct, S_pass, S_set, kSet_dat, kSet_own, S_par, kP_, kPb_, S_ret', kR_, S_retN, S_break, S_cont, S_for, kF_, S_forNil, kFb_nx, kFb_ct, kFb_bk, kFb_rt, S_items, kItems_tup, kItems_lst, kItems_own, S_lc, kLc_, S_lcNil, S_yes, kD_rt, kD_nx, Rv.ret, gt, st, kVar_dat, kVar_own, o_add, o_sub, o_eq, o_ne, o_lt, o_le, o_gt, o_ge, o_eqB, o_neB, o_is2, o_isnot2, o_abs, o_ix, o_ixO, o_ixB, o_ixL, o_tupO, o_isBool, map_some', wp, tgN_, List.length_cons, List.length_nil, Nat.reduceAdd, Nat.reduceLeDiff, true_and, decide_true, decide_false, Bool.not_true, Bool.not_false, o_mul_u, o_div_u, o_mod_u, o_pow_u, o_eqS, o_neS, o_intB, o_lenS, o_lenO, o_lenB, o_iaddI, S_s1, kS1_, kS1b_, S_lm, kLm_bor, kLm_own, kLmb_, S_tab, o_ixT, o_ixS, S_put, kPut_, kPutK_, S_zip2, kZip_, kZipb_tup, o_sum, o_sumB, o_tupB, o_tupL, o_lenT, S_range1, kRng_3, S_tgtL, kTgtL_, List.nil_append, List.cons_append, Nat.reduceLT, SZ, forall_const, true_implies, List.length_map, atA, atB, S_tgt]
        refine ⟨by omega, ?_⟩
        refine S_worthW hw hA.2 (by omega) ?_
        try simp only [kc_, S_cons, S_call, S_var, gt, st, kVar_dat, kcb_, kCall_u, stoL_dat, stoL_nil, consO_some, SatO_some, S_nil]
        refine S_worthW hw hB.2 (by omega) ?_
        simp only [kc_, S_nil, kcb_, kT_u, stoL_dat, stoL_nil, consO_some, SatO_some, List.length_cons, List.length_nil, Nat.reduceAdd, SZ, Nat.reduceLeDiff, true_and]
        rw [kTgt_ (e1 := _) rfl, kS_nx]
        simp only [st]
        have hal : ∀ M : List V3, M.length ≤ 2 * vs.length + 1 → (M.map vd).length < 16777216 := fun M hM => by rw [List.length_map]; omega
        -- the second half
        have half : ∀ M : List V3, M.length ≤ 2 * vs.length + 1 → M ++ crossN w A B = P ++ pieceN w A B →
            Sat (mIfS (mOr (mTest (mChain oGt oGt (mVar 6) (mC (.int 0)) (mVar 7))) (mTest (mChain oLt oLt (mVar 6) (mC (.int 0)) (mVar 7)))) (mApp 2 (mCall l_lowestF (mCons (mLc (mZip2 (mVar 4) (mVar 5)) (tgT [10, 11]) mYes (mOp2 oAdd (mOp2 oMul (mOpN oAbs (mCons (mVar 7) mNil)) (mVar 10)) (mOp2 oMul (mOpN oAbs (mCons (mVar 6) mNil)) (mVar 11))) [10, 11]) mNil))) mPass
              [.dat (.tup (vs.map vd)), .dat (vd w), .own (M.map vd), .dat (.int (j : Nat)), .dat (vd A), .dat (vd B), .dat (.int (dot w A)), .dat (.int (dot w B)), .un, .un, .un, .un] g)
              (fun f g' => match f with
                | .nx e => ∃ x3 x4 x5 x6 x7 : Sl, e = [.dat (.tup (vs.map vd)), .dat (vd w), .own ((P ++ pieceN w A B).map vd), x3, x4, x5, x6, x7, .un, .un, .un, .un] ∧ g' = g
                | _ => False) := by
          intro M hM eM
          have ch1 := chain_ii (γ := LS) (e := [.dat (.tup (vs.map vd)), .dat (vd w), .own (M.map vd), .dat (.int (j : Nat)), .dat (vd A), .dat (vd B), .dat (.int (dot w A)), .dat (.int (dot w B)), .un, .un, .un, .un]) (g := g) (a := mVar 6) (b := mC (.int 0)) (c := mVar 7) (f := oGt) (f' := oGt) (i := dot w A) (j := 0) (k := dot w B) rfl rfl rfl o_gt o_gt
          have ch2 := chain_ii (γ := LS) (e := [.dat (.tup (vs.map vd)), .dat (vd w), .own (M.map vd), .dat (.int (j : Nat)), .dat (vd A), .dat (vd B), .dat (.int (dot w A)), .dat (.int (dot w B)), .un, .un, .un, .un]) (g := g) (a := mVar 6) (b := mC (.int 0)) (c := mVar 7) (f := oLt) (f' := oLt) (i := dot w A) (j := 0) (k := dot w B) rfl rfl rfl o_lt o_lt
          have app : dot w A * dot w B < 0 → Sat (mApp 2 (mCall l_lowestF (mCons (mLc (mZip2 (mVar 4) (mVar 5)) (tgT [10, 11]) mYes (mOp2 oAdd (mOp2 oMul (mOpN oAbs (mCons (mVar 7) mNil)) (mVar 10)) (mOp2 oMul (mOpN oAbs (mCons (mVar 6) mNil)) (mVar 11))) [10, 11]) mNil))
              [.dat (.tup (vs.map vd)), .dat (vd w), .own (M.map vd), .dat (.int (j : Nat)), .dat (vd A), .dat (vd B), .dat (.int (dot w A)), .dat (.int (dot w B)), .un, .un, .un, .un] g)
              (fun f g' => match f with
                | .nx e => ∃ x3 x4 x5 x6 x7 : Sl, e = [.dat (.tup (vs.map vd)), .dat (vd w), .own ((P ++ pieceN w A B).map vd), x3, x4, x5, x6, x7, .un, .un, .un, .un] ∧ g' = g
                | _ => False) := by
            intro c1
            rw [S_app rfl]
            simp only [S_call, S_cons, S_nil]
            refine S_zipV (u := A) (v := B) (fun x y => iabs (dot w B) * x + iabs (dot w A) * y) rfl rfl (fun x y h3 => ?_) ?_
            · have hx : x.natAbs < 2 ^ n ∧ y.natAbs < 2 ^ n := by
                rcases h3 with ⟨rfl, rfl⟩ | ⟨rfl, rfl⟩ | ⟨rfl, rfl⟩
                · exact ⟨hA.2.x, hB.2.x⟩
                · exact ⟨hA.2.y, hB.2.y⟩
                · exact ⟨hA.2.z, hB.2.z⟩
              have ab : ∀ z : Int, (if z < 0 then -z else z) = iabs z := fun z => rfl
              have ia : ∀ z : Int, (iabs z).natAbs = z.natAbs := fun z => by rw [iabs_nat]; omega
              exact Sat.eq fun Q q => by
                simp only [S_var, S_C, S_op1, k1_, S_op2, k2_, k2b_, S_nil, S_cons, kc_, kcb_, S_opN, kN_, S_tup, S_lst, kT_u, kL_u, stoL_nil, stoL_dat, stoL_own, consO_some, SatO_some, S_call, kCall_u, S_if, S_ifS, kI_true, kI_false, S_andV, S_orV, kAndV_true, kAndV_false, kOrV_true, kOrV_false, S_test, kTest_, S_tru, kTru_, S_and, S_or, S_not, kAnd_true, kAnd_false, kOr_true, kOr_false, kNot_, S_seq, kS_nx, kS_rt, kS_bk, kS_ct, S_pass, S_set, kSet_dat, kSet_own, S_par, kP_, kPb_, S_ret', kR_, S_retN, S_break, S_cont, S_for, kF_, S_forNil, kFb_nx, kFb_ct, kFb_bk, kFb_rt, S_items, kItems_tup, kItems_lst, kItems_own, S_lc, kLc_, S_lcNil, S_yes, kD_rt, kD_nx, Rv.ret, gt, st, kVar_dat, kVar_own, o_add, o_sub, o_eq, o_ne, o_lt, o_le, o_gt, o_ge, o_eqB, o_neB, o_is2, o_isnot2, o_abs, o_ix, o_ixO, o_ixB, o_ixL, o_tupO, o_isBool, map_some', wp, tgN_, List.length_cons, List.length_nil, Nat.reduceAdd, Nat.reduceLeDiff, true_and, decide_true, decide_false, Bool.not_true, Bool.not_false, o_mul_u, o_div_u, o_mod_u, o_pow_u, o_eqS, o_neS, o_intB, o_lenS, o_lenO, o_lenB, o_iaddI, S_s1, kS1_, kS1b_, S_lm, kLm_bor, kLm_own, kLmb_, S_tab, o_ixT, o_ixS, S_put, kPut_, kPutK_, S_zip2, kZip_, kZipb_tup, o_sum, o_sumB, o_tupB, o_tupL, o_lenT, S_range1, kRng_3, S_tgtL, kTgtL_, List.nil_append, List.cons_append, Nat.reduceLT, SZ, forall_const, true_implies, ab]
                exact ⟨mulOkP (by rw [ia]; exact dB) hx.1 (by omega), mulOkP (by rw [ia]; exact dA) hx.2 (by omega), q⟩
            · simp only [S_var, S_C, S_op1, k1_, S_op2, k2_, k2b_, S_nil, S_cons, kc_, kcb_, S_opN, kN_, S_tup, S_lst, kT_u, kL_u, stoL_nil, stoL_dat, stoL_own, consO_some, SatO_some, S_call, kCall_u, S_if, S_ifS, kI_true, kI_false, S_andV, S_orV, kAndV_true, kAndV_false, kOrV_true, kOrV_false, S_test, kTest_, S_tru, kTru_, S_and, S_or, S_not, kAnd_true, kAnd_false, kOr_true, kOr_false, kNot_, S_seq, kS_nx, kS_rt, kS_bk, kS_ct, S_pass, S_set, kSet_dat, kSet_own, S_par, kP_, kPb_, S_ret', kR_, S_retN, S_break, S_cont, S_for, kF_, S_forNil, kFb_nx, kFb_ct, kFb_bk, kFb_rt, S_items, kItems_tup, kItems_lst, kItems_own, S_lc, kLc_, S_lcNil, S_yes, kD_rt, kD_nx, Rv.ret, gt, st, kVar_dat, kVar_own, o_add, o_sub, o_eq, o_ne, o_lt, o_le, o_gt, o_ge, o_eqB, o_neB, o_is2, o_isnot2, o_abs, o_ix, o_ixO, o_ixB, o_ixL, o_tupO, o_isBool, map_some', wp, tgN_, List.length_cons, List.length_nil, Nat.reduceAdd, Nat.reduceLeDiff, true_and, decide_true, decide_false, Bool.not_true, Bool.not_false, o_mul_u, o_div_u, o_mod_u, o_pow_u, o_eqS, o_neS, o_intB, o_lenS, o_lenO, o_lenB, o_iaddI, S_s1, kS1_, kS1b_, S_lm, kLm_bor, kLm_own, kLmb_, S_tab, o_ixT, o_ixS, S_put, kPut_, kPutK_, S_zip2, kZip_, kZipb_tup, o_sum, o_sumB, o_tupB, o_tupL, o_lenT, S_range1, kRng_3, S_tgtL, kTgtL_, List.nil_append, List.cons_append, Nat.reduceLT, SZ, forall_const, true_implies]
              have hm := mid_sum (w := w) hA.1 hB.1 c1
              refine S_llow (v := addV (mulV (iabs (dot w B)) A) (mulV (iabs (dot w A)) B)) hm (mid_ltS hw hA.2 hB.2) hn ?_
              simp only [kA_dat, st]
              refine ⟨hal M hM, .dat (.int (j : Nat)), .dat (vd A), .dat (vd B), .dat (.int (dot w A)), .dat (.int (dot w B)), ?_, trivial⟩
              rw [← eM]
              unfold crossN
              rw [if_pos c1, List.map_append]
              rfl
          rw [S_ifS, S_or, S_test]
          refine Sat_eqU ch1 ?_
          rw [kTest_]
          by_cases c1 : 0 < dot w A ∧ dot w B < 0
          · rw [decide_eq_true c1.1, decide_eq_true c1.2, Bool.and_self, kOr_true, kI_true]
            exact app (Int.mul_neg_of_pos_of_neg c1.1 c1.2)
          · have e1 : (decide (0 < dot w A) && decide (dot w B < 0)) = false := by
              rw [← Bool.decide_and]
              exact decide_eq_false c1
            rw [e1, kOr_false, S_test]
            refine Sat_eqU ch2 ?_
            rw [kTest_]
            by_cases c2 : dot w A < 0 ∧ 0 < dot w B
            · rw [decide_eq_true c2.1, decide_eq_true c2.2, Bool.and_self, kI_true]
              exact app (Int.mul_neg_of_neg_of_pos c2.1 c2.2)
            · have e2 : (decide (dot w A < 0) && decide (0 < dot w B)) = false := by
                rw [← Bool.decide_and]
                exact decide_eq_false c2
              rw [e2, kI_false, S_pass]
              refine ⟨.dat (.int (j : Nat)), .dat (vd A), .dat (vd B), .dat (.int (dot w A)), .dat (.int (dot w B)), ?_, rfl⟩
              have hc : crossN w A B = [] := by
                unfold crossN
                refine if_neg fun hlt => ?_
                rcases Int.lt_trichotomy (dot w A) 0 with ha | ha | ha
                · rcases Int.lt_or_le 0 (dot w B) with hb | hb
                  · exact c2 ⟨ha, hb⟩
                  · have := Int.mul_nonneg_of_nonpos_of_nonpos (Int.le_of_lt ha) hb
                    omega
                · rw [ha, Int.zero_mul] at hlt
                  exact absurd hlt (Int.lt_irrefl _)
                · rcases Int.lt_or_le (dot w B) 0 with hb | hb
                  · exact c1 ⟨ha, hb⟩
                  · have := Int.mul_nonneg (Int.le_of_lt ha) hb
                    omega
              rw [← eM, hc, List.append_nil]
        rw [S_seq, S_ifS]
        simp only [S_test, S_op2, S_var, gt, kVar_dat, k2_, S_C, k2b_, o_ge, SatO_some, kTest_]
        refine kI_d (fun c1 => ?_) (fun c1 => ?_)
        · rw [S_app rfl]
          simp only [S_var, gt, kVar_dat, kA_dat]
          refine ⟨hal P (by omega), ?_⟩
          rw [kS_nx]
          simp only [st]
          have h2 := half (P ++ [A]) (by rw [List.length_append, List.length_singleton]; omega) (by
            unfold pieceN
            rw [if_pos c1, List.append_assoc])
          rw [List.map_append] at h2
          refine h2.mono fun f g' hf => ?_
          cases f with
          | nx e => exact hf
          | rt r => exact hf.elim
          | bk e => exact hf.elim
          | ct e => exact hf.elim
        · rw [S_pass, kS_nx]
          refine (half P (by omega) (by
            unfold pieceN
            rw [if_neg c1, List.nil_append])).mono fun f g' hf => ?_
          cases f with
          | nx e => exact hf
          | rt r => exact hf.elim
          | bk e => exact hf.elim
          | ct e => exact hf.elim
      · rintro e g ⟨x3, x4, x5, x6, x7, rfl, rfl⟩
        rw [show (List.range vs.length).flatMap (fun k => pieceN w (vs.getD k (0, 0, 0)) (nextV vs k)) = keptN w vs from rfl]
        have hkl := keptN_len w vs
        have hne := keptN_ne hv0 hp0
        obtain ⟨a, b, hab⟩ : ∃ a b, keptN w vs = a :: b := by
          cases hq : keptN w vs with
          | nil => rw [hq] at hne; exact absurd hne (by simp)
          | cons a b => exact ⟨a, b, rfl⟩
        rw [hab] at q hkl ⊢
        rw [kS_nx, S_seq, S_set]
        refine Sat_is (idxMin_eq (v := a) (vs := b) rfl) ?_
        simp only [kSet_dat, kS_nx, st, S_ret']
        refine Sat_is (rot_eq (L := (a :: b).map vd) rfl rfl (by rw [List.length_map]; omega)) ?_
        rw [kR_, kD_rt]
        unfold rotV shp at q
        rw [List.map_append, List.map_drop, List.map_take] at q
        exact q
end PB
set_option Elab.async false
set_option linter.all false
set_option maxRecDepth 10000
set_option maxHeartbeats 4000000
set_option exponentiation.threshold 2000
namespace PB
theorem S_lside {a b m : Nat} {sz : Int} {s : LS} {Q : Rv → LS → Prop} (h : Bud a (b + 5) s) (s0 : 0 ≤ sz) (s1 : sz < 2 ^ m) (hm : m ≤ 200)
    (q : ∀ (w : V3) (s' : LS), Lt3 (m + 1) w → Bud a b s' → Q (.dat (vd w)) s') : Sat (l_sideF [.ref a, .int sz] s) Q := by
  unfold l_sideF
  rw [S_def (k := 2) (ds := [.ref a, .int sz]) rfl]
  show Sat (l_sideM [.dat (.ref a), .dat (.int sz), .un, .un] s) _
  unfold l_sideM
  have p90 : (2 : Int) ^ 200 < 10 ^ 80 := by decide
  have pm : (2 : Int) ^ m ≤ 2 ^ 200 := by
    have hN := Nat.pow_le_pow_right (n := 2) (by decide) hm
    exact_mod_cast hN
  have szn : sz.natAbs < 2 ^ m := by
    have e : ((2 ^ m : Nat) : Int) = 2 ^ m := by simp
    omega
  have n2 : 2 * sz + 1 ≤ 10 ^ 90 := by
    have : (10 : Int) ^ 80 * 2 ≤ 10 ^ 90 := by decide
    omega
  have mok : MulOk 2 sz := mulOkP (a := 2) (b := m) (by decide) szn (by omega)
  have bd : ∀ d : Int, 0 ≤ d → d < 2 * sz + 1 → (d - sz).natAbs < 2 ^ (m + 1) := fun d d0 d1 => by
    rw [Nat.pow_succ]
    omega
  simp only [S_var, S_C, S_op1, k1_, S_op2, k2_, k2b_, S_nil, S_cons, kc_, kcb_, S_opN, kN_, S_tup, S_lst, kT_u, kL_u, stoL_nil, stoL_dat, stoL_own, consO_some, SatO_some, S_call, kCall_u, S_if, S_ifS, kI_true, kI_false, S_andV, S_orV, kAndV_true, kAndV_false, kOrV_true, kOrV_false, S_test, kTest_, S_tru, kTru_, S_and, S_or, S_not, kAnd_true, kAnd_false, kOr_true, kOr_false, kNot_, S_seq, kS_nx, kS_rt, kS_bk, kS_ct, S_pass, S_set, kSet_dat, kSet_own, S_par, kP_, kPb_, S_ret', kR_, S_retN, S_break, S_cont, S_for, kF_, S_forNil, kFb_nx, kFb_ct, kFb_bk, kFb_rt, S_items, kItems_tup, kItems_lst, kItems_own, S_lc, kLc_, S_lcNil, S_yes, kD_rt, kD_nx, Rv.ret, gt, st, kVar_dat, kVar_own, o_add, o_sub, o_eq, o_ne, o_lt, o_le, o_gt, o_ge, o_eqB, o_neB, o_is2, o_isnot2, o_abs, o_ix, o_ixO, o_ixB, o_ixL, o_tupO, o_isBool, map_some', wp, tgN_, List.length_cons, List.length_nil, Nat.reduceAdd, Nat.reduceLeDiff, true_and, decide_true, decide_false, Bool.not_true, Bool.not_false, o_mul_u, o_div_u, o_mod_u, o_pow_u, o_eqS, o_neS, o_intB, o_lenS, o_lenO, o_lenB, o_iaddI, S_s1, kS1_, kS1b_, S_lm, kLm_bor, kLm_own, kLmb_, S_tab, o_ixT, o_ixS, S_put, kPut_, kPutK_, S_zip2, kZip_, kZipb_tup, o_sum, o_sumB, o_tupB, o_tupL, o_lenT, S_range1, kRng_3, S_tgtL, kTgtL_, List.nil_append, List.cons_append, Nat.reduceLT, SZ, forall_const, true_implies]
  rw [S_lcCons tgN_]
  simp only [S_var, S_C, S_op1, k1_, S_op2, k2_, k2b_, S_nil, S_cons, kc_, kcb_, S_opN, kN_, S_tup, S_lst, kT_u, kL_u, stoL_nil, stoL_dat, stoL_own, consO_some, SatO_some, S_call, kCall_u, S_if, S_ifS, kI_true, kI_false, S_andV, S_orV, kAndV_true, kAndV_false, kOrV_true, kOrV_false, S_test, kTest_, S_tru, kTru_, S_and, S_or, S_not, kAnd_true, kAnd_false, kOr_true, kOr_false, kNot_, S_seq, kS_nx, kS_rt, kS_bk, kS_ct, S_pass, S_set, kSet_dat, kSet_own, S_par, kP_, kPb_, S_ret', kR_, S_retN, S_break, S_cont, S_for, kF_, S_forNil, kFb_nx, kFb_ct, kFb_bk, kFb_rt, S_items, kItems_tup, kItems_lst, kItems_own, S_lc, kLc_, S_lcNil, S_yes, kD_rt, kD_nx, Rv.ret, gt, st, kVar_dat, kVar_own, o_add, o_sub, o_eq, o_ne, o_lt, o_le, o_gt, o_ge, o_eqB, o_neB, o_is2, o_isnot2, o_abs, o_ix, o_ixO, o_ixB, o_ixL, o_tupO, o_isBool, map_some', wp, tgN_, List.length_cons, List.length_nil, Nat.reduceAdd, Nat.reduceLeDiff, true_and, decide_true, decide_false, Bool.not_true, Bool.not_false, o_mul_u, o_div_u, o_mod_u, o_pow_u, o_eqS, o_neS, o_intB, o_lenS, o_lenO, o_lenB, o_iaddI, S_s1, kS1_, kS1b_, S_lm, kLm_bor, kLm_own, kLmb_, S_tab, o_ixT, o_ixS, S_put, kPut_, kPutK_, S_zip2, kZip_, kZipb_tup, o_sum, o_sumB, o_tupB, o_tupL, o_lenT, S_range1, kRng_3, S_tgtL, kTgtL_, List.nil_append, List.cons_append, Nat.reduceLT, SZ, forall_const, true_implies, kLcT_true]
  refine ⟨mok, ?_⟩
  try simp only [S_var, S_C, S_op1, k1_, S_op2, k2_, k2b_, S_nil, S_cons, kc_, kcb_, S_opN, kN_, S_tup, S_lst, kT_u, kL_u, stoL_nil, stoL_dat, stoL_own, consO_some, SatO_some, S_call, kCall_u, S_if, S_ifS, kI_true, kI_false, S_andV, S_orV, kAndV_true, kAndV_false, kOrV_true, kOrV_false, S_test, kTest_, S_tru, kTru_, S_and, S_or, S_not, kAnd_true, kAnd_false, kOr_true, kOr_false, kNot_, S_seq, kS_nx, kS_rt, kS_bk, kS_ct, S_pass, S_set, kSet_dat, kSet_own, S_par, kP_, kPb_, S_ret', kR_, S_retN, S_break, S_cont, S_for, kF_, S_forNil, kFb_nx, kFb_ct, kFb_bk, kFb_rt, S_items, kItems_tup, kItems_lst, kItems_own, S_lc, kLc_, S_lcNil, S_yes, kD_rt, kD_nx, Rv.ret, gt, st, kVar_dat, kVar_own, o_add, o_sub, o_eq, o_ne, o_lt, o_le, o_gt, o_ge, o_eqB, o_neB, o_is2, o_isnot2, o_abs, o_ix, o_ixO, o_ixB, o_ixL, o_tupO, o_isBool, map_some', wp, tgN_, List.length_cons, List.length_nil, Nat.reduceAdd, Nat.reduceLeDiff, true_and, decide_true, decide_false, Bool.not_true, Bool.not_false, o_mul_u, o_div_u, o_mod_u, o_pow_u, o_eqS, o_neS, o_intB, o_lenS, o_lenO, o_lenB, o_iaddI, S_s1, kS1_, kS1b_, S_lm, kLm_bor, kLm_own, kLmb_, S_tab, o_ixT, o_ixS, S_put, kPut_, kPutK_, S_zip2, kZip_, kZipb_tup, o_sum, o_sumB, o_tupB, o_tupL, o_lenT, S_range1, kRng_3, S_tgtL, kTgtL_, List.nil_append, List.cons_append, Nat.reduceLT, SZ, forall_const, true_implies]
  refine S_draw (b := b + 4) h (by omega) n2 fun x s1 x0 x1 h1 => ?_
  simp only [S_var, S_C, S_op1, k1_, S_op2, k2_, k2b_, S_nil, S_cons, kc_, kcb_, S_opN, kN_, S_tup, S_lst, kT_u, kL_u, stoL_nil, stoL_dat, stoL_own, consO_some, SatO_some, S_call, kCall_u, S_if, S_ifS, kI_true, kI_false, S_andV, S_orV, kAndV_true, kAndV_false, kOrV_true, kOrV_false, S_test, kTest_, S_tru, kTru_, S_and, S_or, S_not, kAnd_true, kAnd_false, kOr_true, kOr_false, kNot_, S_seq, kS_nx, kS_rt, kS_bk, kS_ct, S_pass, S_set, kSet_dat, kSet_own, S_par, kP_, kPb_, S_ret', kR_, S_retN, S_break, S_cont, S_for, kF_, S_forNil, kFb_nx, kFb_ct, kFb_bk, kFb_rt, S_items, kItems_tup, kItems_lst, kItems_own, S_lc, kLc_, S_lcNil, S_yes, kD_rt, kD_nx, Rv.ret, gt, st, kVar_dat, kVar_own, o_add, o_sub, o_eq, o_ne, o_lt, o_le, o_gt, o_ge, o_eqB, o_neB, o_is2, o_isnot2, o_abs, o_ix, o_ixO, o_ixB, o_ixL, o_tupO, o_isBool, map_some', wp, tgN_, List.length_cons, List.length_nil, Nat.reduceAdd, Nat.reduceLeDiff, true_and, decide_true, decide_false, Bool.not_true, Bool.not_false, o_mul_u, o_div_u, o_mod_u, o_pow_u, o_eqS, o_neS, o_intB, o_lenS, o_lenO, o_lenB, o_iaddI, S_s1, kS1_, kS1b_, S_lm, kLm_bor, kLm_own, kLmb_, S_tab, o_ixT, o_ixS, S_put, kPut_, kPutK_, S_zip2, kZip_, kZipb_tup, o_sum, o_sumB, o_tupB, o_tupL, o_lenT, S_range1, kRng_3, S_tgtL, kTgtL_, List.nil_append, List.cons_append, Nat.reduceLT, SZ, forall_const, true_implies, kLcA_dat]
  rw [S_lcCons tgN_]
  simp only [S_var, S_C, S_op1, k1_, S_op2, k2_, k2b_, S_nil, S_cons, kc_, kcb_, S_opN, kN_, S_tup, S_lst, kT_u, kL_u, stoL_nil, stoL_dat, stoL_own, consO_some, SatO_some, S_call, kCall_u, S_if, S_ifS, kI_true, kI_false, S_andV, S_orV, kAndV_true, kAndV_false, kOrV_true, kOrV_false, S_test, kTest_, S_tru, kTru_, S_and, S_or, S_not, kAnd_true, kAnd_false, kOr_true, kOr_false, kNot_, S_seq, kS_nx, kS_rt, kS_bk, kS_ct, S_pass, S_set, kSet_dat, kSet_own, S_par, kP_, kPb_, S_ret', kR_, S_retN, S_break, S_cont, S_for, kF_, S_forNil, kFb_nx, kFb_ct, kFb_bk, kFb_rt, S_items, kItems_tup, kItems_lst, kItems_own, S_lc, kLc_, S_lcNil, S_yes, kD_rt, kD_nx, Rv.ret, gt, st, kVar_dat, kVar_own, o_add, o_sub, o_eq, o_ne, o_lt, o_le, o_gt, o_ge, o_eqB, o_neB, o_is2, o_isnot2, o_abs, o_ix, o_ixO, o_ixB, o_ixL, o_tupO, o_isBool, map_some', wp, tgN_, List.length_cons, List.length_nil, Nat.reduceAdd, Nat.reduceLeDiff, true_and, decide_true, decide_false, Bool.not_true, Bool.not_false, o_mul_u, o_div_u, o_mod_u, o_pow_u, o_eqS, o_neS, o_intB, o_lenS, o_lenO, o_lenB, o_iaddI, S_s1, kS1_, kS1b_, S_lm, kLm_bor, kLm_own, kLmb_, S_tab, o_ixT, o_ixS, S_put, kPut_, kPutK_, S_zip2, kZip_, kZipb_tup, o_sum, o_sumB, o_tupB, o_tupL, o_lenT, S_range1, kRng_3, S_tgtL, kTgtL_, List.nil_append, List.cons_append, Nat.reduceLT, SZ, forall_const, true_implies, kLcT_true]
  refine ⟨mok, ?_⟩
  try simp only [S_var, S_C, S_op1, k1_, S_op2, k2_, k2b_, S_nil, S_cons, kc_, kcb_, S_opN, kN_, S_tup, S_lst, kT_u, kL_u, stoL_nil, stoL_dat, stoL_own, consO_some, SatO_some, S_call, kCall_u, S_if, S_ifS, kI_true, kI_false, S_andV, S_orV, kAndV_true, kAndV_false, kOrV_true, kOrV_false, S_test, kTest_, S_tru, kTru_, S_and, S_or, S_not, kAnd_true, kAnd_false, kOr_true, kOr_false, kNot_, S_seq, kS_nx, kS_rt, kS_bk, kS_ct, S_pass, S_set, kSet_dat, kSet_own, S_par, kP_, kPb_, S_ret', kR_, S_retN, S_break, S_cont, S_for, kF_, S_forNil, kFb_nx, kFb_ct, kFb_bk, kFb_rt, S_items, kItems_tup, kItems_lst, kItems_own, S_lc, kLc_, S_lcNil, S_yes, kD_rt, kD_nx, Rv.ret, gt, st, kVar_dat, kVar_own, o_add, o_sub, o_eq, o_ne, o_lt, o_le, o_gt, o_ge, o_eqB, o_neB, o_is2, o_isnot2, o_abs, o_ix, o_ixO, o_ixB, o_ixL, o_tupO, o_isBool, map_some', wp, tgN_, List.length_cons, List.length_nil, Nat.reduceAdd, Nat.reduceLeDiff, true_and, decide_true, decide_false, Bool.not_true, Bool.not_false, o_mul_u, o_div_u, o_mod_u, o_pow_u, o_eqS, o_neS, o_intB, o_lenS, o_lenO, o_lenB, o_iaddI, S_s1, kS1_, kS1b_, S_lm, kLm_bor, kLm_own, kLmb_, S_tab, o_ixT, o_ixS, S_put, kPut_, kPutK_, S_zip2, kZip_, kZipb_tup, o_sum, o_sumB, o_tupB, o_tupL, o_lenT, S_range1, kRng_3, S_tgtL, kTgtL_, List.nil_append, List.cons_append, Nat.reduceLT, SZ, forall_const, true_implies]
  refine S_draw (b := b + 3) h1 (by omega) n2 fun y s2 y0 y1 h2 => ?_
  simp only [S_var, S_C, S_op1, k1_, S_op2, k2_, k2b_, S_nil, S_cons, kc_, kcb_, S_opN, kN_, S_tup, S_lst, kT_u, kL_u, stoL_nil, stoL_dat, stoL_own, consO_some, SatO_some, S_call, kCall_u, S_if, S_ifS, kI_true, kI_false, S_andV, S_orV, kAndV_true, kAndV_false, kOrV_true, kOrV_false, S_test, kTest_, S_tru, kTru_, S_and, S_or, S_not, kAnd_true, kAnd_false, kOr_true, kOr_false, kNot_, S_seq, kS_nx, kS_rt, kS_bk, kS_ct, S_pass, S_set, kSet_dat, kSet_own, S_par, kP_, kPb_, S_ret', kR_, S_retN, S_break, S_cont, S_for, kF_, S_forNil, kFb_nx, kFb_ct, kFb_bk, kFb_rt, S_items, kItems_tup, kItems_lst, kItems_own, S_lc, kLc_, S_lcNil, S_yes, kD_rt, kD_nx, Rv.ret, gt, st, kVar_dat, kVar_own, o_add, o_sub, o_eq, o_ne, o_lt, o_le, o_gt, o_ge, o_eqB, o_neB, o_is2, o_isnot2, o_abs, o_ix, o_ixO, o_ixB, o_ixL, o_tupO, o_isBool, map_some', wp, tgN_, List.length_cons, List.length_nil, Nat.reduceAdd, Nat.reduceLeDiff, true_and, decide_true, decide_false, Bool.not_true, Bool.not_false, o_mul_u, o_div_u, o_mod_u, o_pow_u, o_eqS, o_neS, o_intB, o_lenS, o_lenO, o_lenB, o_iaddI, S_s1, kS1_, kS1b_, S_lm, kLm_bor, kLm_own, kLmb_, S_tab, o_ixT, o_ixS, S_put, kPut_, kPutK_, S_zip2, kZip_, kZipb_tup, o_sum, o_sumB, o_tupB, o_tupL, o_lenT, S_range1, kRng_3, S_tgtL, kTgtL_, List.nil_append, List.cons_append, Nat.reduceLT, SZ, forall_const, true_implies, kLcA_dat]
  rw [S_lcCons tgN_]
  simp only [S_var, S_C, S_op1, k1_, S_op2, k2_, k2b_, S_nil, S_cons, kc_, kcb_, S_opN, kN_, S_tup, S_lst, kT_u, kL_u, stoL_nil, stoL_dat, stoL_own, consO_some, SatO_some, S_call, kCall_u, S_if, S_ifS, kI_true, kI_false, S_andV, S_orV, kAndV_true, kAndV_false, kOrV_true, kOrV_false, S_test, kTest_, S_tru, kTru_, S_and, S_or, S_not, kAnd_true, kAnd_false, kOr_true, kOr_false, kNot_, S_seq, kS_nx, kS_rt, kS_bk, kS_ct, S_pass, S_set, kSet_dat, kSet_own, S_par, kP_, kPb_, S_ret', kR_, S_retN, S_break, S_cont, S_for, kF_, S_forNil, kFb_nx, kFb_ct, kFb_bk, kFb_rt, S_items, kItems_tup, kItems_lst, kItems_own, S_lc, kLc_, S_lcNil, S_yes, kD_rt, kD_nx, Rv.ret, gt, st, kVar_dat, kVar_own, o_add, o_sub, o_eq, o_ne, o_lt, o_le, o_gt, o_ge, o_eqB, o_neB, o_is2, o_isnot2, o_abs, o_ix, o_ixO, o_ixB, o_ixL, o_tupO, o_isBool, map_some', wp, tgN_, List.length_cons, List.length_nil, Nat.reduceAdd, Nat.reduceLeDiff, true_and, decide_true, decide_false, Bool.not_true, Bool.not_false, o_mul_u, o_div_u, o_mod_u, o_pow_u, o_eqS, o_neS, o_intB, o_lenS, o_lenO, o_lenB, o_iaddI, S_s1, kS1_, kS1b_, S_lm, kLm_bor, kLm_own, kLmb_, S_tab, o_ixT, o_ixS, S_put, kPut_, kPutK_, S_zip2, kZip_, kZipb_tup, o_sum, o_sumB, o_tupB, o_tupL, o_lenT, S_range1, kRng_3, S_tgtL, kTgtL_, List.nil_append, List.cons_append, Nat.reduceLT, SZ, forall_const, true_implies, kLcT_true]
  refine ⟨mok, ?_⟩
  try simp only [S_var, S_C, S_op1, k1_, S_op2, k2_, k2b_, S_nil, S_cons, kc_, kcb_, S_opN, kN_, S_tup, S_lst, kT_u, kL_u, stoL_nil, stoL_dat, stoL_own, consO_some, SatO_some, S_call, kCall_u, S_if, S_ifS, kI_true, kI_false, S_andV, S_orV, kAndV_true, kAndV_false, kOrV_true, kOrV_false, S_test, kTest_, S_tru, kTru_, S_and, S_or, S_not, kAnd_true, kAnd_false, kOr_true, kOr_false, kNot_, S_seq, kS_nx, kS_rt, kS_bk, kS_ct, S_pass, S_set, kSet_dat, kSet_own, S_par, kP_, kPb_, S_ret', kR_, S_retN, S_break, S_cont, S_for, kF_, S_forNil, kFb_nx, kFb_ct, kFb_bk, kFb_rt, S_items, kItems_tup, kItems_lst, kItems_own, S_lc, kLc_, S_lcNil, S_yes, kD_rt, kD_nx, Rv.ret, gt, st, kVar_dat, kVar_own, o_add, o_sub, o_eq, o_ne, o_lt, o_le, o_gt, o_ge, o_eqB, o_neB, o_is2, o_isnot2, o_abs, o_ix, o_ixO, o_ixB, o_ixL, o_tupO, o_isBool, map_some', wp, tgN_, List.length_cons, List.length_nil, Nat.reduceAdd, Nat.reduceLeDiff, true_and, decide_true, decide_false, Bool.not_true, Bool.not_false, o_mul_u, o_div_u, o_mod_u, o_pow_u, o_eqS, o_neS, o_intB, o_lenS, o_lenO, o_lenB, o_iaddI, S_s1, kS1_, kS1b_, S_lm, kLm_bor, kLm_own, kLmb_, S_tab, o_ixT, o_ixS, S_put, kPut_, kPutK_, S_zip2, kZip_, kZipb_tup, o_sum, o_sumB, o_tupB, o_tupL, o_lenT, S_range1, kRng_3, S_tgtL, kTgtL_, List.nil_append, List.cons_append, Nat.reduceLT, SZ, forall_const, true_implies]
  refine S_draw (b := b + 2) h2 (by omega) n2 fun z s3 z0 z1 h3 => ?_
  simp only [S_var, S_C, S_op1, k1_, S_op2, k2_, k2b_, S_nil, S_cons, kc_, kcb_, S_opN, kN_, S_tup, S_lst, kT_u, kL_u, stoL_nil, stoL_dat, stoL_own, consO_some, SatO_some, S_call, kCall_u, S_if, S_ifS, kI_true, kI_false, S_andV, S_orV, kAndV_true, kAndV_false, kOrV_true, kOrV_false, S_test, kTest_, S_tru, kTru_, S_and, S_or, S_not, kAnd_true, kAnd_false, kOr_true, kOr_false, kNot_, S_seq, kS_nx, kS_rt, kS_bk, kS_ct, S_pass, S_set, kSet_dat, kSet_own, S_par, kP_, kPb_, S_ret', kR_, S_retN, S_break, S_cont, S_for, kF_, S_forNil, kFb_nx, kFb_ct, kFb_bk, kFb_rt, S_items, kItems_tup, kItems_lst, kItems_own, S_lc, kLc_, S_lcNil, S_yes, kD_rt, kD_nx, Rv.ret, gt, st, kVar_dat, kVar_own, o_add, o_sub, o_eq, o_ne, o_lt, o_le, o_gt, o_ge, o_eqB, o_neB, o_is2, o_isnot2, o_abs, o_ix, o_ixO, o_ixB, o_ixL, o_tupO, o_isBool, map_some', wp, tgN_, List.length_cons, List.length_nil, Nat.reduceAdd, Nat.reduceLeDiff, true_and, decide_true, decide_false, Bool.not_true, Bool.not_false, o_mul_u, o_div_u, o_mod_u, o_pow_u, o_eqS, o_neS, o_intB, o_lenS, o_lenO, o_lenB, o_iaddI, S_s1, kS1_, kS1b_, S_lm, kLm_bor, kLm_own, kLmb_, S_tab, o_ixT, o_ixS, S_put, kPut_, kPutK_, S_zip2, kZip_, kZipb_tup, o_sum, o_sumB, o_tupB, o_tupL, o_lenT, S_range1, kRng_3, S_tgtL, kTgtL_, List.nil_append, List.cons_append, Nat.reduceLT, SZ, forall_const, true_implies, kLcA_dat]
  refine S_draw (b := b + 1) h3 (by decide) (by decide) fun wy s4 wy0 wy1 h4 => ?_
  simp only [S_var, S_C, S_op1, k1_, S_op2, k2_, k2b_, S_nil, S_cons, kc_, kcb_, S_opN, kN_, S_tup, S_lst, kT_u, kL_u, stoL_nil, stoL_dat, stoL_own, consO_some, SatO_some, S_call, kCall_u, S_if, S_ifS, kI_true, kI_false, S_andV, S_orV, kAndV_true, kAndV_false, kOrV_true, kOrV_false, S_test, kTest_, S_tru, kTru_, S_and, S_or, S_not, kAnd_true, kAnd_false, kOr_true, kOr_false, kNot_, S_seq, kS_nx, kS_rt, kS_bk, kS_ct, S_pass, S_set, kSet_dat, kSet_own, S_par, kP_, kPb_, S_ret', kR_, S_retN, S_break, S_cont, S_for, kF_, S_forNil, kFb_nx, kFb_ct, kFb_bk, kFb_rt, S_items, kItems_tup, kItems_lst, kItems_own, S_lc, kLc_, S_lcNil, S_yes, kD_rt, kD_nx, Rv.ret, gt, st, kVar_dat, kVar_own, o_add, o_sub, o_eq, o_ne, o_lt, o_le, o_gt, o_ge, o_eqB, o_neB, o_is2, o_isnot2, o_abs, o_ix, o_ixO, o_ixB, o_ixL, o_tupO, o_isBool, map_some', wp, tgN_, List.length_cons, List.length_nil, Nat.reduceAdd, Nat.reduceLeDiff, true_and, decide_true, decide_false, Bool.not_true, Bool.not_false, o_mul_u, o_div_u, o_mod_u, o_pow_u, o_eqS, o_neS, o_intB, o_lenS, o_lenO, o_lenB, o_iaddI, S_s1, kS1_, kS1b_, S_lm, kLm_bor, kLm_own, kLmb_, S_tab, o_ixT, o_ixS, S_put, kPut_, kPutK_, S_zip2, kZip_, kZipb_tup, o_sum, o_sumB, o_tupB, o_tupL, o_lenT, S_range1, kRng_3, S_tgtL, kTgtL_, List.nil_append, List.cons_append, Nat.reduceLT, SZ, forall_const, true_implies]
  have bx := bd x x0 x1
  have b_y := bd y y0 y1
  have bz := bd z z0 z1
  have p0 : (0 : Int).natAbs < 2 ^ (m + 1) := Nat.two_pow_pos _
  refine kI_d (fun _ => ?_) (fun _ => ?_)
  · rw [S_put rfl]
    simp only [S_var, S_C, S_op1, k1_, S_op2, k2_, k2b_, S_nil, S_cons, kc_, kcb_, S_opN, kN_, S_tup, S_lst, kT_u, kL_u, stoL_nil, stoL_dat, stoL_own, consO_some, SatO_some, S_call, kCall_u, S_if, S_ifS, kI_true, kI_false, S_andV, S_orV, kAndV_true, kAndV_false, kOrV_true, kOrV_false, S_test, kTest_, S_tru, kTru_, S_and, S_or, S_not, kAnd_true, kAnd_false, kOr_true, kOr_false, kNot_, S_seq, kS_nx, kS_rt, kS_bk, kS_ct, S_pass, S_set, kSet_dat, kSet_own, S_par, kP_, kPb_, S_ret', kR_, S_retN, S_break, S_cont, S_for, kF_, S_forNil, kFb_nx, kFb_ct, kFb_bk, kFb_rt, S_items, kItems_tup, kItems_lst, kItems_own, S_lc, kLc_, S_lcNil, S_yes, kD_rt, kD_nx, Rv.ret, gt, st, kVar_dat, kVar_own, o_add, o_sub, o_eq, o_ne, o_lt, o_le, o_gt, o_ge, o_eqB, o_neB, o_is2, o_isnot2, o_abs, o_ix, o_ixO, o_ixB, o_ixL, o_tupO, o_isBool, map_some', wp, tgN_, List.length_cons, List.length_nil, Nat.reduceAdd, Nat.reduceLeDiff, true_and, decide_true, decide_false, Bool.not_true, Bool.not_false, o_mul_u, o_div_u, o_mod_u, o_pow_u, o_eqS, o_neS, o_intB, o_lenS, o_lenO, o_lenB, o_iaddI, S_s1, kS1_, kS1b_, S_lm, kLm_bor, kLm_own, kLmb_, S_tab, o_ixT, o_ixS, S_put, kPut_, kPutK_, S_zip2, kZip_, kZipb_tup, o_sum, o_sumB, o_tupB, o_tupL, o_lenT, S_range1, kRng_3, S_tgtL, kTgtL_, List.nil_append, List.cons_append, Nat.reduceLT, SZ, forall_const, true_implies]
    refine S_draw (b := b) h4 (by decide) (by decide) fun k s5 k0 k1 h5 => ?_
    simp only [S_var, S_C, S_op1, k1_, S_op2, k2_, k2b_, S_nil, S_cons, kc_, kcb_, S_opN, kN_, S_tup, S_lst, kT_u, kL_u, stoL_nil, stoL_dat, stoL_own, consO_some, SatO_some, S_call, kCall_u, S_if, S_ifS, kI_true, kI_false, S_andV, S_orV, kAndV_true, kAndV_false, kOrV_true, kOrV_false, S_test, kTest_, S_tru, kTru_, S_and, S_or, S_not, kAnd_true, kAnd_false, kOr_true, kOr_false, kNot_, S_seq, kS_nx, kS_rt, kS_bk, kS_ct, S_pass, S_set, kSet_dat, kSet_own, S_par, kP_, kPb_, S_ret', kR_, S_retN, S_break, S_cont, S_for, kF_, S_forNil, kFb_nx, kFb_ct, kFb_bk, kFb_rt, S_items, kItems_tup, kItems_lst, kItems_own, S_lc, kLc_, S_lcNil, S_yes, kD_rt, kD_nx, Rv.ret, gt, st, kVar_dat, kVar_own, o_add, o_sub, o_eq, o_ne, o_lt, o_le, o_gt, o_ge, o_eqB, o_neB, o_is2, o_isnot2, o_abs, o_ix, o_ixO, o_ixB, o_ixL, o_tupO, o_isBool, map_some', wp, tgN_, List.length_cons, List.length_nil, Nat.reduceAdd, Nat.reduceLeDiff, true_and, decide_true, decide_false, Bool.not_true, Bool.not_false, o_mul_u, o_div_u, o_mod_u, o_pow_u, o_eqS, o_neS, o_intB, o_lenS, o_lenO, o_lenB, o_iaddI, S_s1, kS1_, kS1b_, S_lm, kLm_bor, kLm_own, kLmb_, S_tab, o_ixT, o_ixS, S_put, kPut_, kPutK_, S_zip2, kZip_, kZipb_tup, o_sum, o_sumB, o_tupB, o_tupL, o_lenT, S_range1, kRng_3, S_tgtL, kTgtL_, List.nil_append, List.cons_append, Nat.reduceLT, SZ, forall_const, true_implies]
    rcases (by omega : k = 0 ∨ k = 1 ∨ k = 2) with rfl | rfl | rfl
    · exact q (0, y - sz, z - sz) s5 ⟨p0, b_y, bz⟩ h5
    · exact q (x - sz, 0, z - sz) s5 ⟨bx, p0, bz⟩ h5
    · exact q (x - sz, y - sz, 0) s5 ⟨bx, b_y, p0⟩ h5
  · simp only [S_var, S_C, S_op1, k1_, S_op2, k2_, k2b_, S_nil, S_cons, kc_, kcb_, S_opN, kN_, S_tup, S_lst, kT_u, kL_u, stoL_nil, stoL_dat, stoL_own, consO_some, SatO_some, S_call, kCall_u, S_if, S_ifS, kI_true, kI_false, S_andV, S_orV, kAndV_true, kAndV_false, kOrV_true, kOrV_false, S_test, kTest_, S_tru, kTru_, S_and, S_or, S_not, kAnd_true, kAnd_false, kOr_true, kOr_false, kNot_, S_seq, kS_nx, kS_rt, kS_bk, kS_ct, S_pass, S_set, kSet_dat, kSet_own, S_par, kP_, kPb_, S_ret', kR_, S_retN, S_break, S_cont, S_for, kF_, S_forNil, kFb_nx, kFb_ct, kFb_bk, kFb_rt, S_items, kItems_tup, kItems_lst, kItems_own, S_lc, kLc_, S_lcNil, S_yes, kD_rt, kD_nx, Rv.ret, gt, st, kVar_dat, kVar_own, o_add, o_sub, o_eq, o_ne, o_lt, o_le, o_gt, o_ge, o_eqB, o_neB, o_is2, o_isnot2, o_abs, o_ix, o_ixO, o_ixB, o_ixL, o_tupO, o_isBool, map_some', wp, tgN_, List.length_cons, List.length_nil, Nat.reduceAdd, Nat.reduceLeDiff, true_and, decide_true, decide_false, Bool.not_true, Bool.not_false, o_mul_u, o_div_u, o_mod_u, o_pow_u, o_eqS, o_neS, o_intB, o_lenS, o_lenO, o_lenB, o_iaddI, S_s1, kS1_, kS1b_, S_lm, kLm_bor, kLm_own, kLmb_, S_tab, o_ixT, o_ixS, S_put, kPut_, kPutK_, S_zip2, kZip_, kZipb_tup, o_sum, o_sumB, o_tupB, o_tupL, o_lenT, S_range1, kRng_3, S_tgtL, kTgtL_, List.nil_append, List.cons_append, Nat.reduceLT, SZ, forall_const, true_implies]
    exact q (x - sz, y - sz, z - sz) s4 ⟨bx, b_y, bz⟩ (h4.le (by omega))
theorem ne_shp (vs : List V3) : oNe (.dat (shp vs)) (.dat (.tup [])) = some (.dat (.bl (!vs.isEmpty))) := by
  show (eqD (shp vs) (.tup [])).map _ = _
  unfold eqD
  rw [if_pos ⟨okL_vd (n := 58) vs, rfl⟩]
  cases vs <;> rfl
def wholeL : List V3 := [(0, 0, 1), (1, 0, 0), (0, 1, 0)]
theorem whole_shp : Shp 1 3 wholeL := by
  refine ⟨by decide, fun v hv => ?_, ?_, ?_⟩
  · rcases List.mem_cons.mp hv with rfl | hv
    · exact ⟨⟨by decide, by decide, by decide, by decide⟩, ⟨by decide, by decide, by decide⟩⟩
    · rcases List.mem_cons.mp hv with rfl | hv
      · exact ⟨⟨by decide, by decide, by decide, by decide⟩, ⟨by decide, by decide, by decide⟩⟩
      · rw [List.mem_singleton.mp hv]
        exact ⟨⟨by decide, by decide, by decide, by decide⟩, ⟨by decide, by decide, by decide⟩⟩
  · refine ⟨List.pairwise_cons.mpr ⟨fun v hv => ?_, List.pairwise_singleton _ _⟩, List.pairwise_singleton _ _, .nil, trivial⟩
    rw [List.mem_singleton.mp hv]
    decide
  · intro x hx
    rcases List.mem_cons.mp hx with rfl | hx
    · decide
    · rw [List.mem_singleton.mp hx]
      decide
end PB
set_option Elab.async false
set_option linter.all false
set_option maxRecDepth 10000
set_option maxHeartbeats 4000000
set_option exponentiation.threshold 20000
namespace PB
theorem eqvL_vd : ∀ us vs : List V3, eqvL (us.map vd) (vs.map vd) = decide (us = vs)
  | [], [] => rfl
  | [], _ :: _ => rfl
  | _ :: _, [] => rfl
  | u :: us, v :: vs => by
    show (eqv (vd u) (vd v) && eqvL (us.map vd) (vs.map vd)) = _
    rw [eqv_vd, eqvL_vd us vs, ← Bool.decide_and]
    exact decide_eq_decide.mpr ⟨fun h => by rw [h.1, h.2], fun h => by cases h; exact ⟨rfl, rfl⟩⟩
theorem eq_shp (us vs : List V3) : oEq (.dat (shp us)) (.dat (shp vs)) = some (.dat (.bl (decide (us = vs)))) := by
  show (eqD (shp us) (shp vs)).map _ = _
  unfold eqD
  rw [if_pos ⟨okL_vd (n := 58) us, okL_vd (n := 58) vs⟩]
  show some (Rv.dat (.bl (eqvL (us.map vd) (vs.map vd)))) = _
  rw [eqvL_vd]
end PB
set_option Elab.async false
set_option linter.all false
set_option maxRecDepth 10000
set_option maxHeartbeats 4000000
set_option exponentiation.threshold 20000
namespace PB
theorem pos_of {g z : Int} (hg : 0 < g) (h : 0 < g * z) : 0 < z := by
  rcases Int.lt_or_le 0 z with hz | hz
  · exact hz
  · have := Int.mul_nonpos_of_nonneg_of_nonpos (Int.le_of_lt hg) hz
    omega
theorem Cmb.pos {x a b u v : V3} (h : Cmb x a b) (h1 : 0 ≤ det a u v) (h2 : 0 ≤ det b u v) (h3 : 0 < det a u v ∨ 0 < det b u v) : 0 < det x u v := by
  obtain ⟨g, p, q, hg, hp, hq, e1, e2, e3⟩ := h
  refine pos_of hg ?_
  rw [det_comb e1 e2 e3]
  have m1 := Int.mul_nonneg (Int.le_of_lt hp) h1
  have m2 := Int.mul_nonneg (Int.le_of_lt hq) h2
  rcases h3 with h | h
  · have := Int.mul_pos hp h
    omega
  · have := Int.mul_pos hq h
    omega
theorem det_aba (a b : V3) : det a b a = 0 := by unfold det; grind
def STri : List V3 → Prop
  | [] => True
  | a :: r => r.Pairwise (fun b c => 0 < det a b c) ∧ STri r
theorem STri.weak : ∀ {L : List V3}, STri L → Tri L
  | [], _ => trivial
  | _ :: _, h => ⟨h.1.imp fun h => Int.le_of_lt h, STri.weak h.2⟩
theorem STri.sub : ∀ {L L' : List V3}, L.Sublist L' → STri L' → STri L
  | _, _, .slnil, h => h
  | _, _, .cons _ s, h => STri.sub s h.2
  | _, _, .cons₂ _ s, h => ⟨h.1.sublist s, STri.sub s h.2⟩
theorem STri.snoc {a : V3} : ∀ {l : List V3}, STri (l ++ [a]) ↔ STri l ∧ l.Pairwise (fun b c => 0 < det b c a)
  | [] => ⟨fun _ => ⟨trivial, .nil⟩, fun _ => ⟨.nil, trivial⟩⟩
  | b :: l => by
    show (l ++ [a]).Pairwise _ ∧ STri (l ++ [a]) ↔ (l.Pairwise _ ∧ STri l) ∧ (b :: l).Pairwise _
    rw [STri.snoc (l := l), List.pairwise_append, List.pairwise_cons (a := b) (l := l)]
    constructor
    · intro ⟨⟨h1, _, h2⟩, h3, h4⟩
      exact ⟨⟨h1, h3⟩, ⟨fun u hu => h2 u hu a (List.mem_singleton.mpr rfl), h4⟩⟩
    · intro ⟨⟨h1, h3⟩, ⟨h2, h4⟩⟩
      exact ⟨⟨h1, List.pairwise_singleton _ _, fun u hu v hv => by rw [List.mem_singleton.mp hv]; exact h2 u hu⟩, h3, h4⟩
theorem STri.rot1 {a : V3} {l : List V3} : STri (a :: l) ↔ STri (l ++ [a]) := by
  rw [STri.snoc]
  constructor
  · rintro ⟨h1, h2⟩
    exact ⟨h2, h1.imp fun {b c} h => by rw [← det_cyc]; exact h⟩
  · rintro ⟨h2, h1⟩
    exact ⟨h1.imp fun {b c} h => by rw [det_cyc]; exact h, h2⟩
theorem STri.rot : ∀ {l m : List V3}, STri (l ++ m) → STri (m ++ l)
  | [], m, h => by rw [List.append_nil]; exact h
  | a :: l, m, h => by
    have h1 : STri (l ++ (m ++ [a])) := by
      rw [← List.append_assoc]
      exact STri.rot1.mp h
    have := STri.rot h1
    rw [List.append_assoc] at this
    exact this
section
variable {a b c x y : V3} {l m : List V3}
theorem STri.op20 (h : STri (a :: b :: m)) (k : Cmb x a b) : STri (a :: x :: m) := by
  obtain ⟨h1, h2, h3⟩ := h
  have h1' := List.pairwise_cons.mp h1
  refine ⟨List.pairwise_cons.mpr ⟨fun v hv => ?_, h1'.2⟩, ?_, h3⟩
  · have p : 0 < det b v a := by
      rw [← det_cyc]
      exact h1'.1 v hv
    have : 0 < det x v a := k.pos (by rw [det_aba]; exact Int.le_refl _) (Int.le_of_lt p) (.inr p)
    rw [det_cyc]
    exact this
  · exact (h1'.2.and h2).imp fun {u v} h => k.pos (Int.le_of_lt h.1) (Int.le_of_lt h.2) (.inl h.1)
theorem STri.op30 (h : STri (b :: c :: m)) (k : Cmb x b c) : STri (x :: c :: m) := by
  obtain ⟨h1, h2, h3⟩ := h
  have h1' := List.pairwise_cons.mp h1
  refine ⟨List.pairwise_cons.mpr ⟨fun v hv => ?_, ?_⟩, h2, h3⟩
  · exact k.pos (Int.le_of_lt (h1'.1 v hv)) (by rw [det_aab]; exact Int.le_refl _) (.inl (h1'.1 v hv))
  · exact (h1'.2.and h2).imp fun {u v} h => k.pos (Int.le_of_lt h.1) (Int.le_of_lt h.2) (.inl h.1)
theorem STri.op2 (h : STri (l ++ a :: b :: m)) (k : Cmb x a b) : STri (l ++ a :: x :: m) := by
  have h1 : STri (a :: b :: (m ++ l)) := STri.rot (l := l) (m := a :: b :: m) h
  exact STri.rot (l := a :: x :: m) (STri.op20 h1 k)
theorem STri.op3 (h : STri (l ++ b :: c :: m)) (k : Cmb x b c) : STri (l ++ x :: c :: m) := by
  have h1 : STri (b :: c :: (m ++ l)) := STri.rot (l := l) (m := b :: c :: m) h
  exact STri.rot (l := x :: c :: m) (STri.op30 h1 k)
theorem STri.op40 (h : STri (a :: b :: c :: m)) (k : Cmb x a b) (k2 : Cmb y b c) : STri (a :: x :: y :: c :: m) := by
  have s1 : STri (a :: x :: c :: m) := STri.op20 h k
  have s2 : STri (a :: y :: c :: m) := STri.op3 (l := [a]) h k2
  obtain ⟨h1, h2, h3, h4⟩ := h
  have h1' := List.pairwise_cons.mp h1
  have h2' := List.pairwise_cons.mp h2
  have s1' := List.pairwise_cons.mp s1.1
  have s2' := List.pairwise_cons.mp s2.1
  have abc : 0 < det a b c := h1'.1 c List.mem_cons_self
  have bya : 0 < det b y a := by
    have : 0 < det y a b := k2.pos (by rw [det_aba]; exact Int.le_refl _) (by rw [det_cyc]; exact Int.le_of_lt abc) (.inr (by rw [det_cyc]; exact abc))
    rw [← det_cyc, ← det_cyc, det_cyc]
    have e : det y a b = det a b y := det_cyc y a b
    rw [← e]
    exact this
  have axy : 0 < det a x y := by
    have : 0 < det x y a := k.pos (by rw [det_aba]; exact Int.le_refl _) (Int.le_of_lt bya) (.inr bya)
    rw [det_cyc]
    exact this
  have byv : ∀ v ∈ m, 0 < det b y v := fun v hv => by
    have bcv : 0 < det b c v := h2'.1 v hv
    have : 0 < det y v b := k2.pos (by rw [det_aba]; exact Int.le_refl _) (by rw [← det_cyc]; exact Int.le_of_lt bcv) (.inr (by rw [← det_cyc]; exact bcv))
    rw [det_cyc]
    exact this
  have byc : 0 ≤ det b y c := by
    have : 0 ≤ det y c b := k2.nn (by rw [det_aba]; exact Int.le_refl _) (by rw [det_aab]; exact Int.le_refl _)
    rw [det_cyc]
    exact this
  refine ⟨List.pairwise_cons.mpr ⟨fun v hv => ?_, s2.1⟩, List.pairwise_cons.mpr ⟨fun v hv => ?_, s1.2.1⟩, s2.2.1, h3, h4⟩
  · rcases List.mem_cons.mp hv with rfl | hv
    · exact axy
    · exact s1'.1 v hv
  · rcases List.mem_cons.mp hv with rfl | hv
    · have p := s2'.1 v List.mem_cons_self
      exact k.pos (Int.le_of_lt p) byc (.inl p)
    · have p := s2'.1 v (List.mem_cons_of_mem _ hv)
      have p2 := byv v hv
      exact k.pos (Int.le_of_lt p) (Int.le_of_lt p2) (.inl p)
theorem STri.op4 (h : STri (l ++ a :: b :: c :: m)) (k : Cmb x a b) (k2 : Cmb y b c) : STri (l ++ a :: x :: y :: c :: m) := by
  have h1 : STri (a :: b :: c :: (m ++ l)) := STri.rot (l := l) (m := a :: b :: c :: m) h
  exact STri.rot (l := a :: x :: y :: c :: m) (STri.op40 h1 k k2)
end
/-- how far a ring is cut: what is kept, the corner that is looked at, those behind it -/
inductive CutSt (w h : V3) (l : List V3) (a : V3) (r : List V3) : Prop
  | norm (n0 : 0 ≤ dot w a) (s : STri (l ++ a :: r)) (hd : (l ++ [a]).head? = some h) (n : l = [] → 2 ≤ r.length)
  | pend1 (n0 : dot w a < 0) (s : STri (l ++ a :: r)) (hd : l.head? = some h)
  | pend2 (n0 : dot w a < 0) (l0 : List V3) (p x : V3) (e : l = l0 ++ [p, x]) (s : STri (l0 ++ p :: a :: r)) (k : Cmb x p a) (hd : (l0 ++ [p]).head? = some h) (n : l0 ≠ [] ∨ r ≠ [])
theorem cross_nn {w a b : V3} (h : 0 ≤ dot w a * dot w b) : crossN w a b = [] := if_neg (by omega)
theorem cross_lt {w a b : V3} (h : dot w a * dot w b < 0) : crossN w a b = [mid w a b] := if_pos h
theorem pieceN_nn {w a b : V3} (h : 0 ≤ dot w a) : pieceN w a b = a :: crossN w a b := by
  unfold pieceN
  rw [if_pos h]
  rfl
theorem pieceN_lt {w a b : V3} (h : dot w a < 0) : pieceN w a b = crossN w a b := by
  unfold pieceN
  rw [if_neg (by omega)]
  rfl
theorem head_app {α : Type} {l m : List α} {h : α} (e : l.head? = some h) : (l ++ m).head? = some h := by
  cases l with
  | nil => cases e
  | cons a l => exact e
theorem CutSt.all {w h : V3} (hh : 0 < dot w h) (ph : Prc h) : ∀ (r l : List V3) (a : V3), (∀ v ∈ a :: r, Prc v) → CutSt w h l a r → STri (l ++ zipF (pieceN w) (a :: r) (r ++ [h]))
  | [], l, a, hp, st => by
    have e0 : zipF (pieceN w) [a] ([] ++ [h]) = pieceN w a h := by
      show pieceN w a h ++ [] = _
      rw [List.append_nil]
    rw [e0]
    have pa : Prc a := hp a List.mem_cons_self
    cases st with
    | norm n0 s hd n =>
      rw [pieceN_nn n0, cross_nn (Int.mul_nonneg n0 (Int.le_of_lt hh))]
      exact s
    | pend1 n0 s hd =>
      have hc := Int.mul_neg_of_neg_of_pos n0 hh
      rw [pieceN_lt n0, cross_lt hc]
      cases l with
      | nil => cases hd
      | cons h' l =>
        cases hd
        have s1 : STri (a :: h :: l) := STri.rot1.mpr s
        exact STri.rot1.mp (STri.op30 s1 (crossN_cmb pa ph hc))
    | pend2 n0 l0 p x e s k hd n =>
      have hc := Int.mul_neg_of_neg_of_pos n0 hh
      rw [pieceN_lt n0, cross_lt hc, e]
      cases l0 with
      | nil => exact absurd rfl (n.elim id fun z => (z rfl).elim)
      | cons h' l1 =>
        cases hd
        have s1 : STri (p :: a :: h :: l1) := STri.rot (l := h :: l1) (m := [p, a]) s
        have s2 := STri.op40 s1 k (crossN_cmb pa ph hc)
        have s3 := STri.rot (l := [p, x, mid w a h]) (m := h :: l1) s2
        rw [List.append_assoc]
        exact s3
  | b :: r, l, a, hp, st => by
    have e0 : zipF (pieceN w) (a :: b :: r) (b :: r ++ [h]) = pieceN w a b ++ zipF (pieceN w) (b :: r) (r ++ [h]) := rfl
    have pa : Prc a := hp a List.mem_cons_self
    have pb : Prc b := hp b (List.mem_cons_of_mem _ List.mem_cons_self)
    have hp' : ∀ v ∈ b :: r, Prc v := fun v hv => hp v (List.mem_cons_of_mem _ hv)
    rw [e0, ← List.append_assoc]
    refine CutSt.all hh ph r _ b hp' ?_
    have sub1 : STri (l ++ a :: b :: r) → STri (l ++ b :: r) := fun s => STri.sub (List.Sublist.append_left (.cons _ (List.Sublist.refl _)) l) s
    cases st with
    | norm n0 s hd n =>
      rw [pieceN_nn n0]
      by_cases hc : dot w a * dot w b < 0
      · rw [cross_lt hc]
        have hb : dot w b < 0 := by
          rcases Int.lt_or_le (dot w b) 0 with z | z
          · exact z
          · have := Int.mul_nonneg n0 z
            omega
        refine .pend2 hb l a (mid w a b) rfl s (crossN_cmb pa pb hc) hd ?_
        by_cases hl : l = []
        · refine .inr fun hr => ?_
          have := n hl
          rw [hr] at this
          simp at this
        · exact .inl hl
      · rw [cross_nn (by omega)]
        have s' : STri ((l ++ [a]) ++ b :: r) := by
          rw [List.append_assoc]
          exact s
        rcases Int.lt_or_le (dot w b) 0 with hb | hb
        · exact .pend1 hb s' hd
        · exact .norm hb s' (head_app hd) fun z => by simp at z
    | pend1 n0 s hd =>
      rw [pieceN_lt n0]
      rcases Int.lt_or_le 0 (dot w b) with hb | hb
      · have hc := Int.mul_neg_of_neg_of_pos n0 hb
        rw [cross_lt hc]
        refine .norm (Int.le_of_lt hb) ?_ (head_app (head_app hd)) fun z => by simp at z
        rw [List.append_assoc]
        exact STri.op3 s (crossN_cmb pa pb hc)
      · rw [cross_nn (Int.mul_nonneg_of_nonpos_of_nonpos (Int.le_of_lt n0) hb), List.append_nil]
        rcases Int.lt_or_le (dot w b) 0 with hb2 | hb2
        · exact .pend1 hb2 (sub1 s) hd
        · refine .norm hb2 (sub1 s) (head_app hd) fun z => ?_
          rw [z] at hd
          cases hd
    | pend2 n0 l0 p x e s k hd n =>
      rw [pieceN_lt n0, e]
      have hd2 : (l0 ++ [p, x]).head? = some h := by
        have : l0 ++ [p, x] = (l0 ++ [p]) ++ [x] := by simp
        rw [this]
        exact head_app hd
      have ne : l0 ++ [p, x] ≠ [] := by simp
      rcases Int.lt_or_le 0 (dot w b) with hb | hb
      · have hc := Int.mul_neg_of_neg_of_pos n0 hb
        rw [cross_lt hc]
        refine .norm (Int.le_of_lt hb) ?_ (head_app (head_app hd2)) fun z => by simp at z
        rw [List.append_assoc, List.append_assoc]
        exact STri.op4 s k (crossN_cmb pa pb hc)
      · rw [cross_nn (Int.mul_nonneg_of_nonpos_of_nonpos (Int.le_of_lt n0) hb), List.append_nil]
        have s2 : STri ((l0 ++ [p, x]) ++ b :: r) := by
          rw [List.append_assoc]
          exact STri.op2 s k
        rcases Int.lt_or_le (dot w b) 0 with hb2 | hb2
        · exact .pend1 hb2 s2 hd2
        · exact .norm hb2 s2 (head_app hd2) fun z => absurd z ne
/-- three at least are kept -/
theorem len_pend {w h : V3} (hh : 0 < dot w h) : ∀ (r : List V3) (b : V3), dot w b < 0 → 1 ≤ (zipF (pieceN w) (b :: r) (r ++ [h])).length
  | [], b, hb => by
    show 1 ≤ (pieceN w b h ++ []).length
    rw [pieceN_lt hb, cross_lt (Int.mul_neg_of_neg_of_pos hb hh)]
    simp
  | c :: r, b, hb => by
    show 1 ≤ (pieceN w b c ++ zipF (pieceN w) (c :: r) (r ++ [h])).length
    rw [List.length_append]
    rcases Int.lt_or_le (dot w c) 0 with hc | hc
    · have := len_pend hh r c hc
      omega
    · have : 1 ≤ (zipF (pieceN w) (c :: r) (r ++ [h])).length := by
        cases r with
        | nil =>
          show 1 ≤ (pieceN w c h ++ []).length
          rw [pieceN_nn hc]
          simp
        | cons d r =>
          show 1 ≤ (pieceN w c d ++ zipF (pieceN w) (d :: r) (r ++ [h])).length
          rw [pieceN_nn hc]
          simp
      omega
theorem len_any {w h : V3} (hh : 0 < dot w h) (r : List V3) (b : V3) : 1 ≤ (zipF (pieceN w) (b :: r) (r ++ [h])).length := by
  rcases Int.lt_or_le (dot w b) 0 with hb | hb
  · exact len_pend hh r b hb
  · cases r with
    | nil =>
      show 1 ≤ (pieceN w b h ++ []).length
      rw [pieceN_nn hb]
      simp
    | cons d r =>
      show 1 ≤ (pieceN w b d ++ zipF (pieceN w) (d :: r) (r ++ [h])).length
      rw [pieceN_nn hb]
      simp
theorem len_three {w h : V3} (hh : 0 < dot w h) : ∀ (r : List V3) (a : V3), 0 < dot w a → (∃ v ∈ r, dot w v < 0) → 3 ≤ (zipF (pieceN w) (a :: r) (r ++ [h])).length
  | [], a, _, h2 => by
    obtain ⟨v, hv, _⟩ := h2
    cases hv
  | b :: r, a, ha, h2 => by
    show 3 ≤ (pieceN w a b ++ zipF (pieceN w) (b :: r) (r ++ [h])).length
    rw [List.length_append, pieceN_nn (Int.le_of_lt ha), List.length_cons]
    rcases Int.lt_trichotomy (dot w b) 0 with hb | hb | hb
    · rw [cross_lt (Int.mul_neg_of_pos_of_neg ha hb)]
      have := len_pend hh r b hb
      simp only [List.length_singleton]
      omega
    · obtain ⟨v, hv, hneg⟩ := h2
      have hvr : v ∈ r := by
        rcases List.mem_cons.mp hv with rfl | hv
        · omega
        · exact hv
      cases r with
      | nil => cases hvr
      | cons c r =>
        have : 2 ≤ (zipF (pieceN w) (b :: c :: r) (c :: r ++ [h])).length := by
          show 2 ≤ (pieceN w b c ++ zipF (pieceN w) (c :: r) (r ++ [h])).length
          rw [List.length_append, pieceN_nn (by omega), List.length_cons]
          have := len_any hh r c
          omega
        omega
    · obtain ⟨v, hv, hneg⟩ := h2
      have hvr : v ∈ r := by
        rcases List.mem_cons.mp hv with rfl | hv
        · omega
        · exact hv
      have := len_three hh r b hb ⟨v, hvr, hneg⟩
      omega
theorem zipF_nn {w : V3} : ∀ (xs ys : List V3), xs.length ≤ ys.length → (∀ v ∈ xs, 0 ≤ dot w v) → xs.length ≤ (zipF (pieceN w) xs ys).length
  | [], _, _, _ => Nat.zero_le _
  | _ :: _, [], h, _ => by simp at h
  | x :: xs, y :: ys, h, hn => by
    rw [zipF, List.length_append, pieceN_nn (hn x List.mem_cons_self), List.length_cons, List.length_cons]
    have := zipF_nn xs ys (Nat.le_of_succ_le_succ h) fun v hv => hn v (List.mem_cons_of_mem _ hv)
    omega
end PB
set_option Elab.async false
set_option linter.all false
set_option maxRecDepth 10000
set_option maxHeartbeats 4000000
set_option exponentiation.threshold 20000
namespace PB
theorem zipF_app {F : V3 → V3 → List V3} : ∀ (xs us ys vs : List V3), xs.length = us.length → zipF F (xs ++ ys) (us ++ vs) = zipF F xs us ++ zipF F ys vs
  | [], [], ys, vs, _ => rfl
  | x :: xs, u :: us, ys, vs, h => by
    show F x u ++ zipF F (xs ++ ys) (us ++ vs) = (F x u ++ zipF F xs us) ++ zipF F ys vs
    rw [zipF_app xs us ys vs (Nat.succ.inj h), List.append_assoc]
  | [], _ :: _, _, _, h => by cases h
  | _ :: _, [], _, _, h => by cases h
theorem keptN_rot {w h : V3} {l r : List V3} : ∃ p q, keptN w (l ++ h :: r) = p ++ q ∧ keptN w (h :: r ++ l) = q ++ p := by
  cases l with
  | nil => exact ⟨[], _, rfl, by rw [List.append_nil, List.append_nil]; rfl⟩
  | cons a l =>
    refine ⟨zipF (pieceN w) (a :: l) (l ++ [h]), zipF (pieceN w) (h :: r) (r ++ [a]), ?_, ?_⟩
    · show keptN w (a :: (l ++ h :: r)) = _
      rw [keptN_zip, ← zipF_app _ _ _ _ (by simp)]
      congr 1
      simp
    · show keptN w (h :: (r ++ a :: l)) = _
      rw [keptN_zip, ← zipF_app _ _ _ _ (by simp)]
      congr 1
      simp
structure ShpS (n k : Nat) (vs : List V3) : Prop where
  le : vs.length ≤ k
  ge : 3 ≤ vs.length
  pr : ∀ v ∈ vs, Prc v ∧ Lt3 n v
  low : ∀ v ∈ vs, lowV v = v
  tri : STri vs
  beg : Beg vs
theorem ShpS.shp {n k : Nat} {vs : List V3} (h : ShpS n k vs) : Shp n k vs := ⟨h.le, h.pr, h.tri.weak, h.beg⟩
theorem ShpS.up {n n' k k' : Nat} {vs : List V3} (h : ShpS n k vs) (hn : n ≤ n') (hk : k ≤ k') : ShpS n' k' vs := ⟨Nat.le_trans h.le hk, h.ge, fun v hv => ⟨(h.pr v hv).1, (h.pr v hv).2.up hn⟩, h.low, h.tri, h.beg⟩
theorem STri.rots {L L' l m : List V3} (e : L = l ++ m) (e2 : L' = m ++ l) (h : STri L) : STri L' := by
  rw [e] at h
  rw [e2]
  exact h.rot
theorem STri.keptS {w h : V3} {vs : List V3} (hs : STri vs) (hn : 3 ≤ vs.length) (hp : ∀ v ∈ vs, Prc v) (hv : h ∈ vs) (hh : 0 < dot w h) : STri (keptN w vs) ∧ 3 ≤ (keptN w vs).length := by
  obtain ⟨l, r, rfl⟩ := List.append_of_mem hv
  obtain ⟨p, q, e1, e2⟩ := keptN_rot (w := w) (h := h) (l := l) (r := r)
  have s1 : STri (h :: r ++ l) := hs.rot
  have hp1 : ∀ v ∈ h :: (r ++ l), Prc v := fun v hv => hp v (by
    rcases List.mem_cons.mp hv with rfl | hv
    · simp
    · rcases List.mem_append.mp hv with hv | hv
      · simp [hv]
      · simp [hv])
  have hn1 : 2 ≤ (r ++ l).length := by
    simp only [List.length_append, List.length_cons] at hn ⊢
    omega
  have key : STri (keptN w (h :: r ++ l)) := by
    show STri (keptN w (h :: (r ++ l)))
    rw [keptN_zip]
    have := CutSt.all (w := w) hh (hp1 h List.mem_cons_self) (r ++ l) [] h hp1 (.norm (Int.le_of_lt hh) s1 rfl fun _ => hn1)
    exact this
  have key2 : 3 ≤ (keptN w (h :: r ++ l)).length := by
    show 3 ≤ (keptN w (h :: (r ++ l))).length
    rw [keptN_zip]
    by_cases hex : ∃ v ∈ r ++ l, dot w v < 0
    · exact len_three hh _ _ hh hex
    · have hall : ∀ v ∈ h :: (r ++ l), 0 ≤ dot w v := fun v hv => by
        rcases List.mem_cons.mp hv with rfl | hv
        · omega
        · rcases Int.lt_or_le (dot w v) 0 with z | z
          · exact absurd ⟨v, hv, z⟩ hex
          · exact z
      have := zipF_nn (w := w) (h :: (r ++ l)) ((r ++ l) ++ [h]) (by simp only [List.length_cons, List.length_append, List.length_nil]; omega) hall
      rw [List.length_cons] at this
      omega
  refine ⟨STri.rots e2 e1 key, ?_⟩
  rw [e1, List.length_append]
  rw [e2, List.length_append] at key2
  omega
theorem lowV_low {v : V3} (h : Prc v) : lowV (lowV v) = lowV v := by
  have hg := prc_gcd h
  have hd := (gcdL_dvd (l := [v.1, v.2.1, v.2.2]) (g := 0)).2
  have e : ∀ x : Int, ((g3 v.1 v.2.1 v.2.2 : Nat) : Int) ∣ x → (x / (g3 v.1 v.2.1 v.2.2 : Nat)) * ((g3 v.1 v.2.1 v.2.2 : Nat) : Int) = x * ((1 : Nat) : Int) := fun x hx => by
    rw [Int.ediv_mul_cancel hx]
    simp
  have := low3_same (k := ((g3 v.1 v.2.1 v.2.2 : Nat) : Int)) (m := ((1 : Nat) : Int)) (show (0 : Int) < ((g3 v.1 v.2.1 v.2.2 : Nat) : Int) from Int.ofNat_lt.mpr hg) (by decide) (e v.1 (hd _ List.mem_cons_self)) (e v.2.1 (hd _ (List.mem_cons_of_mem _ List.mem_cons_self))) (e v.2.2 (hd _ (List.mem_cons_of_mem _ (List.mem_cons_of_mem _ List.mem_cons_self))))
  have e2 : vd (lowV (lowV v)) = vd (lowV v) := this
  have e3 := D.tup.inj e2
  have a1 := D.int.inj (List.cons.inj e3).1
  have a2 := D.int.inj (List.cons.inj (List.cons.inj e3).2).1
  have a3 := D.int.inj (List.cons.inj (List.cons.inj (List.cons.inj e3).2).2).1
  exact Prod.ext a1 (Prod.ext a2 a3)
theorem ShpS.cutN {n k m : Nat} {w v : V3} {vs : List V3} (h : ShpS n k vs) (hw : Lt3 m w) (hv : v ∈ vs) (hp : 0 < dot w v) : ShpS (m + n + n + 3) (2 * k) (rotV (keptN w vs)) := by
  have hs := h.shp.cutN hw hv hp
  have st := h.tri.keptS h.ge (fun u hu => (h.pr u hu).1) hv hp
  obtain ⟨l, q, e1, e2⟩ := rotV_cut (keptN w vs)
  refine ⟨hs.le, by rw [rotV_len]; exact st.2, hs.pr, fun u hu => ?_, STri.rots e1 e2 st.1, hs.beg⟩
  obtain ⟨a, b, ha, hb, hm⟩ := keptN_mem ((rotV_mem _ _).mp hu)
  unfold pieceN crossN at hm
  rcases List.mem_append.mp hm with hm | hm
  · split at hm
    · rw [List.mem_singleton.mp hm]
      exact h.low a ha
    · cases hm
  · split at hm
    · rename_i hlt
      rw [List.mem_singleton.mp hm]
      exact lowV_low (mid_sum (h.pr a ha).1 (h.pr b hb).1 hlt)
    · cases hm
end PB
set_option Elab.async false
set_option linter.all false
set_option maxRecDepth 10000
set_option maxHeartbeats 4000000
set_option exponentiation.threshold 20000
namespace PB
def l_ringM : MS LS := (mSeq (mSet 1 (mLst mNil))
    (mSeq (mSet 2 (mCall drawF (mCons (mVar 0) (mCons (mC (.int 3)) mNil))))
    (mSeq (mFor (mRange1 (mOp2 oAdd (mC (.int 3)) (mCall drawF (mCons (mVar 0) (mCons (mC (.int 37)) mNil))))) (tgN 3) (mSeq (mApp 1 (mTup (mCons (mC (.int 1)) (mCons (mVar 2) (mCons (mOp2 oMul (mVar 2) (mVar 2)) mNil)))))
    (mAug 2 oIAdd (mOp2 oAdd (mC (.int 1)) (mCall drawF (mCons (mVar 0) (mCons (mC (.int 3)) mNil)))))))
    (mRet (mOpN oTuple (mCons (mVar 1) mNil))))))
def l_ringF : MF LS := mDef 4 1 (l_ringM)
def l_whoM : MS LS := (mRet (mAndV (mOp1 (oIs .int) (mVar 0)) (mNotV (mOp1 (oIs .bool) (mVar 0)))))
def l_whoF : MF LS := mDef 1 1 (l_whoM)
def l_is_priceM : MS LS := (mSeq (mIfS (mOr (mNot (mTest (mOp1 (oIs .tuple) (mVar 0)))) (mTest (mOp2 oNe (mOpN oLen (mCons (mVar 0) mNil)) (mC (.int 3))))) (mRet (mC (.bl false))) mPass)
    (mSeq (mIfS (mOr (mNot (mTest (mOpN oAll (mCons (mLc (mItems (mVar 0)) (tgN 1) mYes (mAndV (mCall l_whoF (mCons (mVar 1) mNil)) (mOp2 oGe (mVar 1) (mC (.int 0)))) [1]) mNil)))) (mTest (mOp2 oEq (mOpN oMaxA (mCons (mVar 0) mNil)) (mC (.int 0))))) (mRet (mC (.bl false))) mPass)
    (mRet (mOp2 oEq (mCall l_lowestF (mCons (mVar 0) mNil)) (mVar 0)))))
def l_is_priceF : MF LS := mDef 2 1 (l_is_priceM)
def l_turnM : MS LS := (mSeq (mSet 3 (mOp2 oMul (mOp2 oIx (mVar 2) (mC (.int 0))) (mOp2 oSub (mOp2 oMul (mOp2 oIx (mVar 0) (mC (.int 1))) (mOp2 oIx (mVar 1) (mC (.int 2)))) (mOp2 oMul (mOp2 oIx (mVar 0) (mC (.int 2))) (mOp2 oIx (mVar 1) (mC (.int 1)))))))
    (mSeq (mSet 3 (mOp2 oSub (mVar 3) (mOp2 oMul (mOp2 oIx (mVar 2) (mC (.int 1))) (mOp2 oSub (mOp2 oMul (mOp2 oIx (mVar 0) (mC (.int 0))) (mOp2 oIx (mVar 1) (mC (.int 2)))) (mOp2 oMul (mOp2 oIx (mVar 0) (mC (.int 2))) (mOp2 oIx (mVar 1) (mC (.int 0))))))))
    (mRet (mOp2 oAdd (mVar 3) (mOp2 oMul (mOp2 oIx (mVar 2) (mC (.int 2))) (mOp2 oSub (mOp2 oMul (mOp2 oIx (mVar 0) (mC (.int 0))) (mOp2 oIx (mVar 1) (mC (.int 1)))) (mOp2 oMul (mOp2 oIx (mVar 0) (mC (.int 1))) (mOp2 oIx (mVar 1) (mC (.int 0))))))))))
def l_turnF : MF LS := mDef 4 3 (l_turnM)
def l_is_shapeM : MS LS := (mSeq (mIfS (mOr (mNot (mTest (mOp1 (oIs .tuple) (mVar 0)))) (mOr (mTest (mOp2 oLt (mOpN oLen (mCons (mVar 0) mNil)) (mC (.int 3)))) (mNot (mTest (mOpN oAll (mCons (mLc (mItems (mVar 0)) (tgN 5) mYes (mCall l_is_priceF (mCons (mVar 5) mNil)) [5]) mNil)))))) (mRet (mC (.bl false))) mPass)
    (mSeq (mIfS (mNot (mTest (mOpN oAll (mCons (mLc (mItems (mCut (mVar 0) (some (mC (.int 1))) none)) (tgN 6) mYes (mOp2 oLtD (mOp2 oIx (mVar 0) (mC (.int 0))) (mVar 6)) [6]) mNil)))) (mRet (mC (.bl false))) mPass)
    (mSeq (mFor (mRange1 (mOpN oLen (mCons (mVar 0) mNil))) (tgN 1) (mSeq (mPar 2 3 (mOp2 oIx (mVar 0) (mOp2 oSub (mVar 1) (mC (.int 1)))) (mOp2 oIx (mVar 0) (mVar 1)))
    (mFor (mRange1 (mOpN oLen (mCons (mVar 0) mNil))) (tgN 4) (mIfS (mAnd (mTest (mOp2 oNe (mVar 4) (mVar 1))) (mAnd (mTest (mOp2 oNe (mVar 4) (mOp2 oMod (mOp2 oSub (mVar 1) (mC (.int 1))) (mOpN oLen (mCons (mVar 0) mNil))))) (mTest (mOp2 oLe (mCall l_turnF (mCons (mVar 2) (mCons (mVar 3) (mCons (mOp2 oIx (mVar 0) (mVar 4)) mNil)))) (mC (.int 0)))))) (mRet (mC (.bl false))) mPass))))
    (mRet (mC (.bl true))))))
def l_is_shapeF : MF LS := mDef 7 1 (l_is_shapeM)
def is_wholeM : MS LS := (mRet (mAndV (mOp1 (oIs .int) (mVar 0)) (mNotV (mOp1 (oIs .bool) (mVar 0)))))
def is_wholeF : MF LS := mDef 1 1 (is_wholeM)
def is_cornerM : MS LS := (mSeq (mIfS (mOr (mNot (mTest (mOp1 (oIs .tuple) (mVar 0)))) (mTest (mOp2 oNe (mOpN oLen (mCons (mVar 0) mNil)) (mC (.int 3))))) (mRet (mC (.bl false))) mPass)
    (mSeq (mIfS (mOr (mNot (mTest (mOpN oAll (mCons (mLc (mItems (mVar 0)) (tgN 1) mYes (mAndV (mCall is_wholeF (mCons (mVar 1) mNil)) (mOp2 oGe (mVar 1) (mC (.int 0)))) [1]) mNil)))) (mTest (mOp2 oEq (mOpN oSumA (mCons (mVar 0) mNil)) (mC (.int 0))))) (mRet (mC (.bl false))) mPass)
    (mRet (mOp2 oEq (mCall lowest2F (mCons (mVar 0) mNil)) (mVar 0)))))
def is_cornerF : MF LS := mDef 2 1 (is_cornerM)
def turn_ofM : MS LS := (mSeq (mSet 3 (mOp2 oSub (mOp2 oMul (mOp2 oIx (mVar 1) (mC (.int 1))) (mOp2 oIx (mVar 2) (mC (.int 2)))) (mOp2 oMul (mOp2 oIx (mVar 1) (mC (.int 2))) (mOp2 oIx (mVar 2) (mC (.int 1))))))
    (mSeq (mSet 4 (mOp2 oSub (mOp2 oMul (mOp2 oIx (mVar 1) (mC (.int 2))) (mOp2 oIx (mVar 2) (mC (.int 0)))) (mOp2 oMul (mOp2 oIx (mVar 1) (mC (.int 0))) (mOp2 oIx (mVar 2) (mC (.int 2))))))
    (mSeq (mSet 5 (mOp2 oSub (mOp2 oMul (mOp2 oIx (mVar 1) (mC (.int 0))) (mOp2 oIx (mVar 2) (mC (.int 1)))) (mOp2 oMul (mOp2 oIx (mVar 1) (mC (.int 1))) (mOp2 oIx (mVar 2) (mC (.int 0))))))
    (mRet (mOp2 oAdd (mOp2 oAdd (mOp2 oMul (mOp2 oIx (mVar 0) (mC (.int 0))) (mVar 3)) (mOp2 oMul (mOp2 oIx (mVar 0) (mC (.int 1))) (mVar 4))) (mOp2 oMul (mOp2 oIx (mVar 0) (mC (.int 2))) (mVar 5)))))))
def turn_ofF : MF LS := mDef 6 3 (turn_ofM)
def goes_roundM : MS LS := (mSeq (mSet 1 (mOpN oLen (mCons (mVar 0) mNil)))
    (mSeq (mFor (mRange1 (mVar 1)) (tgN 2) (mFor (mRangeA (mCons (mOp2 oAdd (mVar 2) (mC (.int 1))) (mCons (mOp2 oSub (mOp2 oAdd (mVar 2) (mVar 1)) (mC (.int 1))) mNil))) (tgN 3) (mIfS (mTest (mOp2 oLe (mCall turn_ofF (mCons (mOp2 oIx (mVar 0) (mOp2 oSub (mVar 2) (mC (.int 1)))) (mCons (mOp2 oIx (mVar 0) (mVar 2)) (mCons (mOp2 oIx (mVar 0) (mOp2 oMod (mVar 3) (mVar 1))) mNil)))) (mC (.int 0)))) (mRet (mC (.bl false))) mPass)))
    (mRet (mC (.bl true)))))
def goes_roundF : MF LS := mDef 4 1 (goes_roundM)
def is_shapeM : MS LS := (mSeq (mIfS (mOr (mNot (mTest (mOp1 (oIs .tuple) (mVar 0)))) (mOr (mTest (mOp2 oLt (mOpN oLen (mCons (mVar 0) mNil)) (mC (.int 3)))) (mNot (mTest (mOpN oAll (mCons (mLc (mItems (mVar 0)) (tgN 1) mYes (mCall is_cornerF (mCons (mVar 1) mNil)) [1]) mNil)))))) (mRet (mC (.bl false))) mPass)
    (mRet (mAndV (mCall goes_roundF (mCons (mVar 0) mNil)) (mOpN oAll (mCons (mLc (mItems (mCut (mVar 0) (some (mC (.int 1))) none)) (tgN 2) mYes (mOp2 oLtD (mOp2 oIx (mVar 0) (mC (.int 0))) (mVar 2)) [2]) mNil)))))
def is_shapeF : MF LS := mDef 3 1 (is_shapeM)
theorem STri.idx : ∀ {L : List V3}, STri L → ∀ {i j k : Nat} (hij : i < j) (hjk : j < k) (hk : k < L.length), 0 < det (L.getD i (0, 0, 0)) (L.getD j (0, 0, 0)) (L.getD k (0, 0, 0))
  | [], _, _, _, _, _, _, hk => by cases hk
  | a :: r, h, i, j, k, hij, hjk, hk => by
    cases k with
    | zero => omega
    | succ k =>
      cases j with
      | zero => omega
      | succ j =>
        rw [List.length_cons] at hk
        cases i with
        | zero =>
          have := List.pairwise_iff_getElem.mp h.1 j k (by omega) (by omega) (by omega)
          show 0 < det a (r.getD j (0, 0, 0)) (r.getD k (0, 0, 0))
          rw [List.getD_eq_getElem?_getD, List.getD_eq_getElem?_getD, List.getElem?_eq_getElem (by omega : j < r.length), List.getElem?_eq_getElem (by omega : k < r.length)]
          exact this
        | succ i => exact STri.idx h.2 (by omega) (by omega) (by omega)
theorem prev_zero {vs : List V3} (h : 0 < vs.length) : prevV vs 0 = vs.getD (vs.length - 1) (0, 0, 0) := by
  unfold prevV
  rw [Nat.zero_add, Nat.mod_eq_of_lt (by omega)]
theorem prev_succ {vs : List V3} {j : Nat} (h : j < vs.length) : prevV vs (j + 1) = vs.getD j (0, 0, 0) := by
  unfold prevV
  rw [show j + 1 + vs.length - 1 = j + vs.length by omega, Nat.add_mod_right, Nat.mod_eq_of_lt h]
theorem STri.edge {vs : List V3} (h : STri vs) {k j : Nat} (hk : k < vs.length) (hj : j < vs.length) (h1 : j ≠ k) (h2 : j ≠ (k + vs.length - 1) % vs.length) : 0 < det (prevV vs k) (vs.getD k (0, 0, 0)) (vs.getD j (0, 0, 0)) := by
  cases k with
  | zero =>
    rw [Nat.zero_add, Nat.mod_eq_of_lt (by omega)] at h2
    rw [prev_zero hk, det_cyc]
    exact h.idx (by omega) (by omega) (by omega)
  | succ k =>
    rw [show k + 1 + vs.length - 1 = k + vs.length by omega, Nat.add_mod_right, Nat.mod_eq_of_lt (by omega)] at h2
    rw [prev_succ (by omega)]
    rcases Nat.lt_or_ge k j with hkj | hkj
    · exact h.idx (by omega) (by omega) hj
    · have := h.idx (i := j) (j := k) (k := k + 1) (by omega) (by omega) hk
      rw [det_cyc] at this
      exact this
theorem beg_lt {n k : Nat} {v : V3} {r : List V3} (h : ShpS n k (v :: r)) : ∀ x ∈ r, ltV v x = true := by
  intro x hx
  have hb := h.beg x hx
  have hg := h.ge
  have hne : v ≠ x := by
    rintro rfl
    obtain ⟨j, hj, e⟩ := List.getElem_of_mem hx
    have hl : 2 ≤ r.length := by
      rw [List.length_cons] at hg
      omega
    obtain ⟨i, hi, hij⟩ : ∃ i, i < r.length ∧ i ≠ j := by
      by_cases h0 : j = 0
      · exact ⟨1, by omega, by omega⟩
      · exact ⟨0, by omega, fun z => h0 z.symm⟩
    have hw := List.pairwise_iff_getElem.mp h.tri.1
    rcases Nat.lt_or_ge i j with hlt | hge
    · have := hw i j hi hj hlt
      rw [e, det_aba] at this
      exact absurd this (Int.lt_irrefl _)
    · have := hw j i hj hi (by omega)
      rw [e, det_aab] at this
      exact absurd this (Int.lt_irrefl _)
  unfold ltV at hb ⊢
  have ne2 : ¬ (v.1 = x.1 ∧ v.2.1 = x.2.1 ∧ v.2.2 = x.2.2) := fun z => hne (Prod.ext z.1 (Prod.ext z.2.1 z.2.2))
  split at hb <;> (try split at hb) <;> simp only [decide_eq_false_iff_not] at hb <;> split <;> (try split) <;> simp only [decide_eq_true_eq] <;> omega
section
variable {s : LS} {Q : Rv → LS → Prop}
theorem ixv (x : V3) : oIx (.dat (vd x)) (.dat (.int 0)) = some (.dat (.int x.1)) ∧ oIx (.dat (vd x)) (.dat (.int 1)) = some (.dat (.int x.2.1)) ∧ oIx (.dat (vd x)) (.dat (.int 2)) = some (.dat (.int x.2.2)) := ⟨rfl, rfl, rfl⟩
theorem S_turnOf {n : Nat} {a b c : V3} (ha : Lt3 n a) (hb : Lt3 n b) (hc : Lt3 n c) (hn : n ≤ 100000) (q : Q (.dat (.int (det a b c))) s) : Sat (turn_ofF [vd a, vd b, vd c] s) Q := by
  unfold turn_ofF
  rw [S_def (k := 3) (ds := [vd a, vd b, vd c]) rfl]
  show Sat (turn_ofM [.dat (vd a), .dat (vd b), .dat (vd c), .un, .un, .un] s) _
  unfold turn_ofM
  have mo : ∀ {x y : Int}, x.natAbs < 2 ^ n → y.natAbs < 2 ^ n → MulOk x y := fun hx hy => mulOkP hx hy (by omega)
  have sb : ∀ {x y : Int}, x.natAbs < 2 ^ (n + n) → y.natAbs < 2 ^ (n + n) → (x - y).natAbs < 2 ^ (n + n + 1) := fun hx hy => by
    rw [Nat.pow_succ]
    omega
  have m2 : ∀ {x y z u v : Int}, z.natAbs < 2 ^ n → x.natAbs < 2 ^ n → y.natAbs < 2 ^ n → u.natAbs < 2 ^ n → v.natAbs < 2 ^ n → MulOk z (x * y - u * v) := fun hz hx hy hu hv => mulOkP hz (sb (mulLt hx hy) (mulLt hu hv)) (by omega)
  have e : det a b c = a.1 * (b.2.1 * c.2.2 - b.2.2 * c.2.1) + a.2.1 * (b.2.2 * c.1 - b.1 * c.2.2) + a.2.2 * (b.1 * c.2.1 - b.2.1 * c.1) := by
    unfold det
    grind
  rw [e] at q
  simp only [S_var, S_C, S_op1, k1_, S_op2, k2_, k2b_, S_nil, S_cons, kc_, kcb_, S_opN, kN_, S_tup, S_lst, kT_u, kL_u, stoL_nil, stoL_dat, stoL_own, consO_some, SatO_some, S_call, kCall_u, S_if, S_ifS, kI_true, kI_false, S_andV, S_orV, kAndV_true, kAndV_false, kOrV_true, kOrV_false, S_test, kTest_, S_tru, kTru_, S_and, S_or, S_not, kAnd_true, kAnd_false, kOr_true, kOr_false, kNot_, S_seq, kS_nx, kS_rt, kS_bk, kS_ct, S_pass, S_set, kSet_dat, kSet_own, S_par, kP_, kPb_, S_ret', kR_, S_retN, S_break, S_cont, S_for, kF_, S_forNil, kFb_nx, kFb_ct, kFb_bk, kFb_rt, S_items, kItems_tup, kItems_lst, kItems_own, S_lc, kLc_, S_lcNil, S_yes, kD_rt, kD_nx, Rv.ret, gt, st, kVar_dat, kVar_own, o_add, o_sub, o_eq, o_ne, o_lt, o_le, o_gt, o_ge, o_eqB, o_neB, o_is2, o_isnot2, o_abs, o_ix, o_ixO, o_ixB, o_ixL, o_tupO, o_isBool, map_some', wp, tgN_, List.length_cons, List.length_nil, Nat.reduceAdd, Nat.reduceLeDiff, true_and, decide_true, decide_false, Bool.not_true, Bool.not_false, o_mul_u, o_div_u, o_mod_u, o_pow_u, o_eqS, o_neS, o_intB, o_lenS, o_lenO, o_lenB, o_iaddI, S_s1, kS1_, kS1b_, S_lm, kLm_bor, kLm_own, kLmb_, S_tab, o_ixT, o_ixS, S_put, kPut_, kPutK_, S_zip2, kZip_, kZipb_tup, o_sum, o_sumB, o_tupB, o_tupL, o_lenT, S_range1, kRng_3, S_tgtL, kTgtL_, List.nil_append, List.cons_append, Nat.reduceLT, SZ, forall_const, true_implies, (ixv a).1, (ixv a).2.1, (ixv a).2.2, (ixv b).1, (ixv b).2.1, (ixv b).2.2, (ixv c).1, (ixv c).2.1, (ixv c).2.2]
  refine ⟨mo hb.y hc.z, mo hb.z hc.y, mo hb.z hc.x, mo hb.x hc.z, mo hb.x hc.y, mo hb.y hc.x, m2 ha.x hb.y hc.z hb.z hc.y, m2 ha.y hb.z hc.x hb.x hc.z, m2 ha.z hb.x hc.y hb.y hc.x, q⟩
theorem S_lturn {n : Nat} {a b c : V3} (ha : Lt3 n a) (hb : Lt3 n b) (hc : Lt3 n c) (hn : n ≤ 100000) (q : Q (.dat (.int (det a b c))) s) : Sat (l_turnF [vd a, vd b, vd c] s) Q := by
  unfold l_turnF
  rw [S_def (k := 3) (ds := [vd a, vd b, vd c]) rfl]
  show Sat (l_turnM [.dat (vd a), .dat (vd b), .dat (vd c), .un] s) _
  unfold l_turnM
  have mo : ∀ {x y : Int}, x.natAbs < 2 ^ n → y.natAbs < 2 ^ n → MulOk x y := fun hx hy => mulOkP hx hy (by omega)
  have sb : ∀ {x y : Int}, x.natAbs < 2 ^ (n + n) → y.natAbs < 2 ^ (n + n) → (x - y).natAbs < 2 ^ (n + n + 1) := fun hx hy => by
    rw [Nat.pow_succ]
    omega
  have m2 : ∀ {x y z u v : Int}, z.natAbs < 2 ^ n → x.natAbs < 2 ^ n → y.natAbs < 2 ^ n → u.natAbs < 2 ^ n → v.natAbs < 2 ^ n → MulOk z (x * y - u * v) := fun hz hx hy hu hv => mulOkP hz (sb (mulLt hx hy) (mulLt hu hv)) (by omega)
  have e : det a b c = c.1 * (a.2.1 * b.2.2 - a.2.2 * b.2.1) - c.2.1 * (a.1 * b.2.2 - a.2.2 * b.1) + c.2.2 * (a.1 * b.2.1 - a.2.1 * b.1) := by
    unfold det
    grind
  rw [e] at q
  simp only [S_var, S_C, S_op1, k1_, S_op2, k2_, k2b_, S_nil, S_cons, kc_, kcb_, S_opN, kN_, S_tup, S_lst, kT_u, kL_u, stoL_nil, stoL_dat, stoL_own, consO_some, SatO_some, S_call, kCall_u, S_if, S_ifS, kI_true, kI_false, S_andV, S_orV, kAndV_true, kAndV_false, kOrV_true, kOrV_false, S_test, kTest_, S_tru, kTru_, S_and, S_or, S_not, kAnd_true, kAnd_false, kOr_true, kOr_false, kNot_, S_seq, kS_nx, kS_rt, kS_bk, kS_ct, S_pass, S_set, kSet_dat, kSet_own, S_par, kP_, kPb_, S_ret', kR_, S_retN, S_break, S_cont, S_for, kF_, S_forNil, kFb_nx, kFb_ct, kFb_bk, kFb_rt, S_items, kItems_tup, kItems_lst, kItems_own, S_lc, kLc_, S_lcNil, S_yes, kD_rt, kD_nx, Rv.ret, gt, st, kVar_dat, kVar_own, o_add, o_sub, o_eq, o_ne, o_lt, o_le, o_gt, o_ge, o_eqB, o_neB, o_is2, o_isnot2, o_abs, o_ix, o_ixO, o_ixB, o_ixL, o_tupO, o_isBool, map_some', wp, tgN_, List.length_cons, List.length_nil, Nat.reduceAdd, Nat.reduceLeDiff, true_and, decide_true, decide_false, Bool.not_true, Bool.not_false, o_mul_u, o_div_u, o_mod_u, o_pow_u, o_eqS, o_neS, o_intB, o_lenS, o_lenO, o_lenB, o_iaddI, S_s1, kS1_, kS1b_, S_lm, kLm_bor, kLm_own, kLmb_, S_tab, o_ixT, o_ixS, S_put, kPut_, kPutK_, S_zip2, kZip_, kZipb_tup, o_sum, o_sumB, o_tupB, o_tupL, o_lenT, S_range1, kRng_3, S_tgtL, kTgtL_, List.nil_append, List.cons_append, Nat.reduceLT, SZ, forall_const, true_implies, (ixv a).1, (ixv a).2.1, (ixv a).2.2, (ixv b).1, (ixv b).2.1, (ixv b).2.2, (ixv c).1, (ixv c).2.1, (ixv c).2.2]
  refine ⟨mo ha.y hb.z, mo ha.z hb.y, m2 hc.x ha.y hb.z ha.z hb.y, mo ha.x hb.z, mo ha.z hb.x, m2 hc.y ha.x hb.z ha.z hb.x, mo ha.x hb.y, mo ha.y hb.x, m2 hc.z ha.x hb.y ha.y hb.x, q⟩
end
end PB
set_option Elab.async false
set_option linter.all false
set_option maxRecDepth 10000
set_option maxHeartbeats 4000000
set_option exponentiation.threshold 20000
namespace PB
section
variable {s : LS} {Q : Rv → LS → Prop}
theorem S_llowT {n : Nat} {v : V3} (h : Prc v) (hb : Lt3 n v) (hn : n ≤ 6000) (q : Q (.dat (vd (lowV v))) s) : Sat (l_lowestF [vd v] s) Q :=
  S_llowest (ns := [v.1, v.2.1, v.2.2]) (.inl rfl) (mem3 ⟨h.x, ltUp hb.x hn⟩ ⟨h.y, ltUp hb.y hn⟩ ⟨h.z, ltUp hb.z hn⟩) (prc_gcd h) (by simp) q
theorem S_low2T {n : Nat} {v : V3} (h : Prc v) (hb : Lt3 n v) (hn : n ≤ 6000) (q : Q (.dat (vd (lowV v))) s) : Sat (lowest2F [vd v] s) Q :=
  S_lowest2 (ns := [v.1, v.2.1, v.2.2]) (.inl rfl) (mem3 (ltUp hb.x hn) (ltUp hb.y hn) (ltUp hb.z hn)) (prc_gcd h) (by simp) q
theorem eq_vd (u v : V3) : oEq (.dat (vd u)) (.dat (vd v)) = some (.dat (.bl (decide (u = v)))) := by
  show (eqD (vd u) (vd v)).map _ = _
  unfold eqD
  rw [if_pos ⟨rfl, rfl⟩]
  show some (Rv.dat (.bl (eqv (vd u) (vd v)))) = _
  rw [eqv_vd]
theorem is_tv (v : V3) : oIs .tuple (.dat (vd v)) = some (.dat (.bl true)) := rfl
theorem len_vd (v : V3) : oLen [.dat (vd v)] = some (.dat (.int ((3 : Nat) : Int))) := rfl
theorem items_vd {QI : List D → LS → Prop} {w : V3} {g : LS} : kItems QI (.dat (vd w)) g = QI [.int w.1, .int w.2.1, .int w.2.2] g := rfl
theorem items_shp {vs : List V3} {QI : List D → LS → Prop} {g : LS} : kItems QI (.dat (shp vs)) g = QI (vs.map vd) g := rfl
theorem len_shp (vs : List V3) : oLen [.dat (shp vs)] = some (.dat (.int (vs.length : Nat))) := by
  show some (Rv.dat (.int ((vs.map vd).length : Nat))) = _
  rw [List.length_map]
theorem S_isWho {i : Int} (q : Q (.dat (.bl true)) s) : Sat (is_wholeF [.int i] s) Q := q
theorem mem3D {P : D → Prop} {x y z : Int} (hx : P (.int x)) (hy : P (.int y)) (hz : P (.int z)) : ∀ d ∈ [D.int x, .int y, .int z], P d := by
  intro d hd
  rcases List.mem_cons.mp hd with rfl | hd
  · exact hx
  · rcases List.mem_cons.mp hd with rfl | hd
    · exact hy
    · rw [List.mem_singleton.mp hd]
      exact hz
theorem S_isCorner {n : Nat} {v : V3} (h : Prc v) (hl : lowV v = v) (hb : Lt3 n v) (hn : n ≤ 6000) (q : Q (.dat (.bl true)) s) : Sat (is_cornerF [vd v] s) Q := by
  unfold is_cornerF
  rw [S_def (k := 1) (ds := [vd v]) rfl]
  show Sat (is_cornerM [.dat (vd v), .un] s) _
  unfold is_cornerM
  have ne3 : oNe (.dat (.int ((3 : Nat) : Int))) (.dat (.int 3)) = some (.dat (.bl false)) := rfl
  have em : oSumA [.dat (vd v)] = some (.dat (.int (v.1 + (v.2.1 + (v.2.2 + 0))))) := rfl
  have m1 : decide (v.1 + (v.2.1 + (v.2.2 + 0)) = 0) = false := decide_eq_false (by have := h.x; have := h.y; have := h.z; have := h.n; omega)
  simp only [S_var, S_C, S_op1, k1_, S_op2, k2_, k2b_, S_nil, S_cons, kc_, kcb_, S_opN, kN_, S_tup, S_lst, kT_u, kL_u, stoL_nil, stoL_dat, stoL_own, consO_some, SatO_some, S_call, kCall_u, S_if, S_ifS, kI_true, kI_false, S_andV, S_orV, kAndV_true, kAndV_false, kOrV_true, kOrV_false, S_test, kTest_, S_tru, kTru_, S_and, S_or, S_not, kAnd_true, kAnd_false, kOr_true, kOr_false, kNot_, S_seq, kS_nx, kS_rt, kS_bk, kS_ct, S_pass, S_set, kSet_dat, kSet_own, S_par, kP_, kPb_, S_ret', kR_, S_retN, S_break, S_cont, S_for, kF_, S_forNil, kFb_nx, kFb_ct, kFb_bk, kFb_rt, S_items, kItems_tup, kItems_lst, kItems_own, S_lc, kLc_, S_lcNil, S_yes, kD_rt, kD_nx, Rv.ret, gt, st, kVar_dat, kVar_own, o_add, o_sub, o_eq, o_ne, o_lt, o_le, o_gt, o_ge, o_eqB, o_neB, o_is2, o_isnot2, o_abs, o_ix, o_ixO, o_ixB, o_ixL, o_tupO, o_isBool, map_some', wp, tgN_, List.length_cons, List.length_nil, Nat.reduceAdd, Nat.reduceLeDiff, true_and, decide_true, decide_false, Bool.not_true, Bool.not_false, o_mul_u, o_div_u, o_mod_u, o_pow_u, o_eqS, o_neS, o_intB, o_lenS, o_lenO, o_lenB, o_iaddI, S_s1, kS1_, kS1b_, S_lm, kLm_bor, kLm_own, kLmb_, S_tab, o_ixT, o_ixS, S_put, kPut_, kPutK_, S_zip2, kZip_, kZipb_tup, o_sum, o_sumB, o_tupB, o_tupL, o_lenT, S_range1, kRng_3, S_tgtL, kTgtL_, List.nil_append, List.cons_append, Nat.reduceLT, SZ, forall_const, true_implies, S_op1, k1_, is_tv, len_vd, ne3, items_vd]
  refine S_lcAll (by simp [SZ]) (mem3D (P := fun d => ∃ e1, tgN 1 d [.dat (vd v), .un] = some e1 ∧ _) ?_ ?_ ?_) fun k => ?_
  · refine ⟨_, rfl, ?_⟩
    simp only [S_var, S_C, S_op1, k1_, S_op2, k2_, k2b_, S_nil, S_cons, kc_, kcb_, S_opN, kN_, S_tup, S_lst, kT_u, kL_u, stoL_nil, stoL_dat, stoL_own, consO_some, SatO_some, S_call, kCall_u, S_if, S_ifS, kI_true, kI_false, S_andV, S_orV, kAndV_true, kAndV_false, kOrV_true, kOrV_false, S_test, kTest_, S_tru, kTru_, S_and, S_or, S_not, kAnd_true, kAnd_false, kOr_true, kOr_false, kNot_, S_seq, kS_nx, kS_rt, kS_bk, kS_ct, S_pass, S_set, kSet_dat, kSet_own, S_par, kP_, kPb_, S_ret', kR_, S_retN, S_break, S_cont, S_for, kF_, S_forNil, kFb_nx, kFb_ct, kFb_bk, kFb_rt, S_items, kItems_tup, kItems_lst, kItems_own, S_lc, kLc_, S_lcNil, S_yes, kD_rt, kD_nx, Rv.ret, gt, st, kVar_dat, kVar_own, o_add, o_sub, o_eq, o_ne, o_lt, o_le, o_gt, o_ge, o_eqB, o_neB, o_is2, o_isnot2, o_abs, o_ix, o_ixO, o_ixB, o_ixL, o_tupO, o_isBool, map_some', wp, tgN_, List.length_cons, List.length_nil, Nat.reduceAdd, Nat.reduceLeDiff, true_and, decide_true, decide_false, Bool.not_true, Bool.not_false, o_mul_u, o_div_u, o_mod_u, o_pow_u, o_eqS, o_neS, o_intB, o_lenS, o_lenO, o_lenB, o_iaddI, S_s1, kS1_, kS1b_, S_lm, kLm_bor, kLm_own, kLmb_, S_tab, o_ixT, o_ixS, S_put, kPut_, kPutK_, S_zip2, kZip_, kZipb_tup, o_sum, o_sumB, o_tupB, o_tupL, o_lenT, S_range1, kRng_3, S_tgtL, kTgtL_, List.nil_append, List.cons_append, Nat.reduceLT, SZ, forall_const, true_implies]
    refine S_isWho ?_
    simp only [S_var, S_C, S_op1, k1_, S_op2, k2_, k2b_, S_nil, S_cons, kc_, kcb_, S_opN, kN_, S_tup, S_lst, kT_u, kL_u, stoL_nil, stoL_dat, stoL_own, consO_some, SatO_some, S_call, kCall_u, S_if, S_ifS, kI_true, kI_false, S_andV, S_orV, kAndV_true, kAndV_false, kOrV_true, kOrV_false, S_test, kTest_, S_tru, kTru_, S_and, S_or, S_not, kAnd_true, kAnd_false, kOr_true, kOr_false, kNot_, S_seq, kS_nx, kS_rt, kS_bk, kS_ct, S_pass, S_set, kSet_dat, kSet_own, S_par, kP_, kPb_, S_ret', kR_, S_retN, S_break, S_cont, S_for, kF_, S_forNil, kFb_nx, kFb_ct, kFb_bk, kFb_rt, S_items, kItems_tup, kItems_lst, kItems_own, S_lc, kLc_, S_lcNil, S_yes, kD_rt, kD_nx, Rv.ret, gt, st, kVar_dat, kVar_own, o_add, o_sub, o_eq, o_ne, o_lt, o_le, o_gt, o_ge, o_eqB, o_neB, o_is2, o_isnot2, o_abs, o_ix, o_ixO, o_ixB, o_ixL, o_tupO, o_isBool, map_some', wp, tgN_, List.length_cons, List.length_nil, Nat.reduceAdd, Nat.reduceLeDiff, true_and, decide_true, decide_false, Bool.not_true, Bool.not_false, o_mul_u, o_div_u, o_mod_u, o_pow_u, o_eqS, o_neS, o_intB, o_lenS, o_lenO, o_lenB, o_iaddI, S_s1, kS1_, kS1b_, S_lm, kLm_bor, kLm_own, kLmb_, S_tab, o_ixT, o_ixS, S_put, kPut_, kPutK_, S_zip2, kZip_, kZipb_tup, o_sum, o_sumB, o_tupB, o_tupL, o_lenT, S_range1, kRng_3, S_tgtL, kTgtL_, List.nil_append, List.cons_append, Nat.reduceLT, SZ, forall_const, true_implies, o_ge, decide_eq_true h.x]
  · refine ⟨_, rfl, ?_⟩
    simp only [S_var, S_C, S_op1, k1_, S_op2, k2_, k2b_, S_nil, S_cons, kc_, kcb_, S_opN, kN_, S_tup, S_lst, kT_u, kL_u, stoL_nil, stoL_dat, stoL_own, consO_some, SatO_some, S_call, kCall_u, S_if, S_ifS, kI_true, kI_false, S_andV, S_orV, kAndV_true, kAndV_false, kOrV_true, kOrV_false, S_test, kTest_, S_tru, kTru_, S_and, S_or, S_not, kAnd_true, kAnd_false, kOr_true, kOr_false, kNot_, S_seq, kS_nx, kS_rt, kS_bk, kS_ct, S_pass, S_set, kSet_dat, kSet_own, S_par, kP_, kPb_, S_ret', kR_, S_retN, S_break, S_cont, S_for, kF_, S_forNil, kFb_nx, kFb_ct, kFb_bk, kFb_rt, S_items, kItems_tup, kItems_lst, kItems_own, S_lc, kLc_, S_lcNil, S_yes, kD_rt, kD_nx, Rv.ret, gt, st, kVar_dat, kVar_own, o_add, o_sub, o_eq, o_ne, o_lt, o_le, o_gt, o_ge, o_eqB, o_neB, o_is2, o_isnot2, o_abs, o_ix, o_ixO, o_ixB, o_ixL, o_tupO, o_isBool, map_some', wp, tgN_, List.length_cons, List.length_nil, Nat.reduceAdd, Nat.reduceLeDiff, true_and, decide_true, decide_false, Bool.not_true, Bool.not_false, o_mul_u, o_div_u, o_mod_u, o_pow_u, o_eqS, o_neS, o_intB, o_lenS, o_lenO, o_lenB, o_iaddI, S_s1, kS1_, kS1b_, S_lm, kLm_bor, kLm_own, kLmb_, S_tab, o_ixT, o_ixS, S_put, kPut_, kPutK_, S_zip2, kZip_, kZipb_tup, o_sum, o_sumB, o_tupB, o_tupL, o_lenT, S_range1, kRng_3, S_tgtL, kTgtL_, List.nil_append, List.cons_append, Nat.reduceLT, SZ, forall_const, true_implies]
    refine S_isWho ?_
    simp only [S_var, S_C, S_op1, k1_, S_op2, k2_, k2b_, S_nil, S_cons, kc_, kcb_, S_opN, kN_, S_tup, S_lst, kT_u, kL_u, stoL_nil, stoL_dat, stoL_own, consO_some, SatO_some, S_call, kCall_u, S_if, S_ifS, kI_true, kI_false, S_andV, S_orV, kAndV_true, kAndV_false, kOrV_true, kOrV_false, S_test, kTest_, S_tru, kTru_, S_and, S_or, S_not, kAnd_true, kAnd_false, kOr_true, kOr_false, kNot_, S_seq, kS_nx, kS_rt, kS_bk, kS_ct, S_pass, S_set, kSet_dat, kSet_own, S_par, kP_, kPb_, S_ret', kR_, S_retN, S_break, S_cont, S_for, kF_, S_forNil, kFb_nx, kFb_ct, kFb_bk, kFb_rt, S_items, kItems_tup, kItems_lst, kItems_own, S_lc, kLc_, S_lcNil, S_yes, kD_rt, kD_nx, Rv.ret, gt, st, kVar_dat, kVar_own, o_add, o_sub, o_eq, o_ne, o_lt, o_le, o_gt, o_ge, o_eqB, o_neB, o_is2, o_isnot2, o_abs, o_ix, o_ixO, o_ixB, o_ixL, o_tupO, o_isBool, map_some', wp, tgN_, List.length_cons, List.length_nil, Nat.reduceAdd, Nat.reduceLeDiff, true_and, decide_true, decide_false, Bool.not_true, Bool.not_false, o_mul_u, o_div_u, o_mod_u, o_pow_u, o_eqS, o_neS, o_intB, o_lenS, o_lenO, o_lenB, o_iaddI, S_s1, kS1_, kS1b_, S_lm, kLm_bor, kLm_own, kLmb_, S_tab, o_ixT, o_ixS, S_put, kPut_, kPutK_, S_zip2, kZip_, kZipb_tup, o_sum, o_sumB, o_tupB, o_tupL, o_lenT, S_range1, kRng_3, S_tgtL, kTgtL_, List.nil_append, List.cons_append, Nat.reduceLT, SZ, forall_const, true_implies, o_ge, decide_eq_true h.y]
  · refine ⟨_, rfl, ?_⟩
    simp only [S_var, S_C, S_op1, k1_, S_op2, k2_, k2b_, S_nil, S_cons, kc_, kcb_, S_opN, kN_, S_tup, S_lst, kT_u, kL_u, stoL_nil, stoL_dat, stoL_own, consO_some, SatO_some, S_call, kCall_u, S_if, S_ifS, kI_true, kI_false, S_andV, S_orV, kAndV_true, kAndV_false, kOrV_true, kOrV_false, S_test, kTest_, S_tru, kTru_, S_and, S_or, S_not, kAnd_true, kAnd_false, kOr_true, kOr_false, kNot_, S_seq, kS_nx, kS_rt, kS_bk, kS_ct, S_pass, S_set, kSet_dat, kSet_own, S_par, kP_, kPb_, S_ret', kR_, S_retN, S_break, S_cont, S_for, kF_, S_forNil, kFb_nx, kFb_ct, kFb_bk, kFb_rt, S_items, kItems_tup, kItems_lst, kItems_own, S_lc, kLc_, S_lcNil, S_yes, kD_rt, kD_nx, Rv.ret, gt, st, kVar_dat, kVar_own, o_add, o_sub, o_eq, o_ne, o_lt, o_le, o_gt, o_ge, o_eqB, o_neB, o_is2, o_isnot2, o_abs, o_ix, o_ixO, o_ixB, o_ixL, o_tupO, o_isBool, map_some', wp, tgN_, List.length_cons, List.length_nil, Nat.reduceAdd, Nat.reduceLeDiff, true_and, decide_true, decide_false, Bool.not_true, Bool.not_false, o_mul_u, o_div_u, o_mod_u, o_pow_u, o_eqS, o_neS, o_intB, o_lenS, o_lenO, o_lenB, o_iaddI, S_s1, kS1_, kS1b_, S_lm, kLm_bor, kLm_own, kLmb_, S_tab, o_ixT, o_ixS, S_put, kPut_, kPutK_, S_zip2, kZip_, kZipb_tup, o_sum, o_sumB, o_tupB, o_tupL, o_lenT, S_range1, kRng_3, S_tgtL, kTgtL_, List.nil_append, List.cons_append, Nat.reduceLT, SZ, forall_const, true_implies]
    refine S_isWho ?_
    simp only [S_var, S_C, S_op1, k1_, S_op2, k2_, k2b_, S_nil, S_cons, kc_, kcb_, S_opN, kN_, S_tup, S_lst, kT_u, kL_u, stoL_nil, stoL_dat, stoL_own, consO_some, SatO_some, S_call, kCall_u, S_if, S_ifS, kI_true, kI_false, S_andV, S_orV, kAndV_true, kAndV_false, kOrV_true, kOrV_false, S_test, kTest_, S_tru, kTru_, S_and, S_or, S_not, kAnd_true, kAnd_false, kOr_true, kOr_false, kNot_, S_seq, kS_nx, kS_rt, kS_bk, kS_ct, S_pass, S_set, kSet_dat, kSet_own, S_par, kP_, kPb_, S_ret', kR_, S_retN, S_break, S_cont, S_for, kF_, S_forNil, kFb_nx, kFb_ct, kFb_bk, kFb_rt, S_items, kItems_tup, kItems_lst, kItems_own, S_lc, kLc_, S_lcNil, S_yes, kD_rt, kD_nx, Rv.ret, gt, st, kVar_dat, kVar_own, o_add, o_sub, o_eq, o_ne, o_lt, o_le, o_gt, o_ge, o_eqB, o_neB, o_is2, o_isnot2, o_abs, o_ix, o_ixO, o_ixB, o_ixL, o_tupO, o_isBool, map_some', wp, tgN_, List.length_cons, List.length_nil, Nat.reduceAdd, Nat.reduceLeDiff, true_and, decide_true, decide_false, Bool.not_true, Bool.not_false, o_mul_u, o_div_u, o_mod_u, o_pow_u, o_eqS, o_neS, o_intB, o_lenS, o_lenO, o_lenB, o_iaddI, S_s1, kS1_, kS1b_, S_lm, kLm_bor, kLm_own, kLmb_, S_tab, o_ixT, o_ixS, S_put, kPut_, kPutK_, S_zip2, kZip_, kZipb_tup, o_sum, o_sumB, o_tupB, o_tupL, o_lenT, S_range1, kRng_3, S_tgtL, kTgtL_, List.nil_append, List.cons_append, Nat.reduceLT, SZ, forall_const, true_implies, o_ge, decide_eq_true h.z]
  simp only [S_var, S_C, S_op1, k1_, S_op2, k2_, k2b_, S_nil, S_cons, kc_, kcb_, S_opN, kN_, S_tup, S_lst, kT_u, kL_u, stoL_nil, stoL_dat, stoL_own, consO_some, SatO_some, S_call, kCall_u, S_if, S_ifS, kI_true, kI_false, S_andV, S_orV, kAndV_true, kAndV_false, kOrV_true, kOrV_false, S_test, kTest_, S_tru, kTru_, S_and, S_or, S_not, kAnd_true, kAnd_false, kOr_true, kOr_false, kNot_, S_seq, kS_nx, kS_rt, kS_bk, kS_ct, S_pass, S_set, kSet_dat, kSet_own, S_par, kP_, kPb_, S_ret', kR_, S_retN, S_break, S_cont, S_for, kF_, S_forNil, kFb_nx, kFb_ct, kFb_bk, kFb_rt, S_items, kItems_tup, kItems_lst, kItems_own, S_lc, kLc_, S_lcNil, S_yes, kD_rt, kD_nx, Rv.ret, gt, st, kVar_dat, kVar_own, o_add, o_sub, o_eq, o_ne, o_lt, o_le, o_gt, o_ge, o_eqB, o_neB, o_is2, o_isnot2, o_abs, o_ix, o_ixO, o_ixB, o_ixL, o_tupO, o_isBool, map_some', wp, tgN_, List.length_cons, List.length_nil, Nat.reduceAdd, Nat.reduceLeDiff, true_and, decide_true, decide_false, Bool.not_true, Bool.not_false, o_mul_u, o_div_u, o_mod_u, o_pow_u, o_eqS, o_neS, o_intB, o_lenS, o_lenO, o_lenB, o_iaddI, S_s1, kS1_, kS1b_, S_lm, kLm_bor, kLm_own, kLmb_, S_tab, o_ixT, o_ixS, S_put, kPut_, kPutK_, S_zip2, kZip_, kZipb_tup, o_sum, o_sumB, o_tupB, o_tupL, o_lenT, S_range1, kRng_3, S_tgtL, kTgtL_, List.nil_append, List.cons_append, Nat.reduceLT, SZ, forall_const, true_implies, o_all_rep, em, m1]
  refine S_low2T h hb hn ?_
  simp only [S_var, S_C, S_op1, k1_, S_op2, k2_, k2b_, S_nil, S_cons, kc_, kcb_, S_opN, kN_, S_tup, S_lst, kT_u, kL_u, stoL_nil, stoL_dat, stoL_own, consO_some, SatO_some, S_call, kCall_u, S_if, S_ifS, kI_true, kI_false, S_andV, S_orV, kAndV_true, kAndV_false, kOrV_true, kOrV_false, S_test, kTest_, S_tru, kTru_, S_and, S_or, S_not, kAnd_true, kAnd_false, kOr_true, kOr_false, kNot_, S_seq, kS_nx, kS_rt, kS_bk, kS_ct, S_pass, S_set, kSet_dat, kSet_own, S_par, kP_, kPb_, S_ret', kR_, S_retN, S_break, S_cont, S_for, kF_, S_forNil, kFb_nx, kFb_ct, kFb_bk, kFb_rt, S_items, kItems_tup, kItems_lst, kItems_own, S_lc, kLc_, S_lcNil, S_yes, kD_rt, kD_nx, Rv.ret, gt, st, kVar_dat, kVar_own, o_add, o_sub, o_eq, o_ne, o_lt, o_le, o_gt, o_ge, o_eqB, o_neB, o_is2, o_isnot2, o_abs, o_ix, o_ixO, o_ixB, o_ixL, o_tupO, o_isBool, map_some', wp, tgN_, List.length_cons, List.length_nil, Nat.reduceAdd, Nat.reduceLeDiff, true_and, decide_true, decide_false, Bool.not_true, Bool.not_false, o_mul_u, o_div_u, o_mod_u, o_pow_u, o_eqS, o_neS, o_intB, o_lenS, o_lenO, o_lenB, o_iaddI, S_s1, kS1_, kS1b_, S_lm, kLm_bor, kLm_own, kLmb_, S_tab, o_ixT, o_ixS, S_put, kPut_, kPutK_, S_zip2, kZip_, kZipb_tup, o_sum, o_sumB, o_tupB, o_tupL, o_lenT, S_range1, kRng_3, S_tgtL, kTgtL_, List.nil_append, List.cons_append, Nat.reduceLT, SZ, forall_const, true_implies, eq_vd, hl, decide_true]
  exact q
end
end PB
set_option Elab.async false
set_option linter.all false
set_option maxRecDepth 10000
set_option maxHeartbeats 4000000
set_option exponentiation.threshold 20000
namespace PB
section
variable {s : LS} {Q : Rv → LS → Prop}
theorem kRngU {γ : Type} {QI : List D → γ → Prop} {g : γ} {n : Nat} (hn : n ≤ 1000) (q : QI ((List.range n).map fun k => D.int (k : Nat)) g) : kRng QI (.dat (.int (n : Nat))) g := by
  rw [kRng_]
  refine ⟨rng_ok hn, ?_⟩
  rw [Int.toNat_natCast, rng_map]
  simp only [Int.zero_add]
  exact q
theorem ix_shp {vs : List V3} {k : Nat} (h : k < vs.length) : oIx (.dat (shp vs)) (.dat (.int (k : Nat))) = some (.dat (vd (vs.getD k (0, 0, 0)))) := by
  show (atI (vs.map vd) ((k : Nat) : Int)).map Rv.dat = _
  rw [at_vd h]
  rfl
theorem ix_shp1 {vs : List V3} {k : Nat} (h : k < vs.length) : oIx (.dat (shp vs)) (.dat (.int (((k : Nat) : Int) - 1))) = some (.dat (vd (prevV vs k))) := by
  show (atI (vs.map vd) (((k : Nat) : Int) - 1)).map Rv.dat = _
  rw [at_prev h]
  rfl
theorem ltD_vd (u v : V3) : oLtD (.dat (vd u)) (.dat (vd v)) = some (.dat (.bl (ltV u v))) := by
  show (if alkD (vd u) (vd v) = true ∧ okE 60 (vd u) = true ∧ okE 60 (vd v) = true then some (dB (ltD (vd u) (vd v))) else none) = _
  rw [if_pos ⟨rfl, rfl, rfl⟩, lt_vd]
  rfl
theorem cut_shp1 {vs : List V3} : oCut (.dat (shp vs)) (some 1) none = some (.dat (shp (vs.drop 1))) := by
  show some (Rv.dat (.tup (cut (vs.map vd) (some ((1 : Nat) : Int)) none))) = _
  rw [cutLoI, ← List.map_drop]
  rfl
theorem prev_mod {k n : Nat} (hk : k < n) : (((k : Nat) : Int) - 1) % ((n : Nat) : Int) = (((k + n - 1) % n : Nat) : Int) := by
  rw [Int.natCast_emod]
  have e : ((k + n - 1 : Nat) : Int) = (((k : Nat) : Int) - 1) + ((n : Nat) : Int) := by omega
  rw [e, Int.add_emod_right]
theorem S_rangeU {r : MA LS} {e : Env} {g : LS} {QI : List D → LS → Prop} : Sat (mRangeA r e g) QI = Sat (r e g) (fun xs g => SatO (rngA xs) QI g) := by
  unfold mRangeA
  rw [Sat_bind]
  congr 1
  funext xs g
  exact Sat_ofO _ _ _
theorem S_goesRound {n k : Nat} {vs : List V3} (h : ShpS n k vs) (hn : n ≤ 6000) (hk : k ≤ 400) (q : Q (.dat (.bl true)) s) : Sat (goes_roundF [shp vs] s) Q := by
  have hle := h.le
  have hge := h.ge
  unfold goes_roundF
  rw [S_def (k := 1) (ds := [shp vs]) rfl]
  show Sat (goes_roundM [.dat (shp vs), .un, .un, .un] s) _
  unfold goes_roundM
  simp only [S_var, S_C, S_op1, k1_, S_op2, k2_, k2b_, S_nil, S_cons, kc_, kcb_, S_opN, kN_, S_tup, S_lst, kT_u, kL_u, stoL_nil, stoL_dat, stoL_own, consO_some, SatO_some, S_call, kCall_u, S_if, S_ifS, kI_true, kI_false, S_andV, S_orV, kAndV_true, kAndV_false, kOrV_true, kOrV_false, S_test, kTest_, S_tru, kTru_, S_and, S_or, S_not, kAnd_true, kAnd_false, kOr_true, kOr_false, kNot_, S_seq, kS_nx, kS_rt, kS_bk, kS_ct, S_pass, S_set, kSet_dat, kSet_own, S_par, kP_, kPb_, S_ret', kR_, S_retN, S_break, S_cont, S_for, kF_, S_forNil, kFb_nx, kFb_ct, kFb_bk, kFb_rt, S_items, kItems_tup, kItems_lst, kItems_own, S_lc, kLc_, S_lcNil, S_yes, kD_rt, kD_nx, Rv.ret, gt, st, kVar_dat, kVar_own, o_add, o_sub, o_eq, o_ne, o_lt, o_le, o_gt, o_ge, o_eqB, o_neB, o_is2, o_isnot2, o_abs, o_ix, o_ixO, o_ixB, o_ixL, o_tupO, o_isBool, map_some', wp, tgN_, List.length_cons, List.length_nil, Nat.reduceAdd, Nat.reduceLeDiff, true_and, decide_true, decide_false, Bool.not_true, Bool.not_false, o_mul_u, o_div_u, o_mod_u, o_pow_u, o_eqS, o_neS, o_intB, o_lenS, o_lenO, o_lenB, o_iaddI, S_s1, kS1_, kS1b_, S_lm, kLm_bor, kLm_own, kLmb_, S_tab, o_ixT, o_ixS, S_put, kPut_, kPutK_, S_zip2, kZip_, kZipb_tup, o_sum, o_sumB, o_tupB, o_tupL, o_lenT, S_range1, kRng_3, S_tgtL, kTgtL_, List.nil_append, List.cons_append, Nat.reduceLT, SZ, forall_const, true_implies, len_shp]
  refine kRngU (by omega) ?_
  rw [kF_]
  refine S_forA (List.range vs.length) (fun k => D.int (k : Nat)) (fun pre post e g => ∃ x2 x3 : Sl, g = s ∧ e = [.dat (shp vs), .dat (.int (vs.length : Nat)), x2, x3]) ⟨_, _, rfl, rfl⟩ ?_ ?_
  · rintro pre j post e g hr ⟨x2, x3, rfl, rfl⟩
    refine ⟨_, rfl, ?_⟩
    have hj : j < vs.length := List.mem_range.mp (by rw [hr]; simp)
    have hA := h.pr _ (prev_mem hj)
    have hB := h.pr _ (getD_memV hj)
    have er : rngA [.dat (.int (((j : Nat) : Int) + 1)), .dat (.int (((j : Nat) : Int) + ((vs.length : Nat) : Int) - 1))] = some ((List.range (vs.length - 2)).map fun i => D.int ((j + 1 + i : Nat) : Int)) := by
      show (if RngOk (((j : Nat) : Int) + 1) ∧ RngOk (((j : Nat) : Int) + ((vs.length : Nat) : Int) - 1) then some (rng (((j : Nat) : Int) + 1) (((j : Nat) : Int) + ((vs.length : Nat) : Int) - 1 - (((j : Nat) : Int) + 1)).toNat) else none) = _
      have e1 : ((j : Nat) : Int) + 1 = ((j + 1 : Nat) : Int) := rfl
      have e2 : ((j : Nat) : Int) + ((vs.length : Nat) : Int) - 1 = ((j + vs.length - 1 : Nat) : Int) := by omega
      rw [e2, e1, if_pos ⟨rng_ok (by omega), rng_ok (by omega)⟩, rng_map]
      have e3 : (((j + vs.length - 1 : Nat) : Int) - ((j + 1 : Nat) : Int)).toNat = vs.length - 2 := by omega
      rw [e3]
      congr 1
    simp only [S_for, S_rangeU, S_cons, S_nil, S_op2, S_var, gt, st, kVar_dat, k2_, S_C, k2b_, o_add, o_sub, SatO_some, kc_, kcb_, er, kF_]
    refine S_forA (List.range (vs.length - 2)) (fun i => D.int ((j + 1 + i : Nat) : Int)) (fun pre post e g' => ∃ x3 : Sl, g' = g ∧ e = [.dat (shp vs), .dat (.int (vs.length : Nat)), .dat (.int (j : Nat)), x3]) ⟨_, rfl, rfl⟩ ?_ ?_
    · rintro pre i post e g' hr ⟨x3, rfl, rfl⟩
      refine ⟨_, rfl, ?_⟩
      have hi : i < vs.length - 2 := List.mem_range.mp (by rw [hr]; simp)
      have hm : (j + 1 + i) % vs.length < vs.length := Nat.mod_lt _ (by omega)
      have hC := h.pr _ (getD_memV hm)
      have hix := ix_shp hm
      have ne1 : (j + 1 + i) % vs.length ≠ j := by
        rcases Nat.lt_or_ge (j + 1 + i) vs.length with z | z
        · rw [Nat.mod_eq_of_lt z]
          omega
        · rw [Nat.mod_eq_sub_mod z, Nat.mod_eq_of_lt (by omega)]
          omega
      have ne2 : (j + 1 + i) % vs.length ≠ (j + vs.length - 1) % vs.length := by
        have e2 : (j + vs.length - 1) % vs.length = if j = 0 then vs.length - 1 else j - 1 := by
          split
          · rename_i h0
            rw [h0, Nat.zero_add, Nat.mod_eq_of_lt (by omega)]
          · rw [show j + vs.length - 1 = (j - 1) + vs.length by omega, Nat.add_mod_right, Nat.mod_eq_of_lt (by omega)]
        rw [e2]
        rcases Nat.lt_or_ge (j + 1 + i) vs.length with z | z
        · rw [Nat.mod_eq_of_lt z]
          split <;> omega
        · rw [Nat.mod_eq_sub_mod z, Nat.mod_eq_of_lt (by omega)]
          split <;> omega
      have em : ((j + 1 + i : Nat) : Int) % ((vs.length : Nat) : Int) = (((j + 1 + i) % vs.length : Nat) : Int) := rfl
      simp only [S_var, S_C, S_op1, k1_, S_op2, k2_, k2b_, S_nil, S_cons, kc_, kcb_, S_opN, kN_, S_tup, S_lst, kT_u, kL_u, stoL_nil, stoL_dat, stoL_own, consO_some, SatO_some, S_call, kCall_u, S_if, S_ifS, kI_true, kI_false, S_andV, S_orV, kAndV_true, kAndV_false, kOrV_true, kOrV_false, S_test, kTest_, S_tru, kTru_, S_and, S_or, S_not, kAnd_true, kAnd_false, kOr_true, kOr_false, kNot_, S_seq, kS_nx, kS_rt, kS_bk, kS_ct, S_pass, S_set, kSet_dat, kSet_own, S_par, kP_, kPb_, S_ret', kR_, S_retN, S_break, S_cont, S_for, kF_, S_forNil, kFb_nx, kFb_ct, kFb_bk, kFb_rt, S_items, kItems_tup, kItems_lst, kItems_own, S_lc, kLc_, S_lcNil, S_yes, kD_rt, kD_nx, Rv.ret, gt, st, kVar_dat, kVar_own, o_add, o_sub, o_eq, o_ne, o_lt, o_le, o_gt, o_ge, o_eqB, o_neB, o_is2, o_isnot2, o_abs, o_ix, o_ixO, o_ixB, o_ixL, o_tupO, o_isBool, map_some', wp, tgN_, List.length_cons, List.length_nil, Nat.reduceAdd, Nat.reduceLeDiff, true_and, decide_true, decide_false, Bool.not_true, Bool.not_false, o_mul_u, o_div_u, o_mod_u, o_pow_u, o_eqS, o_neS, o_intB, o_lenS, o_lenO, o_lenB, o_iaddI, S_s1, kS1_, kS1b_, S_lm, kLm_bor, kLm_own, kLmb_, S_tab, o_ixT, o_ixS, S_put, kPut_, kPutK_, S_zip2, kZip_, kZipb_tup, o_sum, o_sumB, o_tupB, o_tupL, o_lenT, S_range1, kRng_3, S_tgtL, kTgtL_, List.nil_append, List.cons_append, Nat.reduceLT, SZ, forall_const, true_implies, ix_shp hj, ix_shp1 hj, em]
      refine ⟨by omega, ?_⟩
      simp only [S_var, S_C, S_op1, k1_, S_op2, k2_, k2b_, S_nil, S_cons, kc_, kcb_, S_opN, kN_, S_tup, S_lst, kT_u, kL_u, stoL_nil, stoL_dat, stoL_own, consO_some, SatO_some, S_call, kCall_u, S_if, S_ifS, kI_true, kI_false, S_andV, S_orV, kAndV_true, kAndV_false, kOrV_true, kOrV_false, S_test, kTest_, S_tru, kTru_, S_and, S_or, S_not, kAnd_true, kAnd_false, kOr_true, kOr_false, kNot_, S_seq, kS_nx, kS_rt, kS_bk, kS_ct, S_pass, S_set, kSet_dat, kSet_own, S_par, kP_, kPb_, S_ret', kR_, S_retN, S_break, S_cont, S_for, kF_, S_forNil, kFb_nx, kFb_ct, kFb_bk, kFb_rt, S_items, kItems_tup, kItems_lst, kItems_own, S_lc, kLc_, S_lcNil, S_yes, kD_rt, kD_nx, Rv.ret, gt, st, kVar_dat, kVar_own, o_add, o_sub, o_eq, o_ne, o_lt, o_le, o_gt, o_ge, o_eqB, o_neB, o_is2, o_isnot2, o_abs, o_ix, o_ixO, o_ixB, o_ixL, o_tupO, o_isBool, map_some', wp, tgN_, List.length_cons, List.length_nil, Nat.reduceAdd, Nat.reduceLeDiff, true_and, decide_true, decide_false, Bool.not_true, Bool.not_false, o_mul_u, o_div_u, o_mod_u, o_pow_u, o_eqS, o_neS, o_intB, o_lenS, o_lenO, o_lenB, o_iaddI, S_s1, kS1_, kS1b_, S_lm, kLm_bor, kLm_own, kLmb_, S_tab, o_ixT, o_ixS, S_put, kPut_, kPutK_, S_zip2, kZip_, kZipb_tup, o_sum, o_sumB, o_tupB, o_tupL, o_lenT, S_range1, kRng_3, S_tgtL, kTgtL_, List.nil_append, List.cons_append, Nat.reduceLT, SZ, forall_const, true_implies, hix]
      refine S_turnOf hA.2 hB.2 hC.2 (by omega) ?_
      have hp := h.tri.edge hj hm ne1 ne2
      have d3 : decide (det (prevV vs j) (vs.getD j (0, 0, 0)) (vs.getD ((j + 1 + i) % vs.length) (0, 0, 0)) ≤ 0) = false := decide_eq_false (by omega)
      simp only [S_var, S_C, S_op1, k1_, S_op2, k2_, k2b_, S_nil, S_cons, kc_, kcb_, S_opN, kN_, S_tup, S_lst, kT_u, kL_u, stoL_nil, stoL_dat, stoL_own, consO_some, SatO_some, S_call, kCall_u, S_if, S_ifS, kI_true, kI_false, S_andV, S_orV, kAndV_true, kAndV_false, kOrV_true, kOrV_false, S_test, kTest_, S_tru, kTru_, S_and, S_or, S_not, kAnd_true, kAnd_false, kOr_true, kOr_false, kNot_, S_seq, kS_nx, kS_rt, kS_bk, kS_ct, S_pass, S_set, kSet_dat, kSet_own, S_par, kP_, kPb_, S_ret', kR_, S_retN, S_break, S_cont, S_for, kF_, S_forNil, kFb_nx, kFb_ct, kFb_bk, kFb_rt, S_items, kItems_tup, kItems_lst, kItems_own, S_lc, kLc_, S_lcNil, S_yes, kD_rt, kD_nx, Rv.ret, gt, st, kVar_dat, kVar_own, o_add, o_sub, o_eq, o_ne, o_lt, o_le, o_gt, o_ge, o_eqB, o_neB, o_is2, o_isnot2, o_abs, o_ix, o_ixO, o_ixB, o_ixL, o_tupO, o_isBool, map_some', wp, tgN_, List.length_cons, List.length_nil, Nat.reduceAdd, Nat.reduceLeDiff, true_and, decide_true, decide_false, Bool.not_true, Bool.not_false, o_mul_u, o_div_u, o_mod_u, o_pow_u, o_eqS, o_neS, o_intB, o_lenS, o_lenO, o_lenB, o_iaddI, S_s1, kS1_, kS1b_, S_lm, kLm_bor, kLm_own, kLmb_, S_tab, o_ixT, o_ixS, S_put, kPut_, kPutK_, S_zip2, kZip_, kZipb_tup, o_sum, o_sumB, o_tupB, o_tupL, o_lenT, S_range1, kRng_3, S_tgtL, kTgtL_, List.nil_append, List.cons_append, Nat.reduceLT, SZ, forall_const, true_implies, d3]
      exact ⟨_, rfl⟩
    · rintro e g' ⟨x3, rfl, rfl⟩
      exact ⟨_, _, rfl, rfl⟩
  · rintro e g ⟨x2, x3, rfl, rfl⟩
    simp only [S_var, S_C, S_op1, k1_, S_op2, k2_, k2b_, S_nil, S_cons, kc_, kcb_, S_opN, kN_, S_tup, S_lst, kT_u, kL_u, stoL_nil, stoL_dat, stoL_own, consO_some, SatO_some, S_call, kCall_u, S_if, S_ifS, kI_true, kI_false, S_andV, S_orV, kAndV_true, kAndV_false, kOrV_true, kOrV_false, S_test, kTest_, S_tru, kTru_, S_and, S_or, S_not, kAnd_true, kAnd_false, kOr_true, kOr_false, kNot_, S_seq, kS_nx, kS_rt, kS_bk, kS_ct, S_pass, S_set, kSet_dat, kSet_own, S_par, kP_, kPb_, S_ret', kR_, S_retN, S_break, S_cont, S_for, kF_, S_forNil, kFb_nx, kFb_ct, kFb_bk, kFb_rt, S_items, kItems_tup, kItems_lst, kItems_own, S_lc, kLc_, S_lcNil, S_yes, kD_rt, kD_nx, Rv.ret, gt, st, kVar_dat, kVar_own, o_add, o_sub, o_eq, o_ne, o_lt, o_le, o_gt, o_ge, o_eqB, o_neB, o_is2, o_isnot2, o_abs, o_ix, o_ixO, o_ixB, o_ixL, o_tupO, o_isBool, map_some', wp, tgN_, List.length_cons, List.length_nil, Nat.reduceAdd, Nat.reduceLeDiff, true_and, decide_true, decide_false, Bool.not_true, Bool.not_false, o_mul_u, o_div_u, o_mod_u, o_pow_u, o_eqS, o_neS, o_intB, o_lenS, o_lenO, o_lenB, o_iaddI, S_s1, kS1_, kS1b_, S_lm, kLm_bor, kLm_own, kLmb_, S_tab, o_ixT, o_ixS, S_put, kPut_, kPutK_, S_zip2, kZip_, kZipb_tup, o_sum, o_sumB, o_tupB, o_tupL, o_lenT, S_range1, kRng_3, S_tgtL, kTgtL_, List.nil_append, List.cons_append, Nat.reduceLT, SZ, forall_const, true_implies]
    exact q
theorem S_isShape {n k : Nat} {vs : List V3} (h : ShpS n k vs) (hn : n ≤ 6000) (hk : k ≤ 400) (q : Q (.dat (.bl true)) s) : Sat (is_shapeF [shp vs] s) Q := by
  have hle := h.le
  have hge := h.ge
  unfold is_shapeF
  rw [S_def (k := 1) (ds := [shp vs]) rfl]
  show Sat (is_shapeM [.dat (shp vs), .un, .un] s) _
  unfold is_shapeM
  have it : oIs .tuple (.dat (shp vs)) = some (.dat (.bl true)) := rfl
  have l3 : decide (((vs.length : Nat) : Int) < 3) = false := decide_eq_false (by omega)
  have i0 : oIx (.dat (shp vs)) (.dat (.int 0)) = some (.dat (vd (vs.getD 0 (0, 0, 0)))) := ix_shp (k := 0) (by omega)
  simp only [S_var, S_C, S_op1, k1_, S_op2, k2_, k2b_, S_nil, S_cons, kc_, kcb_, S_opN, kN_, S_tup, S_lst, kT_u, kL_u, stoL_nil, stoL_dat, stoL_own, consO_some, SatO_some, S_call, kCall_u, S_if, S_ifS, kI_true, kI_false, S_andV, S_orV, kAndV_true, kAndV_false, kOrV_true, kOrV_false, S_test, kTest_, S_tru, kTru_, S_and, S_or, S_not, kAnd_true, kAnd_false, kOr_true, kOr_false, kNot_, S_seq, kS_nx, kS_rt, kS_bk, kS_ct, S_pass, S_set, kSet_dat, kSet_own, S_par, kP_, kPb_, S_ret', kR_, S_retN, S_break, S_cont, S_for, kF_, S_forNil, kFb_nx, kFb_ct, kFb_bk, kFb_rt, S_items, kItems_tup, kItems_lst, kItems_own, S_lc, kLc_, S_lcNil, S_yes, kD_rt, kD_nx, Rv.ret, gt, st, kVar_dat, kVar_own, o_add, o_sub, o_eq, o_ne, o_lt, o_le, o_gt, o_ge, o_eqB, o_neB, o_is2, o_isnot2, o_abs, o_ix, o_ixO, o_ixB, o_ixL, o_tupO, o_isBool, map_some', wp, tgN_, List.length_cons, List.length_nil, Nat.reduceAdd, Nat.reduceLeDiff, true_and, decide_true, decide_false, Bool.not_true, Bool.not_false, o_mul_u, o_div_u, o_mod_u, o_pow_u, o_eqS, o_neS, o_intB, o_lenS, o_lenO, o_lenB, o_iaddI, S_s1, kS1_, kS1b_, S_lm, kLm_bor, kLm_own, kLmb_, S_tab, o_ixT, o_ixS, S_put, kPut_, kPutK_, S_zip2, kZip_, kZipb_tup, o_sum, o_sumB, o_tupB, o_tupL, o_lenT, S_range1, kRng_3, S_tgtL, kTgtL_, List.nil_append, List.cons_append, Nat.reduceLT, SZ, forall_const, true_implies, S_op1, k1_, it, len_shp, l3, items_shp]
  refine S_lcAll (by rw [List.length_map]; show _ ≤ 16777216; omega) (fun d hd => ?_) fun m => ?_
  · obtain ⟨v, hv, rfl⟩ := List.mem_map.mp hd
    refine ⟨_, rfl, ?_⟩
    simp only [S_var, S_C, S_op1, k1_, S_op2, k2_, k2b_, S_nil, S_cons, kc_, kcb_, S_opN, kN_, S_tup, S_lst, kT_u, kL_u, stoL_nil, stoL_dat, stoL_own, consO_some, SatO_some, S_call, kCall_u, S_if, S_ifS, kI_true, kI_false, S_andV, S_orV, kAndV_true, kAndV_false, kOrV_true, kOrV_false, S_test, kTest_, S_tru, kTru_, S_and, S_or, S_not, kAnd_true, kAnd_false, kOr_true, kOr_false, kNot_, S_seq, kS_nx, kS_rt, kS_bk, kS_ct, S_pass, S_set, kSet_dat, kSet_own, S_par, kP_, kPb_, S_ret', kR_, S_retN, S_break, S_cont, S_for, kF_, S_forNil, kFb_nx, kFb_ct, kFb_bk, kFb_rt, S_items, kItems_tup, kItems_lst, kItems_own, S_lc, kLc_, S_lcNil, S_yes, kD_rt, kD_nx, Rv.ret, gt, st, kVar_dat, kVar_own, o_add, o_sub, o_eq, o_ne, o_lt, o_le, o_gt, o_ge, o_eqB, o_neB, o_is2, o_isnot2, o_abs, o_ix, o_ixO, o_ixB, o_ixL, o_tupO, o_isBool, map_some', wp, tgN_, List.length_cons, List.length_nil, Nat.reduceAdd, Nat.reduceLeDiff, true_and, decide_true, decide_false, Bool.not_true, Bool.not_false, o_mul_u, o_div_u, o_mod_u, o_pow_u, o_eqS, o_neS, o_intB, o_lenS, o_lenO, o_lenB, o_iaddI, S_s1, kS1_, kS1b_, S_lm, kLm_bor, kLm_own, kLmb_, S_tab, o_ixT, o_ixS, S_put, kPut_, kPutK_, S_zip2, kZip_, kZipb_tup, o_sum, o_sumB, o_tupB, o_tupL, o_lenT, S_range1, kRng_3, S_tgtL, kTgtL_, List.nil_append, List.cons_append, Nat.reduceLT, SZ, forall_const, true_implies]
    exact S_isCorner (h.pr v hv).1 (h.low v hv) (h.pr v hv).2 hn ⟨rfl, rfl⟩
  simp only [S_var, S_C, S_op1, k1_, S_op2, k2_, k2b_, S_nil, S_cons, kc_, kcb_, S_opN, kN_, S_tup, S_lst, kT_u, kL_u, stoL_nil, stoL_dat, stoL_own, consO_some, SatO_some, S_call, kCall_u, S_if, S_ifS, kI_true, kI_false, S_andV, S_orV, kAndV_true, kAndV_false, kOrV_true, kOrV_false, S_test, kTest_, S_tru, kTru_, S_and, S_or, S_not, kAnd_true, kAnd_false, kOr_true, kOr_false, kNot_, S_seq, kS_nx, kS_rt, kS_bk, kS_ct, S_pass, S_set, kSet_dat, kSet_own, S_par, kP_, kPb_, S_ret', kR_, S_retN, S_break, S_cont, S_for, kF_, S_forNil, kFb_nx, kFb_ct, kFb_bk, kFb_rt, S_items, kItems_tup, kItems_lst, kItems_own, S_lc, kLc_, S_lcNil, S_yes, kD_rt, kD_nx, Rv.ret, gt, st, kVar_dat, kVar_own, o_add, o_sub, o_eq, o_ne, o_lt, o_le, o_gt, o_ge, o_eqB, o_neB, o_is2, o_isnot2, o_abs, o_ix, o_ixO, o_ixB, o_ixL, o_tupO, o_isBool, map_some', wp, tgN_, List.length_cons, List.length_nil, Nat.reduceAdd, Nat.reduceLeDiff, true_and, decide_true, decide_false, Bool.not_true, Bool.not_false, o_mul_u, o_div_u, o_mod_u, o_pow_u, o_eqS, o_neS, o_intB, o_lenS, o_lenO, o_lenB, o_iaddI, S_s1, kS1_, kS1b_, S_lm, kLm_bor, kLm_own, kLmb_, S_tab, o_ixT, o_ixS, S_put, kPut_, kPutK_, S_zip2, kZip_, kZipb_tup, o_sum, o_sumB, o_tupB, o_tupL, o_lenT, S_range1, kRng_3, S_tgtL, kTgtL_, List.nil_append, List.cons_append, Nat.reduceLT, SZ, forall_const, true_implies, o_all_rep]
  refine S_goesRound h hn hk ?_
  simp only [S_var, S_C, S_op1, k1_, S_op2, k2_, k2b_, S_nil, S_cons, kc_, kcb_, S_opN, kN_, S_tup, S_lst, kT_u, kL_u, stoL_nil, stoL_dat, stoL_own, consO_some, SatO_some, S_call, kCall_u, S_if, S_ifS, kI_true, kI_false, S_andV, S_orV, kAndV_true, kAndV_false, kOrV_true, kOrV_false, S_test, kTest_, S_tru, kTru_, S_and, S_or, S_not, kAnd_true, kAnd_false, kOr_true, kOr_false, kNot_, S_seq, kS_nx, kS_rt, kS_bk, kS_ct, S_pass, S_set, kSet_dat, kSet_own, S_par, kP_, kPb_, S_ret', kR_, S_retN, S_break, S_cont, S_for, kF_, S_forNil, kFb_nx, kFb_ct, kFb_bk, kFb_rt, S_items, kItems_tup, kItems_lst, kItems_own, S_lc, kLc_, S_lcNil, S_yes, kD_rt, kD_nx, Rv.ret, gt, st, kVar_dat, kVar_own, o_add, o_sub, o_eq, o_ne, o_lt, o_le, o_gt, o_ge, o_eqB, o_neB, o_is2, o_isnot2, o_abs, o_ix, o_ixO, o_ixB, o_ixL, o_tupO, o_isBool, map_some', wp, tgN_, List.length_cons, List.length_nil, Nat.reduceAdd, Nat.reduceLeDiff, true_and, decide_true, decide_false, Bool.not_true, Bool.not_false, o_mul_u, o_div_u, o_mod_u, o_pow_u, o_eqS, o_neS, o_intB, o_lenS, o_lenO, o_lenB, o_iaddI, S_s1, kS1_, kS1b_, S_lm, kLm_bor, kLm_own, kLmb_, S_tab, o_ixT, o_ixS, S_put, kPut_, kPutK_, S_zip2, kZip_, kZipb_tup, o_sum, o_sumB, o_tupB, o_tupL, o_lenT, S_range1, kRng_3, S_tgtL, kTgtL_, List.nil_append, List.cons_append, Nat.reduceLT, SZ, forall_const, true_implies, S_cutL, kLo, cut_shp1, items_shp]
  refine S_lcAll (by rw [List.length_map, List.length_drop]; show _ ≤ 16777216; omega) (fun d hd => ?_) fun m => ?_
  · obtain ⟨v, hv, rfl⟩ := List.mem_map.mp hd
    refine ⟨_, rfl, ?_⟩
    have hlt : ltV (vs.getD 0 (0, 0, 0)) v = true := by
      cases vs with
      | nil => cases hv
      | cons a r => exact beg_lt h v hv
    simp only [S_var, S_C, S_op1, k1_, S_op2, k2_, k2b_, S_nil, S_cons, kc_, kcb_, S_opN, kN_, S_tup, S_lst, kT_u, kL_u, stoL_nil, stoL_dat, stoL_own, consO_some, SatO_some, S_call, kCall_u, S_if, S_ifS, kI_true, kI_false, S_andV, S_orV, kAndV_true, kAndV_false, kOrV_true, kOrV_false, S_test, kTest_, S_tru, kTru_, S_and, S_or, S_not, kAnd_true, kAnd_false, kOr_true, kOr_false, kNot_, S_seq, kS_nx, kS_rt, kS_bk, kS_ct, S_pass, S_set, kSet_dat, kSet_own, S_par, kP_, kPb_, S_ret', kR_, S_retN, S_break, S_cont, S_for, kF_, S_forNil, kFb_nx, kFb_ct, kFb_bk, kFb_rt, S_items, kItems_tup, kItems_lst, kItems_own, S_lc, kLc_, S_lcNil, S_yes, kD_rt, kD_nx, Rv.ret, gt, st, kVar_dat, kVar_own, o_add, o_sub, o_eq, o_ne, o_lt, o_le, o_gt, o_ge, o_eqB, o_neB, o_is2, o_isnot2, o_abs, o_ix, o_ixO, o_ixB, o_ixL, o_tupO, o_isBool, map_some', wp, tgN_, List.length_cons, List.length_nil, Nat.reduceAdd, Nat.reduceLeDiff, true_and, decide_true, decide_false, Bool.not_true, Bool.not_false, o_mul_u, o_div_u, o_mod_u, o_pow_u, o_eqS, o_neS, o_intB, o_lenS, o_lenO, o_lenB, o_iaddI, S_s1, kS1_, kS1b_, S_lm, kLm_bor, kLm_own, kLmb_, S_tab, o_ixT, o_ixS, S_put, kPut_, kPutK_, S_zip2, kZip_, kZipb_tup, o_sum, o_sumB, o_tupB, o_tupL, o_lenT, S_range1, kRng_3, S_tgtL, kTgtL_, List.nil_append, List.cons_append, Nat.reduceLT, SZ, forall_const, true_implies, i0, ltD_vd, hlt]
  simp only [S_var, S_C, S_op1, k1_, S_op2, k2_, k2b_, S_nil, S_cons, kc_, kcb_, S_opN, kN_, S_tup, S_lst, kT_u, kL_u, stoL_nil, stoL_dat, stoL_own, consO_some, SatO_some, S_call, kCall_u, S_if, S_ifS, kI_true, kI_false, S_andV, S_orV, kAndV_true, kAndV_false, kOrV_true, kOrV_false, S_test, kTest_, S_tru, kTru_, S_and, S_or, S_not, kAnd_true, kAnd_false, kOr_true, kOr_false, kNot_, S_seq, kS_nx, kS_rt, kS_bk, kS_ct, S_pass, S_set, kSet_dat, kSet_own, S_par, kP_, kPb_, S_ret', kR_, S_retN, S_break, S_cont, S_for, kF_, S_forNil, kFb_nx, kFb_ct, kFb_bk, kFb_rt, S_items, kItems_tup, kItems_lst, kItems_own, S_lc, kLc_, S_lcNil, S_yes, kD_rt, kD_nx, Rv.ret, gt, st, kVar_dat, kVar_own, o_add, o_sub, o_eq, o_ne, o_lt, o_le, o_gt, o_ge, o_eqB, o_neB, o_is2, o_isnot2, o_abs, o_ix, o_ixO, o_ixB, o_ixL, o_tupO, o_isBool, map_some', wp, tgN_, List.length_cons, List.length_nil, Nat.reduceAdd, Nat.reduceLeDiff, true_and, decide_true, decide_false, Bool.not_true, Bool.not_false, o_mul_u, o_div_u, o_mod_u, o_pow_u, o_eqS, o_neS, o_intB, o_lenS, o_lenO, o_lenB, o_iaddI, S_s1, kS1_, kS1b_, S_lm, kLm_bor, kLm_own, kLmb_, S_tab, o_ixT, o_ixS, S_put, kPut_, kPutK_, S_zip2, kZip_, kZipb_tup, o_sum, o_sumB, o_tupB, o_tupL, o_lenT, S_range1, kRng_3, S_tgtL, kTgtL_, List.nil_append, List.cons_append, Nat.reduceLT, SZ, forall_const, true_implies, o_all_rep]
  exact q
end
end PB
set_option Elab.async false
set_option linter.all false
set_option maxRecDepth 10000
set_option maxHeartbeats 4000000
set_option exponentiation.threshold 20000
namespace PB
theorem whole_shpS : ShpS 1 3 wholeL := by
  refine ⟨by decide, by decide, whole_shp.pr, fun v hv => ?_, ?_, whole_shp.beg⟩
  · rcases List.mem_cons.mp hv with rfl | hv
    · rfl
    · rcases List.mem_cons.mp hv with rfl | hv
      · rfl
      · rw [List.mem_singleton.mp hv]
        rfl
  · refine ⟨List.pairwise_cons.mpr ⟨fun v hv => ?_, List.pairwise_singleton _ _⟩, List.pairwise_singleton _ _, .nil, trivial⟩
    rw [List.mem_singleton.mp hv]
    decide
theorem S_lshapeS {a b m many : Nat} {sz : Int} {s : LS} {Q : Rv → LS → Prop} (h : Bud a (b + 5 * many + 1) s) (hmn : many ≤ 6) (s0 : 0 ≤ sz) (s1 : sz < 2 ^ m) (hm : (m + 5) * 2 ^ many ≤ 900) (hm2 : m ≤ 200)
    (q : ∀ (vs : List V3) (s' : LS), ShpS ((m + 5) * 2 ^ many) (3 * 2 ^ many) vs → Bud a b s' → Q (.dat (shp vs)) s') : Sat (l_shapeF [.ref a, .int (many : Nat), .int sz] s) Q := by
  have one : ∀ i, 1 ≤ 2 ^ i := fun i => Nat.one_le_two_pow
  have p2 : ∀ i, i ≤ many → (m + 5) * 2 ^ i ≤ (m + 5) * 2 ^ many := fun i hi => Nat.mul_le_mul_left _ (Nat.pow_le_pow_right (by decide) hi)
  have p3 : ∀ i, i ≤ many → 3 * 2 ^ i ≤ 192 := fun i hi => Nat.mul_le_mul_left 3 (Nat.pow_le_pow_right (n := 2) (i := i) (j := 6) (by decide) (by omega))
  unfold l_shapeF
  rw [S_def (k := 3) (ds := [.ref a, .int (many : Nat), .int sz]) rfl]
  show Sat (l_shapeM [.dat (.ref a), .dat (.int (many : Nat)), .dat (.int sz), .un, .un, .un] s) _
  unfold l_shapeM
  simp only [S_var, S_C, S_op1, k1_, S_op2, k2_, k2b_, S_nil, S_cons, kc_, kcb_, S_opN, kN_, S_tup, S_lst, kT_u, kL_u, stoL_nil, stoL_dat, stoL_own, consO_some, SatO_some, S_call, kCall_u, S_if, S_ifS, kI_true, kI_false, S_andV, S_orV, kAndV_true, kAndV_false, kOrV_true, kOrV_false, S_test, kTest_, S_tru, kTru_, S_and, S_or, S_not, kAnd_true, kAnd_false, kOr_true, kOr_false, kNot_, S_seq, kS_nx, kS_rt, kS_bk, kS_ct, S_pass, S_set, kSet_dat, kSet_own, S_par, kP_, kPb_, S_ret', kR_, S_retN, S_break, S_cont, S_for, kF_, S_forNil, kFb_nx, kFb_ct, kFb_bk, kFb_rt, S_items, kItems_tup, kItems_lst, kItems_own, S_lc, kLc_, S_lcNil, S_yes, kD_rt, kD_nx, Rv.ret, gt, st, kVar_dat, kVar_own, o_add, o_sub, o_eq, o_ne, o_lt, o_le, o_gt, o_ge, o_eqB, o_neB, o_is2, o_isnot2, o_abs, o_ix, o_ixO, o_ixB, o_ixL, o_tupO, o_isBool, map_some', wp, tgN_, List.length_cons, List.length_nil, Nat.reduceAdd, Nat.reduceLeDiff, true_and, decide_true, decide_false, Bool.not_true, Bool.not_false, o_mul_u, o_div_u, o_mod_u, o_pow_u, o_eqS, o_neS, o_intB, o_lenS, o_lenO, o_lenB, o_iaddI, S_s1, kS1_, kS1b_, S_lm, kLm_bor, kLm_own, kLmb_, S_tab, o_ixT, o_ixS, S_put, kPut_, kPutK_, S_zip2, kZip_, kZipb_tup, o_sum, o_sumB, o_tupB, o_tupL, o_lenT, S_range1, kRng_3, S_tgtL, kTgtL_, List.nil_append, List.cons_append, Nat.reduceLT, SZ, forall_const, true_implies]
  refine S_draw (b := b + 5 * many) h (by omega) (by
    have : (7 : Int) ≤ 10 ^ 90 := by decide
    omega) fun d s1' d0 d1 h1 => ?_
  obtain ⟨M, rfl⟩ : ∃ M : Nat, d = (M : Nat) := ⟨d.toNat, by omega⟩
  have hM : M ≤ many := by omega
  rw [kRng_]
  refine ⟨rng_ok (by omega), ?_⟩
  rw [Int.toNat_natCast, rng_map, kF_]
  refine S_forA (List.range M) (fun k => D.int (0 + (k : Nat))) (fun pre post e g => ∃ (vs : List V3) (x4 x5 : Sl), e = [.dat (.ref a), .dat (.int (many : Nat)), .dat (.int sz), .dat (shp vs), x4, x5] ∧ ShpS ((m + 5) * 2 ^ pre.length - (m + 4)) (3 * 2 ^ pre.length) vs ∧ Bud a (b + 5 * post.length) g) ⟨wholeL, _, _, rfl, ?_, by rw [List.length_range]; exact h1.le (by omega)⟩ ?_ ?_
  · have e1 : (m + 5) * 2 ^ ([] : List Nat).length - (m + 4) = 1 := by show (m + 5) * 1 - (m + 4) = 1; omega
    rw [e1]
    exact whole_shpS
  · rintro pre k post e g hr ⟨vs, x4, x5, rfl, hs, hB⟩
    refine ⟨_, rfl, ?_⟩
    have hpl : pre.length + 1 ≤ M := by
      have := congrArg List.length hr
      rw [List.length_range, List.length_append, List.length_cons] at this
      omega
    have p2' := p2 (pre.length + 1) (by omega)
    have p3' := p3 (pre.length + 1) (by omega)
    have e2 : (m + 5) * 2 ^ (pre.length + 1) = 2 * ((m + 5) * 2 ^ pre.length) := by rw [Nat.pow_succ]; rw [← Nat.mul_assoc, Nat.mul_comm]
    have e3 : 3 * 2 ^ (pre.length + 1) = 2 * (3 * 2 ^ pre.length) := by rw [Nat.pow_succ]; omega
    have ge : m + 5 ≤ (m + 5) * 2 ^ pre.length := Nat.le_mul_of_pos_right _ (one _)
    have hlap : (pre ++ [k]).length = pre.length + 1 := by simp
    simp only [S_var, S_C, S_op1, k1_, S_op2, k2_, k2b_, S_nil, S_cons, kc_, kcb_, S_opN, kN_, S_tup, S_lst, kT_u, kL_u, stoL_nil, stoL_dat, stoL_own, consO_some, SatO_some, S_call, kCall_u, S_if, S_ifS, kI_true, kI_false, S_andV, S_orV, kAndV_true, kAndV_false, kOrV_true, kOrV_false, S_test, kTest_, S_tru, kTru_, S_and, S_or, S_not, kAnd_true, kAnd_false, kOr_true, kOr_false, kNot_, S_seq, kS_nx, kS_rt, kS_bk, kS_ct, S_pass, S_set, kSet_dat, kSet_own, S_par, kP_, kPb_, S_ret', kR_, S_retN, S_break, S_cont, S_for, kF_, S_forNil, kFb_nx, kFb_ct, kFb_bk, kFb_rt, S_items, kItems_tup, kItems_lst, kItems_own, S_lc, kLc_, S_lcNil, S_yes, kD_rt, kD_nx, Rv.ret, gt, st, kVar_dat, kVar_own, o_add, o_sub, o_eq, o_ne, o_lt, o_le, o_gt, o_ge, o_eqB, o_neB, o_is2, o_isnot2, o_abs, o_ix, o_ixO, o_ixB, o_ixL, o_tupO, o_isBool, map_some', wp, tgN_, List.length_cons, List.length_nil, Nat.reduceAdd, Nat.reduceLeDiff, true_and, decide_true, decide_false, Bool.not_true, Bool.not_false, o_mul_u, o_div_u, o_mod_u, o_pow_u, o_eqS, o_neS, o_intB, o_lenS, o_lenO, o_lenB, o_iaddI, S_s1, kS1_, kS1b_, S_lm, kLm_bor, kLm_own, kLmb_, S_tab, o_ixT, o_ixS, S_put, kPut_, kPutK_, S_zip2, kZip_, kZipb_tup, o_sum, o_sumB, o_tupB, o_tupL, o_lenT, S_range1, kRng_3, S_tgtL, kTgtL_, List.nil_append, List.cons_append, Nat.reduceLT, SZ, forall_const, true_implies]
    refine S_lside (b := b + 5 * post.length) (m := m) (hB.le (by rw [List.length_cons]; omega)) s0 s1 (by omega) fun w s' hw h' => ?_
    simp only [S_var, S_C, S_op1, k1_, S_op2, k2_, k2b_, S_nil, S_cons, kc_, kcb_, S_opN, kN_, S_tup, S_lst, kT_u, kL_u, stoL_nil, stoL_dat, stoL_own, consO_some, SatO_some, S_call, kCall_u, S_if, S_ifS, kI_true, kI_false, S_andV, S_orV, kAndV_true, kAndV_false, kOrV_true, kOrV_false, S_test, kTest_, S_tru, kTru_, S_and, S_or, S_not, kAnd_true, kAnd_false, kOr_true, kOr_false, kNot_, S_seq, kS_nx, kS_rt, kS_bk, kS_ct, S_pass, S_set, kSet_dat, kSet_own, S_par, kP_, kPb_, S_ret', kR_, S_retN, S_break, S_cont, S_for, kF_, S_forNil, kFb_nx, kFb_ct, kFb_bk, kFb_rt, S_items, kItems_tup, kItems_lst, kItems_own, S_lc, kLc_, S_lcNil, S_yes, kD_rt, kD_nx, Rv.ret, gt, st, kVar_dat, kVar_own, o_add, o_sub, o_eq, o_ne, o_lt, o_le, o_gt, o_ge, o_eqB, o_neB, o_is2, o_isnot2, o_abs, o_ix, o_ixO, o_ixB, o_ixL, o_tupO, o_isBool, map_some', wp, tgN_, List.length_cons, List.length_nil, Nat.reduceAdd, Nat.reduceLeDiff, true_and, decide_true, decide_false, Bool.not_true, Bool.not_false, o_mul_u, o_div_u, o_mod_u, o_pow_u, o_eqS, o_neS, o_intB, o_lenS, o_lenO, o_lenB, o_iaddI, S_s1, kS1_, kS1b_, S_lm, kLm_bor, kLm_own, kLmb_, S_tab, o_ixT, o_ixS, S_put, kPut_, kPutK_, S_zip2, kZip_, kZipb_tup, o_sum, o_sumB, o_tupB, o_tupL, o_lenT, S_range1, kRng_3, S_tgtL, kTgtL_, List.nil_append, List.cons_append, Nat.reduceLT, SZ, forall_const, true_implies]
    refine S_lcut (n := (m + 5) * 2 ^ pre.length - (m + 4)) (m := m + 1) (k := 3 * 2 ^ pre.length) hs.shp hw (by omega) (by omega) (fun _ => ?_) (fun v hv hp => ?_)
    · have hne : oNe (.dat (.tup [])) (.dat (.tup [])) = some (.dat (.bl false)) := rfl
      simp only [S_var, S_C, S_op1, k1_, S_op2, k2_, k2b_, S_nil, S_cons, kc_, kcb_, S_opN, kN_, S_tup, S_lst, kT_u, kL_u, stoL_nil, stoL_dat, stoL_own, consO_some, SatO_some, S_call, kCall_u, S_if, S_ifS, kI_true, kI_false, S_andV, S_orV, kAndV_true, kAndV_false, kOrV_true, kOrV_false, S_test, kTest_, S_tru, kTru_, S_and, S_or, S_not, kAnd_true, kAnd_false, kOr_true, kOr_false, kNot_, S_seq, kS_nx, kS_rt, kS_bk, kS_ct, S_pass, S_set, kSet_dat, kSet_own, S_par, kP_, kPb_, S_ret', kR_, S_retN, S_break, S_cont, S_for, kF_, S_forNil, kFb_nx, kFb_ct, kFb_bk, kFb_rt, S_items, kItems_tup, kItems_lst, kItems_own, S_lc, kLc_, S_lcNil, S_yes, kD_rt, kD_nx, Rv.ret, gt, st, kVar_dat, kVar_own, o_add, o_sub, o_eq, o_ne, o_lt, o_le, o_gt, o_ge, o_eqB, o_neB, o_is2, o_isnot2, o_abs, o_ix, o_ixO, o_ixB, o_ixL, o_tupO, o_isBool, map_some', wp, tgN_, List.length_cons, List.length_nil, Nat.reduceAdd, Nat.reduceLeDiff, true_and, decide_true, decide_false, Bool.not_true, Bool.not_false, o_mul_u, o_div_u, o_mod_u, o_pow_u, o_eqS, o_neS, o_intB, o_lenS, o_lenO, o_lenB, o_iaddI, S_s1, kS1_, kS1b_, S_lm, kLm_bor, kLm_own, kLmb_, S_tab, o_ixT, o_ixS, S_put, kPut_, kPutK_, S_zip2, kZip_, kZipb_tup, o_sum, o_sumB, o_tupB, o_tupL, o_lenT, S_range1, kRng_3, S_tgtL, kTgtL_, List.nil_append, List.cons_append, Nat.reduceLT, SZ, forall_const, true_implies, hne]
      refine ⟨vs, _, _, rfl, ?_, h'⟩
      rw [hlap]
      exact hs.up (by omega) (by omega)
    · have hcut := hs.cutN hw hv hp
      have hne := ne_shp (rotV (keptN w vs))
      have he : (rotV (keptN w vs)).isEmpty = false := by
        have := hcut.ge
        cases hq : rotV (keptN w vs) with
        | nil => rw [hq] at this; exact absurd this (by decide)
        | cons _ _ => rfl
      rw [he] at hne
      simp only [S_var, S_C, S_op1, k1_, S_op2, k2_, k2b_, S_nil, S_cons, kc_, kcb_, S_opN, kN_, S_tup, S_lst, kT_u, kL_u, stoL_nil, stoL_dat, stoL_own, consO_some, SatO_some, S_call, kCall_u, S_if, S_ifS, kI_true, kI_false, S_andV, S_orV, kAndV_true, kAndV_false, kOrV_true, kOrV_false, S_test, kTest_, S_tru, kTru_, S_and, S_or, S_not, kAnd_true, kAnd_false, kOr_true, kOr_false, kNot_, S_seq, kS_nx, kS_rt, kS_bk, kS_ct, S_pass, S_set, kSet_dat, kSet_own, S_par, kP_, kPb_, S_ret', kR_, S_retN, S_break, S_cont, S_for, kF_, S_forNil, kFb_nx, kFb_ct, kFb_bk, kFb_rt, S_items, kItems_tup, kItems_lst, kItems_own, S_lc, kLc_, S_lcNil, S_yes, kD_rt, kD_nx, Rv.ret, gt, st, kVar_dat, kVar_own, o_add, o_sub, o_eq, o_ne, o_lt, o_le, o_gt, o_ge, o_eqB, o_neB, o_is2, o_isnot2, o_abs, o_ix, o_ixO, o_ixB, o_ixL, o_tupO, o_isBool, map_some', wp, tgN_, List.length_cons, List.length_nil, Nat.reduceAdd, Nat.reduceLeDiff, true_and, decide_true, decide_false, Bool.not_true, Bool.not_false, o_mul_u, o_div_u, o_mod_u, o_pow_u, o_eqS, o_neS, o_intB, o_lenS, o_lenO, o_lenB, o_iaddI, S_s1, kS1_, kS1b_, S_lm, kLm_bor, kLm_own, kLmb_, S_tab, o_ixT, o_ixS, S_put, kPut_, kPutK_, S_zip2, kZip_, kZipb_tup, o_sum, o_sumB, o_tupB, o_tupL, o_lenT, S_range1, kRng_3, S_tgtL, kTgtL_, List.nil_append, List.cons_append, Nat.reduceLT, SZ, forall_const, true_implies, hne]
      refine ⟨rotV (keptN w vs), _, _, rfl, ?_, h'⟩
      rw [hlap]
      exact hcut.up (by omega) (by omega)
  · rintro e g ⟨vs, x4, x5, rfl, hs, hB⟩
    rw [List.length_range] at hs
    have p2' := p2 M hM
    have p3' : 3 * 2 ^ M ≤ 3 * 2 ^ many := Nat.mul_le_mul_left 3 (Nat.pow_le_pow_right (by decide) hM)
    simp only [S_var, S_C, S_op1, k1_, S_op2, k2_, k2b_, S_nil, S_cons, kc_, kcb_, S_opN, kN_, S_tup, S_lst, kT_u, kL_u, stoL_nil, stoL_dat, stoL_own, consO_some, SatO_some, S_call, kCall_u, S_if, S_ifS, kI_true, kI_false, S_andV, S_orV, kAndV_true, kAndV_false, kOrV_true, kOrV_false, S_test, kTest_, S_tru, kTru_, S_and, S_or, S_not, kAnd_true, kAnd_false, kOr_true, kOr_false, kNot_, S_seq, kS_nx, kS_rt, kS_bk, kS_ct, S_pass, S_set, kSet_dat, kSet_own, S_par, kP_, kPb_, S_ret', kR_, S_retN, S_break, S_cont, S_for, kF_, S_forNil, kFb_nx, kFb_ct, kFb_bk, kFb_rt, S_items, kItems_tup, kItems_lst, kItems_own, S_lc, kLc_, S_lcNil, S_yes, kD_rt, kD_nx, Rv.ret, gt, st, kVar_dat, kVar_own, o_add, o_sub, o_eq, o_ne, o_lt, o_le, o_gt, o_ge, o_eqB, o_neB, o_is2, o_isnot2, o_abs, o_ix, o_ixO, o_ixB, o_ixL, o_tupO, o_isBool, map_some', wp, tgN_, List.length_cons, List.length_nil, Nat.reduceAdd, Nat.reduceLeDiff, true_and, decide_true, decide_false, Bool.not_true, Bool.not_false, o_mul_u, o_div_u, o_mod_u, o_pow_u, o_eqS, o_neS, o_intB, o_lenS, o_lenO, o_lenB, o_iaddI, S_s1, kS1_, kS1b_, S_lm, kLm_bor, kLm_own, kLmb_, S_tab, o_ixT, o_ixS, S_put, kPut_, kPutK_, S_zip2, kZip_, kZipb_tup, o_sum, o_sumB, o_tupB, o_tupL, o_lenT, S_range1, kRng_3, S_tgtL, kTgtL_, List.nil_append, List.cons_append, Nat.reduceLT, SZ, forall_const, true_implies]
    exact q vs g (hs.up (by omega) (by omega)) hB
def bend (x : Int) : V3 := (1, x, x * x)
theorem bend_det (x y z : Int) : det (bend x) (bend y) (bend z) = (y - x) * ((z - x) * (z - y)) := by
  unfold det bend
  grind
theorem bend_tri : ∀ {xs : List Int}, xs.Pairwise (· < ·) → STri (xs.map bend)
  | [], _ => trivial
  | x :: xs, h => by
    have h' := List.pairwise_cons.mp h
    refine ⟨?_, bend_tri h'.2⟩
    rw [List.pairwise_map]
    refine List.Pairwise.imp_of_mem (R := (· < ·)) (fun {y z} hy hz hyz => ?_) h'.2
    rw [bend_det]
    have a1 := h'.1 y hy
    have a2 := h'.1 z hz
    exact Int.mul_pos (by omega) (Int.mul_pos (by omega) (by omega))
theorem bend_low (x : Int) : lowV (bend x) = bend x := by
  have hg : g3 1 x (x * x) = 1 := by
    have hd := (gcdL_dvd (l := [(1 : Int), x, x * x]) (g := 0)).2 1 List.mem_cons_self
    have h2 : g3 1 x (x * x) ∣ 1 := Int.natCast_dvd_natCast.mp hd
    exact Nat.dvd_one.mp h2
  unfold lowV bend
  dsimp only
  rw [hg]
  simp
theorem bend_beg {x : Int} {xs : List Int} (h : (x :: xs).Pairwise (· < ·)) : Beg ((x :: xs).map bend) := by
  intro v hv
  obtain ⟨y, hy, rfl⟩ := List.mem_map.mp hv
  have := (List.pairwise_cons.mp h).1 y hy
  unfold ltV bend
  rw [if_pos rfl, if_neg (by show ¬ y = x; omega)]
  exact decide_eq_false (by show ¬ y < x; omega)
theorem S_lring {a b : Nat} {s : LS} {Q : Rv → LS → Prop} (h : Bud a (b + 41) s) (q : ∀ (vs : List V3) (s' : LS), ShpS 20 39 vs → Bud a b s' → Q (.dat (shp vs)) s') : Sat (l_ringF [.ref a] s) Q := by
  unfold l_ringF
  rw [S_def (k := 1) (ds := [.ref a]) rfl]
  show Sat (l_ringM [.dat (.ref a), .un, .un, .un] s) _
  unfold l_ringM
  simp only [S_var, S_C, S_op1, k1_, S_op2, k2_, k2b_, S_nil, S_cons, kc_, kcb_, S_opN, kN_, S_tup, S_lst, kT_u, kL_u, stoL_nil, stoL_dat, stoL_own, consO_some, SatO_some, S_call, kCall_u, S_if, S_ifS, kI_true, kI_false, S_andV, S_orV, kAndV_true, kAndV_false, kOrV_true, kOrV_false, S_test, kTest_, S_tru, kTru_, S_and, S_or, S_not, kAnd_true, kAnd_false, kOr_true, kOr_false, kNot_, S_seq, kS_nx, kS_rt, kS_bk, kS_ct, S_pass, S_set, kSet_dat, kSet_own, S_par, kP_, kPb_, S_ret', kR_, S_retN, S_break, S_cont, S_for, kF_, S_forNil, kFb_nx, kFb_ct, kFb_bk, kFb_rt, S_items, kItems_tup, kItems_lst, kItems_own, S_lc, kLc_, S_lcNil, S_yes, kD_rt, kD_nx, Rv.ret, gt, st, kVar_dat, kVar_own, o_add, o_sub, o_eq, o_ne, o_lt, o_le, o_gt, o_ge, o_eqB, o_neB, o_is2, o_isnot2, o_abs, o_ix, o_ixO, o_ixB, o_ixL, o_tupO, o_isBool, map_some', wp, tgN_, List.length_cons, List.length_nil, Nat.reduceAdd, Nat.reduceLeDiff, true_and, decide_true, decide_false, Bool.not_true, Bool.not_false, o_mul_u, o_div_u, o_mod_u, o_pow_u, o_eqS, o_neS, o_intB, o_lenS, o_lenO, o_lenB, o_iaddI, S_s1, kS1_, kS1b_, S_lm, kLm_bor, kLm_own, kLmb_, S_tab, o_ixT, o_ixS, S_put, kPut_, kPutK_, S_zip2, kZip_, kZipb_tup, o_sum, o_sumB, o_tupB, o_tupL, o_lenT, S_range1, kRng_3, S_tgtL, kTgtL_, List.nil_append, List.cons_append, Nat.reduceLT, SZ, forall_const, true_implies]
  refine S_draw (b := b + 40) h (by decide) (by decide) fun at0 s1 a0 a1 h1 => ?_
  simp only [S_var, S_C, S_op1, k1_, S_op2, k2_, k2b_, S_nil, S_cons, kc_, kcb_, S_opN, kN_, S_tup, S_lst, kT_u, kL_u, stoL_nil, stoL_dat, stoL_own, consO_some, SatO_some, S_call, kCall_u, S_if, S_ifS, kI_true, kI_false, S_andV, S_orV, kAndV_true, kAndV_false, kOrV_true, kOrV_false, S_test, kTest_, S_tru, kTru_, S_and, S_or, S_not, kAnd_true, kAnd_false, kOr_true, kOr_false, kNot_, S_seq, kS_nx, kS_rt, kS_bk, kS_ct, S_pass, S_set, kSet_dat, kSet_own, S_par, kP_, kPb_, S_ret', kR_, S_retN, S_break, S_cont, S_for, kF_, S_forNil, kFb_nx, kFb_ct, kFb_bk, kFb_rt, S_items, kItems_tup, kItems_lst, kItems_own, S_lc, kLc_, S_lcNil, S_yes, kD_rt, kD_nx, Rv.ret, gt, st, kVar_dat, kVar_own, o_add, o_sub, o_eq, o_ne, o_lt, o_le, o_gt, o_ge, o_eqB, o_neB, o_is2, o_isnot2, o_abs, o_ix, o_ixO, o_ixB, o_ixL, o_tupO, o_isBool, map_some', wp, tgN_, List.length_cons, List.length_nil, Nat.reduceAdd, Nat.reduceLeDiff, true_and, decide_true, decide_false, Bool.not_true, Bool.not_false, o_mul_u, o_div_u, o_mod_u, o_pow_u, o_eqS, o_neS, o_intB, o_lenS, o_lenO, o_lenB, o_iaddI, S_s1, kS1_, kS1b_, S_lm, kLm_bor, kLm_own, kLmb_, S_tab, o_ixT, o_ixS, S_put, kPut_, kPutK_, S_zip2, kZip_, kZipb_tup, o_sum, o_sumB, o_tupB, o_tupL, o_lenT, S_range1, kRng_3, S_tgtL, kTgtL_, List.nil_append, List.cons_append, Nat.reduceLT, SZ, forall_const, true_implies]
  refine S_draw (b := b + 39) h1 (by decide) (by decide) fun n s2 n0 n1 h2 => ?_
  simp only [S_var, S_C, S_op1, k1_, S_op2, k2_, k2b_, S_nil, S_cons, kc_, kcb_, S_opN, kN_, S_tup, S_lst, kT_u, kL_u, stoL_nil, stoL_dat, stoL_own, consO_some, SatO_some, S_call, kCall_u, S_if, S_ifS, kI_true, kI_false, S_andV, S_orV, kAndV_true, kAndV_false, kOrV_true, kOrV_false, S_test, kTest_, S_tru, kTru_, S_and, S_or, S_not, kAnd_true, kAnd_false, kOr_true, kOr_false, kNot_, S_seq, kS_nx, kS_rt, kS_bk, kS_ct, S_pass, S_set, kSet_dat, kSet_own, S_par, kP_, kPb_, S_ret', kR_, S_retN, S_break, S_cont, S_for, kF_, S_forNil, kFb_nx, kFb_ct, kFb_bk, kFb_rt, S_items, kItems_tup, kItems_lst, kItems_own, S_lc, kLc_, S_lcNil, S_yes, kD_rt, kD_nx, Rv.ret, gt, st, kVar_dat, kVar_own, o_add, o_sub, o_eq, o_ne, o_lt, o_le, o_gt, o_ge, o_eqB, o_neB, o_is2, o_isnot2, o_abs, o_ix, o_ixO, o_ixB, o_ixL, o_tupO, o_isBool, map_some', wp, tgN_, List.length_cons, List.length_nil, Nat.reduceAdd, Nat.reduceLeDiff, true_and, decide_true, decide_false, Bool.not_true, Bool.not_false, o_mul_u, o_div_u, o_mod_u, o_pow_u, o_eqS, o_neS, o_intB, o_lenS, o_lenO, o_lenB, o_iaddI, S_s1, kS1_, kS1b_, S_lm, kLm_bor, kLm_own, kLmb_, S_tab, o_ixT, o_ixS, S_put, kPut_, kPutK_, S_zip2, kZip_, kZipb_tup, o_sum, o_sumB, o_tupB, o_tupL, o_lenT, S_range1, kRng_3, S_tgtL, kTgtL_, List.nil_append, List.cons_append, Nat.reduceLT, SZ, forall_const, true_implies]
  obtain ⟨m, hm⟩ : ∃ m : Nat, 3 + n = (m : Nat) := ⟨(3 + n).toNat, by omega⟩
  rw [hm]
  have hm1 : 3 ≤ m ∧ m ≤ 39 := by omega
  refine kRngU (by omega) ?_
  rw [kF_]
  refine S_forA (List.range m) (fun k => D.int (k : Nat)) (fun pre post e g => ∃ (xs : List Int) (at1 : Int) (x3 : Sl), e = [.dat (.ref a), .own ((xs.map bend).map vd), .dat (.int at1), x3] ∧ xs.length = pre.length ∧ 0 ≤ at1 ∧ at1 ≤ 3 + 3 * pre.length ∧ xs.Pairwise (· < ·) ∧ (∀ x ∈ xs, 0 ≤ x ∧ x < at1) ∧ Bud a (b + post.length) g) ⟨[], at0, _, rfl, rfl, a0, by omega, .nil, fun v h => (by cases h), h2.le (by rw [List.length_range]; omega)⟩ ?_ ?_
  · rintro pre k post e g hr ⟨xs, at1, x3, rfl, hl, p0, p1, hpw, hv, hB⟩
    refine ⟨_, rfl, ?_⟩
    have hpl : pre.length + 1 ≤ m := by
      have := congrArg List.length hr
      rw [List.length_range, List.length_append, List.length_cons] at this
      omega
    have at2 : at1.natAbs < 2 ^ 8 := by
      have : (2 : Nat) ^ 8 = 256 := by decide
      omega
    simp only [st]
    rw [S_seq, S_app rfl]
    simp only [S_var, S_C, S_op1, k1_, S_op2, k2_, k2b_, S_nil, S_cons, kc_, kcb_, S_opN, kN_, S_tup, S_lst, kT_u, kL_u, stoL_nil, stoL_dat, stoL_own, consO_some, SatO_some, S_call, kCall_u, S_if, S_ifS, kI_true, kI_false, S_andV, S_orV, kAndV_true, kAndV_false, kOrV_true, kOrV_false, S_test, kTest_, S_tru, kTru_, S_and, S_or, S_not, kAnd_true, kAnd_false, kOr_true, kOr_false, kNot_, S_seq, kS_nx, kS_rt, kS_bk, kS_ct, S_pass, S_set, kSet_dat, kSet_own, S_par, kP_, kPb_, S_ret', kR_, S_retN, S_break, S_cont, S_for, kF_, S_forNil, kFb_nx, kFb_ct, kFb_bk, kFb_rt, S_items, kItems_tup, kItems_lst, kItems_own, S_lc, kLc_, S_lcNil, S_yes, kD_rt, kD_nx, Rv.ret, gt, st, kVar_dat, kVar_own, o_add, o_sub, o_eq, o_ne, o_lt, o_le, o_gt, o_ge, o_eqB, o_neB, o_is2, o_isnot2, o_abs, o_ix, o_ixO, o_ixB, o_ixL, o_tupO, o_isBool, map_some', wp, tgN_, List.length_cons, List.length_nil, Nat.reduceAdd, Nat.reduceLeDiff, true_and, decide_true, decide_false, Bool.not_true, Bool.not_false, o_mul_u, o_div_u, o_mod_u, o_pow_u, o_eqS, o_neS, o_intB, o_lenS, o_lenO, o_lenB, o_iaddI, S_s1, kS1_, kS1b_, S_lm, kLm_bor, kLm_own, kLmb_, S_tab, o_ixT, o_ixS, S_put, kPut_, kPutK_, S_zip2, kZip_, kZipb_tup, o_sum, o_sumB, o_tupB, o_tupL, o_lenT, S_range1, kRng_3, S_tgtL, kTgtL_, List.nil_append, List.cons_append, Nat.reduceLT, SZ, forall_const, true_implies, kA_dat]
    refine ⟨mulOkP at2 at2 (by decide), by rw [List.length_map, List.length_map]; omega, ?_⟩
    rw [S_aug (d := .int at1) rfl]
    simp only [S_var, S_C, S_op1, k1_, S_op2, k2_, k2b_, S_nil, S_cons, kc_, kcb_, S_opN, kN_, S_tup, S_lst, kT_u, kL_u, stoL_nil, stoL_dat, stoL_own, consO_some, SatO_some, S_call, kCall_u, S_if, S_ifS, kI_true, kI_false, S_andV, S_orV, kAndV_true, kAndV_false, kOrV_true, kOrV_false, S_test, kTest_, S_tru, kTru_, S_and, S_or, S_not, kAnd_true, kAnd_false, kOr_true, kOr_false, kNot_, S_seq, kS_nx, kS_rt, kS_bk, kS_ct, S_pass, S_set, kSet_dat, kSet_own, S_par, kP_, kPb_, S_ret', kR_, S_retN, S_break, S_cont, S_for, kF_, S_forNil, kFb_nx, kFb_ct, kFb_bk, kFb_rt, S_items, kItems_tup, kItems_lst, kItems_own, S_lc, kLc_, S_lcNil, S_yes, kD_rt, kD_nx, Rv.ret, gt, st, kVar_dat, kVar_own, o_add, o_sub, o_eq, o_ne, o_lt, o_le, o_gt, o_ge, o_eqB, o_neB, o_is2, o_isnot2, o_abs, o_ix, o_ixO, o_ixB, o_ixL, o_tupO, o_isBool, map_some', wp, tgN_, List.length_cons, List.length_nil, Nat.reduceAdd, Nat.reduceLeDiff, true_and, decide_true, decide_false, Bool.not_true, Bool.not_false, o_mul_u, o_div_u, o_mod_u, o_pow_u, o_eqS, o_neS, o_intB, o_lenS, o_lenO, o_lenB, o_iaddI, S_s1, kS1_, kS1b_, S_lm, kLm_bor, kLm_own, kLmb_, S_tab, o_ixT, o_ixS, S_put, kPut_, kPutK_, S_zip2, kZip_, kZipb_tup, o_sum, o_sumB, o_tupB, o_tupL, o_lenT, S_range1, kRng_3, S_tgtL, kTgtL_, List.nil_append, List.cons_append, Nat.reduceLT, SZ, forall_const, true_implies, kAug_]
    refine S_draw (b := b + post.length) (hB.le (by rw [List.length_cons]; omega)) (by decide) (by decide) fun d s3 d0 d1 h3 => ?_
    simp only [S_var, S_C, S_op1, k1_, S_op2, k2_, k2b_, S_nil, S_cons, kc_, kcb_, S_opN, kN_, S_tup, S_lst, kT_u, kL_u, stoL_nil, stoL_dat, stoL_own, consO_some, SatO_some, S_call, kCall_u, S_if, S_ifS, kI_true, kI_false, S_andV, S_orV, kAndV_true, kAndV_false, kOrV_true, kOrV_false, S_test, kTest_, S_tru, kTru_, S_and, S_or, S_not, kAnd_true, kAnd_false, kOr_true, kOr_false, kNot_, S_seq, kS_nx, kS_rt, kS_bk, kS_ct, S_pass, S_set, kSet_dat, kSet_own, S_par, kP_, kPb_, S_ret', kR_, S_retN, S_break, S_cont, S_for, kF_, S_forNil, kFb_nx, kFb_ct, kFb_bk, kFb_rt, S_items, kItems_tup, kItems_lst, kItems_own, S_lc, kLc_, S_lcNil, S_yes, kD_rt, kD_nx, Rv.ret, gt, st, kVar_dat, kVar_own, o_add, o_sub, o_eq, o_ne, o_lt, o_le, o_gt, o_ge, o_eqB, o_neB, o_is2, o_isnot2, o_abs, o_ix, o_ixO, o_ixB, o_ixL, o_tupO, o_isBool, map_some', wp, tgN_, List.length_cons, List.length_nil, Nat.reduceAdd, Nat.reduceLeDiff, true_and, decide_true, decide_false, Bool.not_true, Bool.not_false, o_mul_u, o_div_u, o_mod_u, o_pow_u, o_eqS, o_neS, o_intB, o_lenS, o_lenO, o_lenB, o_iaddI, S_s1, kS1_, kS1b_, S_lm, kLm_bor, kLm_own, kLmb_, S_tab, o_ixT, o_ixS, S_put, kPut_, kPutK_, S_zip2, kZip_, kZipb_tup, o_sum, o_sumB, o_tupB, o_tupL, o_lenT, S_range1, kRng_3, S_tgtL, kTgtL_, List.nil_append, List.cons_append, Nat.reduceLT, SZ, forall_const, true_implies, kAug_, o_iaddI]
    refine ⟨xs ++ [at1], at1 + (1 + d), _, by rw [List.map_append, List.map_append]; rfl, by rw [List.length_append, List.length_append, hl]; rfl, by omega, by rw [List.length_append, List.length_singleton]; omega, ?_, fun x hx => ?_, h3⟩
    · rw [List.pairwise_append]
      exact ⟨hpw, List.pairwise_singleton _ _, fun u hu v hv' => by rw [List.mem_singleton.mp hv']; exact (hv u hu).2⟩
    · rcases List.mem_append.mp hx with hx | hx
      · have := hv x hx
        omega
      · rw [List.mem_singleton.mp hx]
        omega
  · rintro e g ⟨xs, at1, x3, rfl, hl, p0, p1, hpw, hv, hB⟩
    rw [List.length_range] at hl p1
    simp only [S_var, S_C, S_op1, k1_, S_op2, k2_, k2b_, S_nil, S_cons, kc_, kcb_, S_opN, kN_, S_tup, S_lst, kT_u, kL_u, stoL_nil, stoL_dat, stoL_own, consO_some, SatO_some, S_call, kCall_u, S_if, S_ifS, kI_true, kI_false, S_andV, S_orV, kAndV_true, kAndV_false, kOrV_true, kOrV_false, S_test, kTest_, S_tru, kTru_, S_and, S_or, S_not, kAnd_true, kAnd_false, kOr_true, kOr_false, kNot_, S_seq, kS_nx, kS_rt, kS_bk, kS_ct, S_pass, S_set, kSet_dat, kSet_own, S_par, kP_, kPb_, S_ret', kR_, S_retN, S_break, S_cont, S_for, kF_, S_forNil, kFb_nx, kFb_ct, kFb_bk, kFb_rt, S_items, kItems_tup, kItems_lst, kItems_own, S_lc, kLc_, S_lcNil, S_yes, kD_rt, kD_nx, Rv.ret, gt, st, kVar_dat, kVar_own, o_add, o_sub, o_eq, o_ne, o_lt, o_le, o_gt, o_ge, o_eqB, o_neB, o_is2, o_isnot2, o_abs, o_ix, o_ixO, o_ixB, o_ixL, o_tupO, o_isBool, map_some', wp, tgN_, List.length_cons, List.length_nil, Nat.reduceAdd, Nat.reduceLeDiff, true_and, decide_true, decide_false, Bool.not_true, Bool.not_false, o_mul_u, o_div_u, o_mod_u, o_pow_u, o_eqS, o_neS, o_intB, o_lenS, o_lenO, o_lenB, o_iaddI, S_s1, kS1_, kS1b_, S_lm, kLm_bor, kLm_own, kLmb_, S_tab, o_ixT, o_ixS, S_put, kPut_, kPutK_, S_zip2, kZip_, kZipb_tup, o_sum, o_sumB, o_tupB, o_tupL, o_lenT, S_range1, kRng_3, S_tgtL, kTgtL_, List.nil_append, List.cons_append, Nat.reduceLT, SZ, forall_const, true_implies]
    refine q (xs.map bend) g ⟨by rw [List.length_map]; omega, by rw [List.length_map]; omega, fun v hv' => ?_, fun v hv' => ?_, bend_tri hpw, ?_⟩ (hB.le (by simp))
    · obtain ⟨x, hx, rfl⟩ := List.mem_map.mp hv'
      have hx1 := hv x hx
      have x8 : x.natAbs < 2 ^ 8 := by
        have : (2 : Nat) ^ 8 = 256 := by decide
        omega
      exact ⟨⟨by show (0 : Int) ≤ 1; decide, hx1.1, Int.mul_nonneg hx1.1 hx1.1, .inl (by show (1 : Int) ≠ 0; decide)⟩, ⟨by show (1 : Int).natAbs < 2 ^ 20; decide, ltUp x8 (by decide), ltUp (mulLt x8 x8) (by decide)⟩⟩
    · obtain ⟨x, hx, rfl⟩ := List.mem_map.mp hv'
      exact bend_low x
    · cases xs with
      | nil => exact absurd hl (by simp only [List.length_nil]; omega)
      | cons x xs => exact bend_beg hpw
end PB
set_option Elab.async false
set_option linter.all false
set_option maxRecDepth 10000
set_option maxHeartbeats 4000000
set_option exponentiation.threshold 20000
namespace PB
def isI : D → Bool
  | .int _ => true
  | _ => false
def wn : D → Bool
  | .int i => decide (0 ≤ i)
  | _ => false
/-- data that nobody changes, of a size -/
def Fit : Nat → D → Prop
  | _, .non => True
  | _, .bl _ => True
  | _, .int i => i.natAbs < 2 ^ 1000
  | _, .str s => s.length ≤ 1000
  | 0, _ => False
  | n + 1, .tup ds => ds.length ≤ 500 ∧ ∀ d ∈ ds, Fit n d
  | _ + 1, _ => False
theorem Fit.nref {n : Nat} {d : D} (h : Fit n d) : (∀ a, d ≠ .ref a) ∧ ∀ t ks vs, d ≠ .dct t ks vs := by
  constructor
  · rintro a rfl
    cases n <;> exact h
  · rintro t ks vs rfl
    cases n <;> exact h
theorem Fit.isT {n : Nat} {d : D} (h : Fit n d) (T : Ty) : oIs T (.dat d) = some (.dat (.bl (isTy T d))) := o_isT h.nref.1 h.nref.2
theorem Fit.up {n : Nat} {d : D} : ∀ {m : Nat}, n ≤ m → Fit n d → Fit m d := by
  induction n generalizing d with
  | zero =>
    intro m _ h
    cases d with
    | tup ds => exact h.elim
    | lst ds => exact h.elim
    | ref a => exact h.elim
    | dct t ks vs => exact h.elim
    | _ => cases m <;> exact h
  | succ n ih =>
    intro m hm h
    cases m with
    | zero => omega
    | succ m =>
      cases d with
      | tup ds => exact ⟨h.1, fun d hd => ih (by omega) (h.2 d hd)⟩
      | lst ds => exact h.elim
      | ref a => exact h.elim
      | dct t ks vs => exact h.elim
      | _ => exact h
theorem okL_of {n : Nat} : ∀ {ds : List D}, (∀ d ∈ ds, okE n d = true) → okL n ds = true
  | [], _ => by cases n <;> rfl
  | d :: ds, h => by
    have h1 := h d (by simp)
    have h2 := okL_of (ds := ds) fun d hd => h d (by simp [hd])
    cases n <;> (unfold okL; rw [h1, h2]; rfl)
theorem Fit.ok {n : Nat} {d : D} (h : Fit n d) : okE n d = true := by
  induction n generalizing d with
  | zero =>
    cases d with
    | tup ds => exact h.elim
    | lst ds => exact h.elim
    | ref a => exact h.elim
    | dct t ks vs => exact h.elim
    | _ => rfl
  | succ n ih =>
    cases d with
    | tup ds =>
      show okL n ds = true
      exact okL_of fun d hd => ih (h.2 d hd)
    | lst ds => exact h.elim
    | ref a => exact h.elim
    | dct t ks vs => exact h.elim
    | _ => rfl
def corner : D → Bool
  | .tup [.int x, .int y, .int z] => decide (0 ≤ x ∧ 0 ≤ y ∧ 0 ≤ z ∧ x + (y + (z + 0)) ≠ 0 ∧ lowV (x, y, z) = (x, y, z))
  | _ => false
section
variable {s : LS} {Q : Rv → LS → Prop} {d : D} {n : Nat}
theorem S_lwhoD (h : Fit n d) (q : Q (.dat (.bl (isI d))) s) : Sat (l_whoF [d] s) Q := by
  cases d with
  | ref a => exact absurd rfl (h.nref.1 a)
  | dct t ks vs => exact absurd rfl (h.nref.2 t ks vs)
  | _ => exact q
theorem S_isWhoD (h : Fit n d) (q : Q (.dat (.bl (isI d))) s) : Sat (is_wholeF [d] s) Q := by
  cases d with
  | ref a => exact absurd rfl (h.nref.1 a)
  | dct t ks vs => exact absurd rfl (h.nref.2 t ks vs)
  | _ => exact q
theorem oAll_bl {α : Type} (f : α → Bool) (ls : List α) : oAll [.own (ls.map fun x => .bl (f x))] = some (.dat (.bl (ls.all f))) := by
  show (dBls (ls.map fun x => D.bl (f x))).map _ = _
  have : dBls (ls.map fun x => D.bl (f x)) = some (ls.map f) := by
    induction ls with
    | nil => rfl
    | cons a r ih =>
      rw [List.map_cons]
      show (dBls _).map _ = _
      rw [ih]
      rfl
  rw [this]
  show some (Rv.dat (.bl ((ls.map f).all id))) = _
  rw [List.all_map]
  rfl
/-- a comprehension over any things, nothing changed -/
theorem S_lcDD {γ : Type} {e : Env} {g : γ} {t : MT γ} {a : ME γ} {Q : Rv → γ → Prop} {tg : MG} (ds : List D) (fn : D → D) (hl : ds.length ≤ SZ) (hs : ∀ x ∈ ds, ∃ e1, tg x e = some e1 ∧ Sat (t e1 g) fun c g1 => c = true ∧ g1 = g ∧ Sat (a e1 g) fun r g2 => r.sto = some (fn x) ∧ g2 = g) (hd : Q (.own (ds.map fn)) g) : Sat (lcL tg t a e ds [] g) Q := by
  have := S_lcA (tg := tg) (t := t) (a := a) (e := e) (g := g) (Q := Q) ds id fn hl hs hd
  rw [List.map_id] at this
  exact this
theorem three_of {ds : List D} (h1 : ds.length = 3) (h2 : ds.all wn = true) : ∃ x y z : Int, ds = [.int x, .int y, .int z] ∧ 0 ≤ x ∧ 0 ≤ y ∧ 0 ≤ z := by
  match ds, h1 with
  | [a, b, c], _ =>
    simp only [List.all_cons, List.all_nil, Bool.and_true, Bool.and_eq_true] at h2
    obtain ⟨ha, hb, hc⟩ := h2
    cases a <;> first
      | cases ha
      | skip
    cases b <;> first
      | cases hb
      | skip
    cases c <;> first
      | cases hc
      | skip
    exact ⟨_, _, _, rfl, of_decide_eq_true ha, of_decide_eq_true hb, of_decide_eq_true hc⟩
theorem corner_wn {ds : List D} (h : corner (.tup ds) = true) : ds.length = 3 ∧ ds.all wn = true := by
  match ds, h with
  | [.int x, .int y, .int z], h =>
    have h := of_decide_eq_true h
    refine ⟨rfl, ?_⟩
    simp [wn, h.1, h.2.1, h.2.2.1]
theorem S_isCornerD (h : Fit n d) (hn : n ≤ 50) (q : Q (.dat (.bl (corner d))) s) : Sat (is_cornerF [d] s) Q := by
  unfold is_cornerF
  rw [S_def (k := 1) (ds := [d]) rfl]
  show Sat (is_cornerM [.dat d, .un] s) _
  unfold is_cornerM
  have it := h.isT .tuple
  by_cases ht : ∃ ds, d = .tup ds
  · obtain ⟨ds, rfl⟩ := ht
    obtain ⟨m, rfl⟩ : ∃ m, n = m + 1 := by
      cases n with
      | zero => exact h.elim
      | succ m => exact ⟨m, rfl⟩
    have it : oIs .tuple (.dat (.tup ds)) = some (.dat (.bl true)) := it
    have hl := h.1
    by_cases h3 : ds.length = 3
    · have d3 : decide (((ds.length : Nat) : Int) = 3) = true := decide_eq_true (by omega)
      simp only [S_var, S_C, S_op1, k1_, S_op2, k2_, k2b_, S_nil, S_cons, kc_, kcb_, S_opN, kN_, S_tup, S_lst, kT_u, kL_u, stoL_nil, stoL_dat, stoL_own, consO_some, SatO_some, S_call, kCall_u, S_if, S_ifS, kI_true, kI_false, S_andV, S_orV, kAndV_true, kAndV_false, kOrV_true, kOrV_false, S_test, kTest_, S_tru, kTru_, S_and, S_or, S_not, kAnd_true, kAnd_false, kOr_true, kOr_false, kNot_, S_seq, kS_nx, kS_rt, kS_bk, kS_ct, S_pass, S_set, kSet_dat, kSet_own, S_par, kP_, kPb_, S_ret', kR_, S_retN, S_break, S_cont, S_for, kF_, S_forNil, kFb_nx, kFb_ct, kFb_bk, kFb_rt, S_items, kItems_tup, kItems_lst, kItems_own, S_lc, kLc_, S_lcNil, S_yes, kD_rt, kD_nx, Rv.ret, gt, st, kVar_dat, kVar_own, o_add, o_sub, o_eq, o_ne, o_lt, o_le, o_gt, o_ge, o_eqB, o_neB, o_is2, o_isnot2, o_abs, o_ix, o_ixO, o_ixB, o_ixL, o_tupO, o_isBool, map_some', wp, tgN_, List.length_cons, List.length_nil, Nat.reduceAdd, Nat.reduceLeDiff, true_and, decide_true, decide_false, Bool.not_true, Bool.not_false, o_mul_u, o_div_u, o_mod_u, o_pow_u, o_eqS, o_neS, o_intB, o_lenS, o_lenO, o_lenB, o_iaddI, S_s1, kS1_, kS1b_, S_lm, kLm_bor, kLm_own, kLmb_, S_tab, o_ixT, o_ixS, S_put, kPut_, kPutK_, S_zip2, kZip_, kZipb_tup, o_sum, o_sumB, o_tupB, o_tupL, o_lenT, S_range1, kRng_3, S_tgtL, kTgtL_, List.nil_append, List.cons_append, Nat.reduceLT, SZ, forall_const, true_implies, S_op1, k1_, it, d3]
      refine S_lcDD ds (fun d => .bl (wn d)) (by show _ ≤ 16777216; omega) (fun x hx => ⟨_, rfl, ?_⟩) ?_
      · simp only [S_var, S_C, S_op1, k1_, S_op2, k2_, k2b_, S_nil, S_cons, kc_, kcb_, S_opN, kN_, S_tup, S_lst, kT_u, kL_u, stoL_nil, stoL_dat, stoL_own, consO_some, SatO_some, S_call, kCall_u, S_if, S_ifS, kI_true, kI_false, S_andV, S_orV, kAndV_true, kAndV_false, kOrV_true, kOrV_false, S_test, kTest_, S_tru, kTru_, S_and, S_or, S_not, kAnd_true, kAnd_false, kOr_true, kOr_false, kNot_, S_seq, kS_nx, kS_rt, kS_bk, kS_ct, S_pass, S_set, kSet_dat, kSet_own, S_par, kP_, kPb_, S_ret', kR_, S_retN, S_break, S_cont, S_for, kF_, S_forNil, kFb_nx, kFb_ct, kFb_bk, kFb_rt, S_items, kItems_tup, kItems_lst, kItems_own, S_lc, kLc_, S_lcNil, S_yes, kD_rt, kD_nx, Rv.ret, gt, st, kVar_dat, kVar_own, o_add, o_sub, o_eq, o_ne, o_lt, o_le, o_gt, o_ge, o_eqB, o_neB, o_is2, o_isnot2, o_abs, o_ix, o_ixO, o_ixB, o_ixL, o_tupO, o_isBool, map_some', wp, tgN_, List.length_cons, List.length_nil, Nat.reduceAdd, Nat.reduceLeDiff, true_and, decide_true, decide_false, Bool.not_true, Bool.not_false, o_mul_u, o_div_u, o_mod_u, o_pow_u, o_eqS, o_neS, o_intB, o_lenS, o_lenO, o_lenB, o_iaddI, S_s1, kS1_, kS1b_, S_lm, kLm_bor, kLm_own, kLmb_, S_tab, o_ixT, o_ixS, S_put, kPut_, kPutK_, S_zip2, kZip_, kZipb_tup, o_sum, o_sumB, o_tupB, o_tupL, o_lenT, S_range1, kRng_3, S_tgtL, kTgtL_, List.nil_append, List.cons_append, Nat.reduceLT, SZ, forall_const, true_implies]
        refine S_isWhoD (h.2 x hx) ?_
        cases x <;> simp only [S_var, S_C, S_op1, k1_, S_op2, k2_, k2b_, S_nil, S_cons, kc_, kcb_, S_opN, kN_, S_tup, S_lst, kT_u, kL_u, stoL_nil, stoL_dat, stoL_own, consO_some, SatO_some, S_call, kCall_u, S_if, S_ifS, kI_true, kI_false, S_andV, S_orV, kAndV_true, kAndV_false, kOrV_true, kOrV_false, S_test, kTest_, S_tru, kTru_, S_and, S_or, S_not, kAnd_true, kAnd_false, kOr_true, kOr_false, kNot_, S_seq, kS_nx, kS_rt, kS_bk, kS_ct, S_pass, S_set, kSet_dat, kSet_own, S_par, kP_, kPb_, S_ret', kR_, S_retN, S_break, S_cont, S_for, kF_, S_forNil, kFb_nx, kFb_ct, kFb_bk, kFb_rt, S_items, kItems_tup, kItems_lst, kItems_own, S_lc, kLc_, S_lcNil, S_yes, kD_rt, kD_nx, Rv.ret, gt, st, kVar_dat, kVar_own, o_add, o_sub, o_eq, o_ne, o_lt, o_le, o_gt, o_ge, o_eqB, o_neB, o_is2, o_isnot2, o_abs, o_ix, o_ixO, o_ixB, o_ixL, o_tupO, o_isBool, map_some', wp, tgN_, List.length_cons, List.length_nil, Nat.reduceAdd, Nat.reduceLeDiff, true_and, decide_true, decide_false, Bool.not_true, Bool.not_false, o_mul_u, o_div_u, o_mod_u, o_pow_u, o_eqS, o_neS, o_intB, o_lenS, o_lenO, o_lenB, o_iaddI, S_s1, kS1_, kS1b_, S_lm, kLm_bor, kLm_own, kLmb_, S_tab, o_ixT, o_ixS, S_put, kPut_, kPutK_, S_zip2, kZip_, kZipb_tup, o_sum, o_sumB, o_tupB, o_tupL, o_lenT, S_range1, kRng_3, S_tgtL, kTgtL_, List.nil_append, List.cons_append, Nat.reduceLT, SZ, forall_const, true_implies, isI, wn, o_ge] <;> exact ⟨rfl, trivial⟩
      · simp only [S_var, S_C, S_op1, k1_, S_op2, k2_, k2b_, S_nil, S_cons, kc_, kcb_, S_opN, kN_, S_tup, S_lst, kT_u, kL_u, stoL_nil, stoL_dat, stoL_own, consO_some, SatO_some, S_call, kCall_u, S_if, S_ifS, kI_true, kI_false, S_andV, S_orV, kAndV_true, kAndV_false, kOrV_true, kOrV_false, S_test, kTest_, S_tru, kTru_, S_and, S_or, S_not, kAnd_true, kAnd_false, kOr_true, kOr_false, kNot_, S_seq, kS_nx, kS_rt, kS_bk, kS_ct, S_pass, S_set, kSet_dat, kSet_own, S_par, kP_, kPb_, S_ret', kR_, S_retN, S_break, S_cont, S_for, kF_, S_forNil, kFb_nx, kFb_ct, kFb_bk, kFb_rt, S_items, kItems_tup, kItems_lst, kItems_own, S_lc, kLc_, S_lcNil, S_yes, kD_rt, kD_nx, Rv.ret, gt, st, kVar_dat, kVar_own, o_add, o_sub, o_eq, o_ne, o_lt, o_le, o_gt, o_ge, o_eqB, o_neB, o_is2, o_isnot2, o_abs, o_ix, o_ixO, o_ixB, o_ixL, o_tupO, o_isBool, map_some', wp, tgN_, List.length_cons, List.length_nil, Nat.reduceAdd, Nat.reduceLeDiff, true_and, decide_true, decide_false, Bool.not_true, Bool.not_false, o_mul_u, o_div_u, o_mod_u, o_pow_u, o_eqS, o_neS, o_intB, o_lenS, o_lenO, o_lenB, o_iaddI, S_s1, kS1_, kS1b_, S_lm, kLm_bor, kLm_own, kLmb_, S_tab, o_ixT, o_ixS, S_put, kPut_, kPutK_, S_zip2, kZip_, kZipb_tup, o_sum, o_sumB, o_tupB, o_tupL, o_lenT, S_range1, kRng_3, S_tgtL, kTgtL_, List.nil_append, List.cons_append, Nat.reduceLT, SZ, forall_const, true_implies, oAll_bl]
        cases ha : ds.all wn with
        | false =>
          simp only [S_var, S_C, S_op1, k1_, S_op2, k2_, k2b_, S_nil, S_cons, kc_, kcb_, S_opN, kN_, S_tup, S_lst, kT_u, kL_u, stoL_nil, stoL_dat, stoL_own, consO_some, SatO_some, S_call, kCall_u, S_if, S_ifS, kI_true, kI_false, S_andV, S_orV, kAndV_true, kAndV_false, kOrV_true, kOrV_false, S_test, kTest_, S_tru, kTru_, S_and, S_or, S_not, kAnd_true, kAnd_false, kOr_true, kOr_false, kNot_, S_seq, kS_nx, kS_rt, kS_bk, kS_ct, S_pass, S_set, kSet_dat, kSet_own, S_par, kP_, kPb_, S_ret', kR_, S_retN, S_break, S_cont, S_for, kF_, S_forNil, kFb_nx, kFb_ct, kFb_bk, kFb_rt, S_items, kItems_tup, kItems_lst, kItems_own, S_lc, kLc_, S_lcNil, S_yes, kD_rt, kD_nx, Rv.ret, gt, st, kVar_dat, kVar_own, o_add, o_sub, o_eq, o_ne, o_lt, o_le, o_gt, o_ge, o_eqB, o_neB, o_is2, o_isnot2, o_abs, o_ix, o_ixO, o_ixB, o_ixL, o_tupO, o_isBool, map_some', wp, tgN_, List.length_cons, List.length_nil, Nat.reduceAdd, Nat.reduceLeDiff, true_and, decide_true, decide_false, Bool.not_true, Bool.not_false, o_mul_u, o_div_u, o_mod_u, o_pow_u, o_eqS, o_neS, o_intB, o_lenS, o_lenO, o_lenB, o_iaddI, S_s1, kS1_, kS1b_, S_lm, kLm_bor, kLm_own, kLmb_, S_tab, o_ixT, o_ixS, S_put, kPut_, kPutK_, S_zip2, kZip_, kZipb_tup, o_sum, o_sumB, o_tupB, o_tupL, o_lenT, S_range1, kRng_3, S_tgtL, kTgtL_, List.nil_append, List.cons_append, Nat.reduceLT, SZ, forall_const, true_implies]
          have : corner (.tup ds) = false := by
            cases hc : corner (.tup ds) with
            | false => rfl
            | true => rw [(corner_wn hc).2] at ha; cases ha
          rw [this] at q
          exact q
        | true =>
          obtain ⟨x, y, z, rfl, hx, hy, hz⟩ := three_of h3 ha
          have em : oSumA [.dat (.tup [.int x, .int y, .int z])] = some (.dat (.int (x + (y + (z + 0))))) := rfl
          simp only [S_var, S_C, S_op1, k1_, S_op2, k2_, k2b_, S_nil, S_cons, kc_, kcb_, S_opN, kN_, S_tup, S_lst, kT_u, kL_u, stoL_nil, stoL_dat, stoL_own, consO_some, SatO_some, S_call, kCall_u, S_if, S_ifS, kI_true, kI_false, S_andV, S_orV, kAndV_true, kAndV_false, kOrV_true, kOrV_false, S_test, kTest_, S_tru, kTru_, S_and, S_or, S_not, kAnd_true, kAnd_false, kOr_true, kOr_false, kNot_, S_seq, kS_nx, kS_rt, kS_bk, kS_ct, S_pass, S_set, kSet_dat, kSet_own, S_par, kP_, kPb_, S_ret', kR_, S_retN, S_break, S_cont, S_for, kF_, S_forNil, kFb_nx, kFb_ct, kFb_bk, kFb_rt, S_items, kItems_tup, kItems_lst, kItems_own, S_lc, kLc_, S_lcNil, S_yes, kD_rt, kD_nx, Rv.ret, gt, st, kVar_dat, kVar_own, o_add, o_sub, o_eq, o_ne, o_lt, o_le, o_gt, o_ge, o_eqB, o_neB, o_is2, o_isnot2, o_abs, o_ix, o_ixO, o_ixB, o_ixL, o_tupO, o_isBool, map_some', wp, tgN_, List.length_cons, List.length_nil, Nat.reduceAdd, Nat.reduceLeDiff, true_and, decide_true, decide_false, Bool.not_true, Bool.not_false, o_mul_u, o_div_u, o_mod_u, o_pow_u, o_eqS, o_neS, o_intB, o_lenS, o_lenO, o_lenB, o_iaddI, S_s1, kS1_, kS1b_, S_lm, kLm_bor, kLm_own, kLmb_, S_tab, o_ixT, o_ixS, S_put, kPut_, kPutK_, S_zip2, kZip_, kZipb_tup, o_sum, o_sumB, o_tupB, o_tupL, o_lenT, S_range1, kRng_3, S_tgtL, kTgtL_, List.nil_append, List.cons_append, Nat.reduceLT, SZ, forall_const, true_implies, em]
          by_cases c0 : x + (y + (z + 0)) = 0
          · have : corner (.tup [.int x, .int y, .int z]) = false := decide_eq_false fun z => z.2.2.2.1 c0
            rw [decide_eq_true c0]
            simp only [S_var, S_C, S_op1, k1_, S_op2, k2_, k2b_, S_nil, S_cons, kc_, kcb_, S_opN, kN_, S_tup, S_lst, kT_u, kL_u, stoL_nil, stoL_dat, stoL_own, consO_some, SatO_some, S_call, kCall_u, S_if, S_ifS, kI_true, kI_false, S_andV, S_orV, kAndV_true, kAndV_false, kOrV_true, kOrV_false, S_test, kTest_, S_tru, kTru_, S_and, S_or, S_not, kAnd_true, kAnd_false, kOr_true, kOr_false, kNot_, S_seq, kS_nx, kS_rt, kS_bk, kS_ct, S_pass, S_set, kSet_dat, kSet_own, S_par, kP_, kPb_, S_ret', kR_, S_retN, S_break, S_cont, S_for, kF_, S_forNil, kFb_nx, kFb_ct, kFb_bk, kFb_rt, S_items, kItems_tup, kItems_lst, kItems_own, S_lc, kLc_, S_lcNil, S_yes, kD_rt, kD_nx, Rv.ret, gt, st, kVar_dat, kVar_own, o_add, o_sub, o_eq, o_ne, o_lt, o_le, o_gt, o_ge, o_eqB, o_neB, o_is2, o_isnot2, o_abs, o_ix, o_ixO, o_ixB, o_ixL, o_tupO, o_isBool, map_some', wp, tgN_, List.length_cons, List.length_nil, Nat.reduceAdd, Nat.reduceLeDiff, true_and, decide_true, decide_false, Bool.not_true, Bool.not_false, o_mul_u, o_div_u, o_mod_u, o_pow_u, o_eqS, o_neS, o_intB, o_lenS, o_lenO, o_lenB, o_iaddI, S_s1, kS1_, kS1b_, S_lm, kLm_bor, kLm_own, kLmb_, S_tab, o_ixT, o_ixS, S_put, kPut_, kPutK_, S_zip2, kZip_, kZipb_tup, o_sum, o_sumB, o_tupB, o_tupL, o_lenT, S_range1, kRng_3, S_tgtL, kTgtL_, List.nil_append, List.cons_append, Nat.reduceLT, SZ, forall_const, true_implies]
            rw [this] at q
            exact q
          · rw [decide_eq_false c0]
            simp only [S_var, S_C, S_op1, k1_, S_op2, k2_, k2b_, S_nil, S_cons, kc_, kcb_, S_opN, kN_, S_tup, S_lst, kT_u, kL_u, stoL_nil, stoL_dat, stoL_own, consO_some, SatO_some, S_call, kCall_u, S_if, S_ifS, kI_true, kI_false, S_andV, S_orV, kAndV_true, kAndV_false, kOrV_true, kOrV_false, S_test, kTest_, S_tru, kTru_, S_and, S_or, S_not, kAnd_true, kAnd_false, kOr_true, kOr_false, kNot_, S_seq, kS_nx, kS_rt, kS_bk, kS_ct, S_pass, S_set, kSet_dat, kSet_own, S_par, kP_, kPb_, S_ret', kR_, S_retN, S_break, S_cont, S_for, kF_, S_forNil, kFb_nx, kFb_ct, kFb_bk, kFb_rt, S_items, kItems_tup, kItems_lst, kItems_own, S_lc, kLc_, S_lcNil, S_yes, kD_rt, kD_nx, Rv.ret, gt, st, kVar_dat, kVar_own, o_add, o_sub, o_eq, o_ne, o_lt, o_le, o_gt, o_ge, o_eqB, o_neB, o_is2, o_isnot2, o_abs, o_ix, o_ixO, o_ixB, o_ixL, o_tupO, o_isBool, map_some', wp, tgN_, List.length_cons, List.length_nil, Nat.reduceAdd, Nat.reduceLeDiff, true_and, decide_true, decide_false, Bool.not_true, Bool.not_false, o_mul_u, o_div_u, o_mod_u, o_pow_u, o_eqS, o_neS, o_intB, o_lenS, o_lenO, o_lenB, o_iaddI, S_s1, kS1_, kS1b_, S_lm, kLm_bor, kLm_own, kLmb_, S_tab, o_ixT, o_ixS, S_put, kPut_, kPutK_, S_zip2, kZip_, kZipb_tup, o_sum, o_sumB, o_tupB, o_tupL, o_lenT, S_range1, kRng_3, S_tgtL, kTgtL_, List.nil_append, List.cons_append, Nat.reduceLT, SZ, forall_const, true_implies]
            have bx : Lt3 1000 (x, y, z) := ⟨h.2 (.int x) (by simp) |> fun k => by cases m <;> exact k, h.2 (.int y) (by simp) |> fun k => by cases m <;> exact k, h.2 (.int z) (by simp) |> fun k => by cases m <;> exact k⟩
            refine S_low2T (v := (x, y, z)) ⟨hx, hy, hz, show x ≠ 0 ∨ y ≠ 0 ∨ z ≠ 0 by omega⟩ bx (by decide) ?_
            have e := eq_vd (lowV (x, y, z)) (x, y, z)
            simp only [S_var, S_C, S_op1, k1_, S_op2, k2_, k2b_, S_nil, S_cons, kc_, kcb_, S_opN, kN_, S_tup, S_lst, kT_u, kL_u, stoL_nil, stoL_dat, stoL_own, consO_some, SatO_some, S_call, kCall_u, S_if, S_ifS, kI_true, kI_false, S_andV, S_orV, kAndV_true, kAndV_false, kOrV_true, kOrV_false, S_test, kTest_, S_tru, kTru_, S_and, S_or, S_not, kAnd_true, kAnd_false, kOr_true, kOr_false, kNot_, S_seq, kS_nx, kS_rt, kS_bk, kS_ct, S_pass, S_set, kSet_dat, kSet_own, S_par, kP_, kPb_, S_ret', kR_, S_retN, S_break, S_cont, S_for, kF_, S_forNil, kFb_nx, kFb_ct, kFb_bk, kFb_rt, S_items, kItems_tup, kItems_lst, kItems_own, S_lc, kLc_, S_lcNil, S_yes, kD_rt, kD_nx, Rv.ret, gt, st, kVar_dat, kVar_own, o_add, o_sub, o_eq, o_ne, o_lt, o_le, o_gt, o_ge, o_eqB, o_neB, o_is2, o_isnot2, o_abs, o_ix, o_ixO, o_ixB, o_ixL, o_tupO, o_isBool, map_some', wp, tgN_, List.length_cons, List.length_nil, Nat.reduceAdd, Nat.reduceLeDiff, true_and, decide_true, decide_false, Bool.not_true, Bool.not_false, o_mul_u, o_div_u, o_mod_u, o_pow_u, o_eqS, o_neS, o_intB, o_lenS, o_lenO, o_lenB, o_iaddI, S_s1, kS1_, kS1b_, S_lm, kLm_bor, kLm_own, kLmb_, S_tab, o_ixT, o_ixS, S_put, kPut_, kPutK_, S_zip2, kZip_, kZipb_tup, o_sum, o_sumB, o_tupB, o_tupL, o_lenT, S_range1, kRng_3, S_tgtL, kTgtL_, List.nil_append, List.cons_append, Nat.reduceLT, SZ, forall_const, true_implies]
            rw [show D.tup [.int x, .int y, .int z] = vd (x, y, z) from rfl, e]
            simp only [S_var, S_C, S_op1, k1_, S_op2, k2_, k2b_, S_nil, S_cons, kc_, kcb_, S_opN, kN_, S_tup, S_lst, kT_u, kL_u, stoL_nil, stoL_dat, stoL_own, consO_some, SatO_some, S_call, kCall_u, S_if, S_ifS, kI_true, kI_false, S_andV, S_orV, kAndV_true, kAndV_false, kOrV_true, kOrV_false, S_test, kTest_, S_tru, kTru_, S_and, S_or, S_not, kAnd_true, kAnd_false, kOr_true, kOr_false, kNot_, S_seq, kS_nx, kS_rt, kS_bk, kS_ct, S_pass, S_set, kSet_dat, kSet_own, S_par, kP_, kPb_, S_ret', kR_, S_retN, S_break, S_cont, S_for, kF_, S_forNil, kFb_nx, kFb_ct, kFb_bk, kFb_rt, S_items, kItems_tup, kItems_lst, kItems_own, S_lc, kLc_, S_lcNil, S_yes, kD_rt, kD_nx, Rv.ret, gt, st, kVar_dat, kVar_own, o_add, o_sub, o_eq, o_ne, o_lt, o_le, o_gt, o_ge, o_eqB, o_neB, o_is2, o_isnot2, o_abs, o_ix, o_ixO, o_ixB, o_ixL, o_tupO, o_isBool, map_some', wp, tgN_, List.length_cons, List.length_nil, Nat.reduceAdd, Nat.reduceLeDiff, true_and, decide_true, decide_false, Bool.not_true, Bool.not_false, o_mul_u, o_div_u, o_mod_u, o_pow_u, o_eqS, o_neS, o_intB, o_lenS, o_lenO, o_lenB, o_iaddI, S_s1, kS1_, kS1b_, S_lm, kLm_bor, kLm_own, kLmb_, S_tab, o_ixT, o_ixS, S_put, kPut_, kPutK_, S_zip2, kZip_, kZipb_tup, o_sum, o_sumB, o_tupB, o_tupL, o_lenT, S_range1, kRng_3, S_tgtL, kTgtL_, List.nil_append, List.cons_append, Nat.reduceLT, SZ, forall_const, true_implies]
            have : corner (.tup [.int x, .int y, .int z]) = decide (lowV (x, y, z) = (x, y, z)) := decide_eq_decide.mpr ⟨fun k => k.2.2.2.2, fun k => ⟨hx, hy, hz, c0, k⟩⟩
            rw [this] at q
            exact q
    · have d3 : decide (((ds.length : Nat) : Int) = 3) = false := decide_eq_false (by omega)
      simp only [S_var, S_C, S_op1, k1_, S_op2, k2_, k2b_, S_nil, S_cons, kc_, kcb_, S_opN, kN_, S_tup, S_lst, kT_u, kL_u, stoL_nil, stoL_dat, stoL_own, consO_some, SatO_some, S_call, kCall_u, S_if, S_ifS, kI_true, kI_false, S_andV, S_orV, kAndV_true, kAndV_false, kOrV_true, kOrV_false, S_test, kTest_, S_tru, kTru_, S_and, S_or, S_not, kAnd_true, kAnd_false, kOr_true, kOr_false, kNot_, S_seq, kS_nx, kS_rt, kS_bk, kS_ct, S_pass, S_set, kSet_dat, kSet_own, S_par, kP_, kPb_, S_ret', kR_, S_retN, S_break, S_cont, S_for, kF_, S_forNil, kFb_nx, kFb_ct, kFb_bk, kFb_rt, S_items, kItems_tup, kItems_lst, kItems_own, S_lc, kLc_, S_lcNil, S_yes, kD_rt, kD_nx, Rv.ret, gt, st, kVar_dat, kVar_own, o_add, o_sub, o_eq, o_ne, o_lt, o_le, o_gt, o_ge, o_eqB, o_neB, o_is2, o_isnot2, o_abs, o_ix, o_ixO, o_ixB, o_ixL, o_tupO, o_isBool, map_some', wp, tgN_, List.length_cons, List.length_nil, Nat.reduceAdd, Nat.reduceLeDiff, true_and, decide_true, decide_false, Bool.not_true, Bool.not_false, o_mul_u, o_div_u, o_mod_u, o_pow_u, o_eqS, o_neS, o_intB, o_lenS, o_lenO, o_lenB, o_iaddI, S_s1, kS1_, kS1b_, S_lm, kLm_bor, kLm_own, kLmb_, S_tab, o_ixT, o_ixS, S_put, kPut_, kPutK_, S_zip2, kZip_, kZipb_tup, o_sum, o_sumB, o_tupB, o_tupL, o_lenT, S_range1, kRng_3, S_tgtL, kTgtL_, List.nil_append, List.cons_append, Nat.reduceLT, SZ, forall_const, true_implies, S_op1, k1_, it, d3]
      have : corner (.tup ds) = false := by
        cases hc : corner (.tup ds) with
        | false => rfl
        | true => exact absurd (corner_wn hc).1 h3
      rw [this] at q
      exact q
  · have tf : isTy .tuple d = false := by
      cases d <;> first
        | rfl
        | exact absurd ⟨_, rfl⟩ ht
    have cf : corner d = false := by
      cases d <;> first
        | rfl
        | exact absurd ⟨_, rfl⟩ ht
    rw [tf] at it
    rw [cf] at q
    simp only [S_var, S_C, S_op1, k1_, S_op2, k2_, k2b_, S_nil, S_cons, kc_, kcb_, S_opN, kN_, S_tup, S_lst, kT_u, kL_u, stoL_nil, stoL_dat, stoL_own, consO_some, SatO_some, S_call, kCall_u, S_if, S_ifS, kI_true, kI_false, S_andV, S_orV, kAndV_true, kAndV_false, kOrV_true, kOrV_false, S_test, kTest_, S_tru, kTru_, S_and, S_or, S_not, kAnd_true, kAnd_false, kOr_true, kOr_false, kNot_, S_seq, kS_nx, kS_rt, kS_bk, kS_ct, S_pass, S_set, kSet_dat, kSet_own, S_par, kP_, kPb_, S_ret', kR_, S_retN, S_break, S_cont, S_for, kF_, S_forNil, kFb_nx, kFb_ct, kFb_bk, kFb_rt, S_items, kItems_tup, kItems_lst, kItems_own, S_lc, kLc_, S_lcNil, S_yes, kD_rt, kD_nx, Rv.ret, gt, st, kVar_dat, kVar_own, o_add, o_sub, o_eq, o_ne, o_lt, o_le, o_gt, o_ge, o_eqB, o_neB, o_is2, o_isnot2, o_abs, o_ix, o_ixO, o_ixB, o_ixL, o_tupO, o_isBool, map_some', wp, tgN_, List.length_cons, List.length_nil, Nat.reduceAdd, Nat.reduceLeDiff, true_and, decide_true, decide_false, Bool.not_true, Bool.not_false, o_mul_u, o_div_u, o_mod_u, o_pow_u, o_eqS, o_neS, o_intB, o_lenS, o_lenO, o_lenB, o_iaddI, S_s1, kS1_, kS1b_, S_lm, kLm_bor, kLm_own, kLmb_, S_tab, o_ixT, o_ixS, S_put, kPut_, kPutK_, S_zip2, kZip_, kZipb_tup, o_sum, o_sumB, o_tupB, o_tupL, o_lenT, S_range1, kRng_3, S_tgtL, kTgtL_, List.nil_append, List.cons_append, Nat.reduceLT, SZ, forall_const, true_implies, S_op1, k1_, it]
    exact q
theorem S_lisPriceD (h : Fit n d) (hn : n ≤ 50) (q : Q (.dat (.bl (corner d))) s) : Sat (l_is_priceF [d] s) Q := by
  unfold l_is_priceF
  rw [S_def (k := 1) (ds := [d]) rfl]
  show Sat (l_is_priceM [.dat d, .un] s) _
  unfold l_is_priceM
  have it := h.isT .tuple
  by_cases ht : ∃ ds, d = .tup ds
  · obtain ⟨ds, rfl⟩ := ht
    obtain ⟨m, rfl⟩ : ∃ m, n = m + 1 := by
      cases n with
      | zero => exact h.elim
      | succ m => exact ⟨m, rfl⟩
    have it : oIs .tuple (.dat (.tup ds)) = some (.dat (.bl true)) := it
    have hl := h.1
    by_cases h3 : ds.length = 3
    · have d3 : decide (((ds.length : Nat) : Int) = 3) = true := decide_eq_true (by omega)
      simp only [S_var, S_C, S_op1, k1_, S_op2, k2_, k2b_, S_nil, S_cons, kc_, kcb_, S_opN, kN_, S_tup, S_lst, kT_u, kL_u, stoL_nil, stoL_dat, stoL_own, consO_some, SatO_some, S_call, kCall_u, S_if, S_ifS, kI_true, kI_false, S_andV, S_orV, kAndV_true, kAndV_false, kOrV_true, kOrV_false, S_test, kTest_, S_tru, kTru_, S_and, S_or, S_not, kAnd_true, kAnd_false, kOr_true, kOr_false, kNot_, S_seq, kS_nx, kS_rt, kS_bk, kS_ct, S_pass, S_set, kSet_dat, kSet_own, S_par, kP_, kPb_, S_ret', kR_, S_retN, S_break, S_cont, S_for, kF_, S_forNil, kFb_nx, kFb_ct, kFb_bk, kFb_rt, S_items, kItems_tup, kItems_lst, kItems_own, S_lc, kLc_, S_lcNil, S_yes, kD_rt, kD_nx, Rv.ret, gt, st, kVar_dat, kVar_own, o_add, o_sub, o_eq, o_ne, o_lt, o_le, o_gt, o_ge, o_eqB, o_neB, o_is2, o_isnot2, o_abs, o_ix, o_ixO, o_ixB, o_ixL, o_tupO, o_isBool, map_some', wp, tgN_, List.length_cons, List.length_nil, Nat.reduceAdd, Nat.reduceLeDiff, true_and, decide_true, decide_false, Bool.not_true, Bool.not_false, o_mul_u, o_div_u, o_mod_u, o_pow_u, o_eqS, o_neS, o_intB, o_lenS, o_lenO, o_lenB, o_iaddI, S_s1, kS1_, kS1b_, S_lm, kLm_bor, kLm_own, kLmb_, S_tab, o_ixT, o_ixS, S_put, kPut_, kPutK_, S_zip2, kZip_, kZipb_tup, o_sum, o_sumB, o_tupB, o_tupL, o_lenT, S_range1, kRng_3, S_tgtL, kTgtL_, List.nil_append, List.cons_append, Nat.reduceLT, SZ, forall_const, true_implies, S_op1, k1_, it, d3]
      refine S_lcDD ds (fun d => .bl (wn d)) (by show _ ≤ 16777216; omega) (fun x hx => ⟨_, rfl, ?_⟩) ?_
      · simp only [S_var, S_C, S_op1, k1_, S_op2, k2_, k2b_, S_nil, S_cons, kc_, kcb_, S_opN, kN_, S_tup, S_lst, kT_u, kL_u, stoL_nil, stoL_dat, stoL_own, consO_some, SatO_some, S_call, kCall_u, S_if, S_ifS, kI_true, kI_false, S_andV, S_orV, kAndV_true, kAndV_false, kOrV_true, kOrV_false, S_test, kTest_, S_tru, kTru_, S_and, S_or, S_not, kAnd_true, kAnd_false, kOr_true, kOr_false, kNot_, S_seq, kS_nx, kS_rt, kS_bk, kS_ct, S_pass, S_set, kSet_dat, kSet_own, S_par, kP_, kPb_, S_ret', kR_, S_retN, S_break, S_cont, S_for, kF_, S_forNil, kFb_nx, kFb_ct, kFb_bk, kFb_rt, S_items, kItems_tup, kItems_lst, kItems_own, S_lc, kLc_, S_lcNil, S_yes, kD_rt, kD_nx, Rv.ret, gt, st, kVar_dat, kVar_own, o_add, o_sub, o_eq, o_ne, o_lt, o_le, o_gt, o_ge, o_eqB, o_neB, o_is2, o_isnot2, o_abs, o_ix, o_ixO, o_ixB, o_ixL, o_tupO, o_isBool, map_some', wp, tgN_, List.length_cons, List.length_nil, Nat.reduceAdd, Nat.reduceLeDiff, true_and, decide_true, decide_false, Bool.not_true, Bool.not_false, o_mul_u, o_div_u, o_mod_u, o_pow_u, o_eqS, o_neS, o_intB, o_lenS, o_lenO, o_lenB, o_iaddI, S_s1, kS1_, kS1b_, S_lm, kLm_bor, kLm_own, kLmb_, S_tab, o_ixT, o_ixS, S_put, kPut_, kPutK_, S_zip2, kZip_, kZipb_tup, o_sum, o_sumB, o_tupB, o_tupL, o_lenT, S_range1, kRng_3, S_tgtL, kTgtL_, List.nil_append, List.cons_append, Nat.reduceLT, SZ, forall_const, true_implies]
        refine S_lwhoD (h.2 x hx) ?_
        cases x <;> simp only [S_var, S_C, S_op1, k1_, S_op2, k2_, k2b_, S_nil, S_cons, kc_, kcb_, S_opN, kN_, S_tup, S_lst, kT_u, kL_u, stoL_nil, stoL_dat, stoL_own, consO_some, SatO_some, S_call, kCall_u, S_if, S_ifS, kI_true, kI_false, S_andV, S_orV, kAndV_true, kAndV_false, kOrV_true, kOrV_false, S_test, kTest_, S_tru, kTru_, S_and, S_or, S_not, kAnd_true, kAnd_false, kOr_true, kOr_false, kNot_, S_seq, kS_nx, kS_rt, kS_bk, kS_ct, S_pass, S_set, kSet_dat, kSet_own, S_par, kP_, kPb_, S_ret', kR_, S_retN, S_break, S_cont, S_for, kF_, S_forNil, kFb_nx, kFb_ct, kFb_bk, kFb_rt, S_items, kItems_tup, kItems_lst, kItems_own, S_lc, kLc_, S_lcNil, S_yes, kD_rt, kD_nx, Rv.ret, gt, st, kVar_dat, kVar_own, o_add, o_sub, o_eq, o_ne, o_lt, o_le, o_gt, o_ge, o_eqB, o_neB, o_is2, o_isnot2, o_abs, o_ix, o_ixO, o_ixB, o_ixL, o_tupO, o_isBool, map_some', wp, tgN_, List.length_cons, List.length_nil, Nat.reduceAdd, Nat.reduceLeDiff, true_and, decide_true, decide_false, Bool.not_true, Bool.not_false, o_mul_u, o_div_u, o_mod_u, o_pow_u, o_eqS, o_neS, o_intB, o_lenS, o_lenO, o_lenB, o_iaddI, S_s1, kS1_, kS1b_, S_lm, kLm_bor, kLm_own, kLmb_, S_tab, o_ixT, o_ixS, S_put, kPut_, kPutK_, S_zip2, kZip_, kZipb_tup, o_sum, o_sumB, o_tupB, o_tupL, o_lenT, S_range1, kRng_3, S_tgtL, kTgtL_, List.nil_append, List.cons_append, Nat.reduceLT, SZ, forall_const, true_implies, isI, wn, o_ge] <;> exact ⟨rfl, trivial⟩
      · simp only [S_var, S_C, S_op1, k1_, S_op2, k2_, k2b_, S_nil, S_cons, kc_, kcb_, S_opN, kN_, S_tup, S_lst, kT_u, kL_u, stoL_nil, stoL_dat, stoL_own, consO_some, SatO_some, S_call, kCall_u, S_if, S_ifS, kI_true, kI_false, S_andV, S_orV, kAndV_true, kAndV_false, kOrV_true, kOrV_false, S_test, kTest_, S_tru, kTru_, S_and, S_or, S_not, kAnd_true, kAnd_false, kOr_true, kOr_false, kNot_, S_seq, kS_nx, kS_rt, kS_bk, kS_ct, S_pass, S_set, kSet_dat, kSet_own, S_par, kP_, kPb_, S_ret', kR_, S_retN, S_break, S_cont, S_for, kF_, S_forNil, kFb_nx, kFb_ct, kFb_bk, kFb_rt, S_items, kItems_tup, kItems_lst, kItems_own, S_lc, kLc_, S_lcNil, S_yes, kD_rt, kD_nx, Rv.ret, gt, st, kVar_dat, kVar_own, o_add, o_sub, o_eq, o_ne, o_lt, o_le, o_gt, o_ge, o_eqB, o_neB, o_is2, o_isnot2, o_abs, o_ix, o_ixO, o_ixB, o_ixL, o_tupO, o_isBool, map_some', wp, tgN_, List.length_cons, List.length_nil, Nat.reduceAdd, Nat.reduceLeDiff, true_and, decide_true, decide_false, Bool.not_true, Bool.not_false, o_mul_u, o_div_u, o_mod_u, o_pow_u, o_eqS, o_neS, o_intB, o_lenS, o_lenO, o_lenB, o_iaddI, S_s1, kS1_, kS1b_, S_lm, kLm_bor, kLm_own, kLmb_, S_tab, o_ixT, o_ixS, S_put, kPut_, kPutK_, S_zip2, kZip_, kZipb_tup, o_sum, o_sumB, o_tupB, o_tupL, o_lenT, S_range1, kRng_3, S_tgtL, kTgtL_, List.nil_append, List.cons_append, Nat.reduceLT, SZ, forall_const, true_implies, oAll_bl]
        cases ha : ds.all wn with
        | false =>
          simp only [S_var, S_C, S_op1, k1_, S_op2, k2_, k2b_, S_nil, S_cons, kc_, kcb_, S_opN, kN_, S_tup, S_lst, kT_u, kL_u, stoL_nil, stoL_dat, stoL_own, consO_some, SatO_some, S_call, kCall_u, S_if, S_ifS, kI_true, kI_false, S_andV, S_orV, kAndV_true, kAndV_false, kOrV_true, kOrV_false, S_test, kTest_, S_tru, kTru_, S_and, S_or, S_not, kAnd_true, kAnd_false, kOr_true, kOr_false, kNot_, S_seq, kS_nx, kS_rt, kS_bk, kS_ct, S_pass, S_set, kSet_dat, kSet_own, S_par, kP_, kPb_, S_ret', kR_, S_retN, S_break, S_cont, S_for, kF_, S_forNil, kFb_nx, kFb_ct, kFb_bk, kFb_rt, S_items, kItems_tup, kItems_lst, kItems_own, S_lc, kLc_, S_lcNil, S_yes, kD_rt, kD_nx, Rv.ret, gt, st, kVar_dat, kVar_own, o_add, o_sub, o_eq, o_ne, o_lt, o_le, o_gt, o_ge, o_eqB, o_neB, o_is2, o_isnot2, o_abs, o_ix, o_ixO, o_ixB, o_ixL, o_tupO, o_isBool, map_some', wp, tgN_, List.length_cons, List.length_nil, Nat.reduceAdd, Nat.reduceLeDiff, true_and, decide_true, decide_false, Bool.not_true, Bool.not_false, o_mul_u, o_div_u, o_mod_u, o_pow_u, o_eqS, o_neS, o_intB, o_lenS, o_lenO, o_lenB, o_iaddI, S_s1, kS1_, kS1b_, S_lm, kLm_bor, kLm_own, kLmb_, S_tab, o_ixT, o_ixS, S_put, kPut_, kPutK_, S_zip2, kZip_, kZipb_tup, o_sum, o_sumB, o_tupB, o_tupL, o_lenT, S_range1, kRng_3, S_tgtL, kTgtL_, List.nil_append, List.cons_append, Nat.reduceLT, SZ, forall_const, true_implies]
          have : corner (.tup ds) = false := by
            cases hc : corner (.tup ds) with
            | false => rfl
            | true => rw [(corner_wn hc).2] at ha; cases ha
          rw [this] at q
          exact q
        | true =>
          obtain ⟨x, y, z, rfl, hx, hy, hz⟩ := three_of h3 ha
          have em : oMaxA [.dat (.tup [.int x, .int y, .int z])] = some (.dat (.int (lmax x [y, z]))) := rfl
          have mz : (lmax x [y, z] = 0) ↔ (x + (y + (z + 0)) = 0) := by
            show ((if z > (if y > x then y else x) then z else (if y > x then y else x)) = 0) ↔ _
            split <;> split <;> omega
          simp only [S_var, S_C, S_op1, k1_, S_op2, k2_, k2b_, S_nil, S_cons, kc_, kcb_, S_opN, kN_, S_tup, S_lst, kT_u, kL_u, stoL_nil, stoL_dat, stoL_own, consO_some, SatO_some, S_call, kCall_u, S_if, S_ifS, kI_true, kI_false, S_andV, S_orV, kAndV_true, kAndV_false, kOrV_true, kOrV_false, S_test, kTest_, S_tru, kTru_, S_and, S_or, S_not, kAnd_true, kAnd_false, kOr_true, kOr_false, kNot_, S_seq, kS_nx, kS_rt, kS_bk, kS_ct, S_pass, S_set, kSet_dat, kSet_own, S_par, kP_, kPb_, S_ret', kR_, S_retN, S_break, S_cont, S_for, kF_, S_forNil, kFb_nx, kFb_ct, kFb_bk, kFb_rt, S_items, kItems_tup, kItems_lst, kItems_own, S_lc, kLc_, S_lcNil, S_yes, kD_rt, kD_nx, Rv.ret, gt, st, kVar_dat, kVar_own, o_add, o_sub, o_eq, o_ne, o_lt, o_le, o_gt, o_ge, o_eqB, o_neB, o_is2, o_isnot2, o_abs, o_ix, o_ixO, o_ixB, o_ixL, o_tupO, o_isBool, map_some', wp, tgN_, List.length_cons, List.length_nil, Nat.reduceAdd, Nat.reduceLeDiff, true_and, decide_true, decide_false, Bool.not_true, Bool.not_false, o_mul_u, o_div_u, o_mod_u, o_pow_u, o_eqS, o_neS, o_intB, o_lenS, o_lenO, o_lenB, o_iaddI, S_s1, kS1_, kS1b_, S_lm, kLm_bor, kLm_own, kLmb_, S_tab, o_ixT, o_ixS, S_put, kPut_, kPutK_, S_zip2, kZip_, kZipb_tup, o_sum, o_sumB, o_tupB, o_tupL, o_lenT, S_range1, kRng_3, S_tgtL, kTgtL_, List.nil_append, List.cons_append, Nat.reduceLT, SZ, forall_const, true_implies, em]
          by_cases c0 : x + (y + (z + 0)) = 0
          · have : corner (.tup [.int x, .int y, .int z]) = false := decide_eq_false fun z => z.2.2.2.1 c0
            rw [decide_eq_true (mz.mpr c0)]
            simp only [S_var, S_C, S_op1, k1_, S_op2, k2_, k2b_, S_nil, S_cons, kc_, kcb_, S_opN, kN_, S_tup, S_lst, kT_u, kL_u, stoL_nil, stoL_dat, stoL_own, consO_some, SatO_some, S_call, kCall_u, S_if, S_ifS, kI_true, kI_false, S_andV, S_orV, kAndV_true, kAndV_false, kOrV_true, kOrV_false, S_test, kTest_, S_tru, kTru_, S_and, S_or, S_not, kAnd_true, kAnd_false, kOr_true, kOr_false, kNot_, S_seq, kS_nx, kS_rt, kS_bk, kS_ct, S_pass, S_set, kSet_dat, kSet_own, S_par, kP_, kPb_, S_ret', kR_, S_retN, S_break, S_cont, S_for, kF_, S_forNil, kFb_nx, kFb_ct, kFb_bk, kFb_rt, S_items, kItems_tup, kItems_lst, kItems_own, S_lc, kLc_, S_lcNil, S_yes, kD_rt, kD_nx, Rv.ret, gt, st, kVar_dat, kVar_own, o_add, o_sub, o_eq, o_ne, o_lt, o_le, o_gt, o_ge, o_eqB, o_neB, o_is2, o_isnot2, o_abs, o_ix, o_ixO, o_ixB, o_ixL, o_tupO, o_isBool, map_some', wp, tgN_, List.length_cons, List.length_nil, Nat.reduceAdd, Nat.reduceLeDiff, true_and, decide_true, decide_false, Bool.not_true, Bool.not_false, o_mul_u, o_div_u, o_mod_u, o_pow_u, o_eqS, o_neS, o_intB, o_lenS, o_lenO, o_lenB, o_iaddI, S_s1, kS1_, kS1b_, S_lm, kLm_bor, kLm_own, kLmb_, S_tab, o_ixT, o_ixS, S_put, kPut_, kPutK_, S_zip2, kZip_, kZipb_tup, o_sum, o_sumB, o_tupB, o_tupL, o_lenT, S_range1, kRng_3, S_tgtL, kTgtL_, List.nil_append, List.cons_append, Nat.reduceLT, SZ, forall_const, true_implies]
            rw [this] at q
            exact q
          · rw [decide_eq_false (fun k => c0 (mz.mp k))]
            simp only [S_var, S_C, S_op1, k1_, S_op2, k2_, k2b_, S_nil, S_cons, kc_, kcb_, S_opN, kN_, S_tup, S_lst, kT_u, kL_u, stoL_nil, stoL_dat, stoL_own, consO_some, SatO_some, S_call, kCall_u, S_if, S_ifS, kI_true, kI_false, S_andV, S_orV, kAndV_true, kAndV_false, kOrV_true, kOrV_false, S_test, kTest_, S_tru, kTru_, S_and, S_or, S_not, kAnd_true, kAnd_false, kOr_true, kOr_false, kNot_, S_seq, kS_nx, kS_rt, kS_bk, kS_ct, S_pass, S_set, kSet_dat, kSet_own, S_par, kP_, kPb_, S_ret', kR_, S_retN, S_break, S_cont, S_for, kF_, S_forNil, kFb_nx, kFb_ct, kFb_bk, kFb_rt, S_items, kItems_tup, kItems_lst, kItems_own, S_lc, kLc_, S_lcNil, S_yes, kD_rt, kD_nx, Rv.ret, gt, st, kVar_dat, kVar_own, o_add, o_sub, o_eq, o_ne, o_lt, o_le, o_gt, o_ge, o_eqB, o_neB, o_is2, o_isnot2, o_abs, o_ix, o_ixO, o_ixB, o_ixL, o_tupO, o_isBool, map_some', wp, tgN_, List.length_cons, List.length_nil, Nat.reduceAdd, Nat.reduceLeDiff, true_and, decide_true, decide_false, Bool.not_true, Bool.not_false, o_mul_u, o_div_u, o_mod_u, o_pow_u, o_eqS, o_neS, o_intB, o_lenS, o_lenO, o_lenB, o_iaddI, S_s1, kS1_, kS1b_, S_lm, kLm_bor, kLm_own, kLmb_, S_tab, o_ixT, o_ixS, S_put, kPut_, kPutK_, S_zip2, kZip_, kZipb_tup, o_sum, o_sumB, o_tupB, o_tupL, o_lenT, S_range1, kRng_3, S_tgtL, kTgtL_, List.nil_append, List.cons_append, Nat.reduceLT, SZ, forall_const, true_implies]
            have bx : Lt3 1000 (x, y, z) := ⟨h.2 (.int x) (by simp) |> fun k => by cases m <;> exact k, h.2 (.int y) (by simp) |> fun k => by cases m <;> exact k, h.2 (.int z) (by simp) |> fun k => by cases m <;> exact k⟩
            refine S_llowT (v := (x, y, z)) ⟨hx, hy, hz, show x ≠ 0 ∨ y ≠ 0 ∨ z ≠ 0 by omega⟩ bx (by decide) ?_
            have e := eq_vd (lowV (x, y, z)) (x, y, z)
            simp only [S_var, S_C, S_op1, k1_, S_op2, k2_, k2b_, S_nil, S_cons, kc_, kcb_, S_opN, kN_, S_tup, S_lst, kT_u, kL_u, stoL_nil, stoL_dat, stoL_own, consO_some, SatO_some, S_call, kCall_u, S_if, S_ifS, kI_true, kI_false, S_andV, S_orV, kAndV_true, kAndV_false, kOrV_true, kOrV_false, S_test, kTest_, S_tru, kTru_, S_and, S_or, S_not, kAnd_true, kAnd_false, kOr_true, kOr_false, kNot_, S_seq, kS_nx, kS_rt, kS_bk, kS_ct, S_pass, S_set, kSet_dat, kSet_own, S_par, kP_, kPb_, S_ret', kR_, S_retN, S_break, S_cont, S_for, kF_, S_forNil, kFb_nx, kFb_ct, kFb_bk, kFb_rt, S_items, kItems_tup, kItems_lst, kItems_own, S_lc, kLc_, S_lcNil, S_yes, kD_rt, kD_nx, Rv.ret, gt, st, kVar_dat, kVar_own, o_add, o_sub, o_eq, o_ne, o_lt, o_le, o_gt, o_ge, o_eqB, o_neB, o_is2, o_isnot2, o_abs, o_ix, o_ixO, o_ixB, o_ixL, o_tupO, o_isBool, map_some', wp, tgN_, List.length_cons, List.length_nil, Nat.reduceAdd, Nat.reduceLeDiff, true_and, decide_true, decide_false, Bool.not_true, Bool.not_false, o_mul_u, o_div_u, o_mod_u, o_pow_u, o_eqS, o_neS, o_intB, o_lenS, o_lenO, o_lenB, o_iaddI, S_s1, kS1_, kS1b_, S_lm, kLm_bor, kLm_own, kLmb_, S_tab, o_ixT, o_ixS, S_put, kPut_, kPutK_, S_zip2, kZip_, kZipb_tup, o_sum, o_sumB, o_tupB, o_tupL, o_lenT, S_range1, kRng_3, S_tgtL, kTgtL_, List.nil_append, List.cons_append, Nat.reduceLT, SZ, forall_const, true_implies]
            rw [show D.tup [.int x, .int y, .int z] = vd (x, y, z) from rfl, e]
            simp only [S_var, S_C, S_op1, k1_, S_op2, k2_, k2b_, S_nil, S_cons, kc_, kcb_, S_opN, kN_, S_tup, S_lst, kT_u, kL_u, stoL_nil, stoL_dat, stoL_own, consO_some, SatO_some, S_call, kCall_u, S_if, S_ifS, kI_true, kI_false, S_andV, S_orV, kAndV_true, kAndV_false, kOrV_true, kOrV_false, S_test, kTest_, S_tru, kTru_, S_and, S_or, S_not, kAnd_true, kAnd_false, kOr_true, kOr_false, kNot_, S_seq, kS_nx, kS_rt, kS_bk, kS_ct, S_pass, S_set, kSet_dat, kSet_own, S_par, kP_, kPb_, S_ret', kR_, S_retN, S_break, S_cont, S_for, kF_, S_forNil, kFb_nx, kFb_ct, kFb_bk, kFb_rt, S_items, kItems_tup, kItems_lst, kItems_own, S_lc, kLc_, S_lcNil, S_yes, kD_rt, kD_nx, Rv.ret, gt, st, kVar_dat, kVar_own, o_add, o_sub, o_eq, o_ne, o_lt, o_le, o_gt, o_ge, o_eqB, o_neB, o_is2, o_isnot2, o_abs, o_ix, o_ixO, o_ixB, o_ixL, o_tupO, o_isBool, map_some', wp, tgN_, List.length_cons, List.length_nil, Nat.reduceAdd, Nat.reduceLeDiff, true_and, decide_true, decide_false, Bool.not_true, Bool.not_false, o_mul_u, o_div_u, o_mod_u, o_pow_u, o_eqS, o_neS, o_intB, o_lenS, o_lenO, o_lenB, o_iaddI, S_s1, kS1_, kS1b_, S_lm, kLm_bor, kLm_own, kLmb_, S_tab, o_ixT, o_ixS, S_put, kPut_, kPutK_, S_zip2, kZip_, kZipb_tup, o_sum, o_sumB, o_tupB, o_tupL, o_lenT, S_range1, kRng_3, S_tgtL, kTgtL_, List.nil_append, List.cons_append, Nat.reduceLT, SZ, forall_const, true_implies]
            have : corner (.tup [.int x, .int y, .int z]) = decide (lowV (x, y, z) = (x, y, z)) := decide_eq_decide.mpr ⟨fun k => k.2.2.2.2, fun k => ⟨hx, hy, hz, c0, k⟩⟩
            rw [this] at q
            exact q
    · have d3 : decide (((ds.length : Nat) : Int) = 3) = false := decide_eq_false (by omega)
      simp only [S_var, S_C, S_op1, k1_, S_op2, k2_, k2b_, S_nil, S_cons, kc_, kcb_, S_opN, kN_, S_tup, S_lst, kT_u, kL_u, stoL_nil, stoL_dat, stoL_own, consO_some, SatO_some, S_call, kCall_u, S_if, S_ifS, kI_true, kI_false, S_andV, S_orV, kAndV_true, kAndV_false, kOrV_true, kOrV_false, S_test, kTest_, S_tru, kTru_, S_and, S_or, S_not, kAnd_true, kAnd_false, kOr_true, kOr_false, kNot_, S_seq, kS_nx, kS_rt, kS_bk, kS_ct, S_pass, S_set, kSet_dat, kSet_own, S_par, kP_, kPb_, S_ret', kR_, S_retN, S_break, S_cont, S_for, kF_, S_forNil, kFb_nx, kFb_ct, kFb_bk, kFb_rt, S_items, kItems_tup, kItems_lst, kItems_own, S_lc, kLc_, S_lcNil, S_yes, kD_rt, kD_nx, Rv.ret, gt, st, kVar_dat, kVar_own, o_add, o_sub, o_eq, o_ne, o_lt, o_le, o_gt, o_ge, o_eqB, o_neB, o_is2, o_isnot2, o_abs, o_ix, o_ixO, o_ixB, o_ixL, o_tupO, o_isBool, map_some', wp, tgN_, List.length_cons, List.length_nil, Nat.reduceAdd, Nat.reduceLeDiff, true_and, decide_true, decide_false, Bool.not_true, Bool.not_false, o_mul_u, o_div_u, o_mod_u, o_pow_u, o_eqS, o_neS, o_intB, o_lenS, o_lenO, o_lenB, o_iaddI, S_s1, kS1_, kS1b_, S_lm, kLm_bor, kLm_own, kLmb_, S_tab, o_ixT, o_ixS, S_put, kPut_, kPutK_, S_zip2, kZip_, kZipb_tup, o_sum, o_sumB, o_tupB, o_tupL, o_lenT, S_range1, kRng_3, S_tgtL, kTgtL_, List.nil_append, List.cons_append, Nat.reduceLT, SZ, forall_const, true_implies, S_op1, k1_, it, d3]
      have : corner (.tup ds) = false := by
        cases hc : corner (.tup ds) with
        | false => rfl
        | true => exact absurd (corner_wn hc).1 h3
      rw [this] at q
      exact q
  · have tf : isTy .tuple d = false := by
      cases d <;> first
        | rfl
        | exact absurd ⟨_, rfl⟩ ht
    have cf : corner d = false := by
      cases d <;> first
        | rfl
        | exact absurd ⟨_, rfl⟩ ht
    rw [tf] at it
    rw [cf] at q
    simp only [S_var, S_C, S_op1, k1_, S_op2, k2_, k2b_, S_nil, S_cons, kc_, kcb_, S_opN, kN_, S_tup, S_lst, kT_u, kL_u, stoL_nil, stoL_dat, stoL_own, consO_some, SatO_some, S_call, kCall_u, S_if, S_ifS, kI_true, kI_false, S_andV, S_orV, kAndV_true, kAndV_false, kOrV_true, kOrV_false, S_test, kTest_, S_tru, kTru_, S_and, S_or, S_not, kAnd_true, kAnd_false, kOr_true, kOr_false, kNot_, S_seq, kS_nx, kS_rt, kS_bk, kS_ct, S_pass, S_set, kSet_dat, kSet_own, S_par, kP_, kPb_, S_ret', kR_, S_retN, S_break, S_cont, S_for, kF_, S_forNil, kFb_nx, kFb_ct, kFb_bk, kFb_rt, S_items, kItems_tup, kItems_lst, kItems_own, S_lc, kLc_, S_lcNil, S_yes, kD_rt, kD_nx, Rv.ret, gt, st, kVar_dat, kVar_own, o_add, o_sub, o_eq, o_ne, o_lt, o_le, o_gt, o_ge, o_eqB, o_neB, o_is2, o_isnot2, o_abs, o_ix, o_ixO, o_ixB, o_ixL, o_tupO, o_isBool, map_some', wp, tgN_, List.length_cons, List.length_nil, Nat.reduceAdd, Nat.reduceLeDiff, true_and, decide_true, decide_false, Bool.not_true, Bool.not_false, o_mul_u, o_div_u, o_mod_u, o_pow_u, o_eqS, o_neS, o_intB, o_lenS, o_lenO, o_lenB, o_iaddI, S_s1, kS1_, kS1b_, S_lm, kLm_bor, kLm_own, kLmb_, S_tab, o_ixT, o_ixS, S_put, kPut_, kPutK_, S_zip2, kZip_, kZipb_tup, o_sum, o_sumB, o_tupB, o_tupL, o_lenT, S_range1, kRng_3, S_tgtL, kTgtL_, List.nil_append, List.cons_append, Nat.reduceLT, SZ, forall_const, true_implies, S_op1, k1_, it]
    exact q
def T3 (vs : List V3) (k j : Nat) : Bool := decide (0 < det (prevV vs k) (vs.getD k (0, 0, 0)) (vs.getD j (0, 0, 0)))
/-- the corners that don't stand to the side of two neighbours -/
def rnd (vs : List V3) : Bool := (List.range vs.length).all fun k => (List.range vs.length).all fun j => decide (j = k) || decide (j = (k + vs.length - 1) % vs.length) || T3 vs k j
def rndP (vs : List V3) : Bool := (List.range vs.length).all fun k => (List.range (vs.length - 2)).all fun i => T3 vs k ((k + 1 + i) % vs.length)
theorem rnd_eq {vs : List V3} (h3 : 3 ≤ vs.length) : rndP vs = rnd vs := by
  unfold rndP rnd
  rw [Bool.eq_iff_iff, List.all_eq_true, List.all_eq_true]
  refine forall_congr' fun k => forall_congr' fun hk => ?_
  have hk := List.mem_range.mp hk
  have em : (k + vs.length - 1) % vs.length = if k = 0 then vs.length - 1 else k - 1 := by
    split
    · rename_i h0
      rw [h0, Nat.zero_add, Nat.mod_eq_of_lt (by omega)]
    · rw [show k + vs.length - 1 = (k - 1) + vs.length by omega, Nat.add_mod_right, Nat.mod_eq_of_lt (by omega)]
  rw [List.all_eq_true, List.all_eq_true, em]
  constructor
  · intro h j hj
    have hj := List.mem_range.mp hj
    by_cases c1 : j = k
    · simp [c1]
    · by_cases c2 : j = if k = 0 then vs.length - 1 else k - 1
      · simp [c2]
      · have hi : (if k < j then j - k - 1 else j + vs.length - k - 1) < vs.length - 2 := by
          by_cases c0 : k = 0
          · rw [if_pos c0] at c2
            split <;> omega
          · rw [if_neg c0] at c2
            split <;> omega
        have := h _ (List.mem_range.mpr hi)
        have e : (k + 1 + (if k < j then j - k - 1 else j + vs.length - k - 1)) % vs.length = j := by
          split
          · rw [show k + 1 + (j - k - 1) = j by omega, Nat.mod_eq_of_lt hj]
          · rw [show k + 1 + (j + vs.length - k - 1) = j + vs.length by omega, Nat.add_mod_right, Nat.mod_eq_of_lt hj]
        rw [e] at this
        simp [this]
  · intro h i hi
    have hi := List.mem_range.mp hi
    have hm : (k + 1 + i) % vs.length < vs.length := Nat.mod_lt _ (by omega)
    have ne : (k + 1 + i) % vs.length ≠ k ∧ (k + 1 + i) % vs.length ≠ if k = 0 then vs.length - 1 else k - 1 := by
      rcases Nat.lt_or_ge (k + 1 + i) vs.length with z | z
      · rw [Nat.mod_eq_of_lt z]
        refine ⟨by omega, ?_⟩
        split <;> omega
      · rw [Nat.mod_eq_sub_mod z, Nat.mod_eq_of_lt (by omega)]
        refine ⟨by omega, ?_⟩
        split <;> omega
    have := h _ (List.mem_range.mpr hm)
    simpa [ne.1, ne.2] using this
end
end PB
set_option Elab.async false
set_option linter.all false
set_option maxRecDepth 10000
set_option maxHeartbeats 4000000
set_option exponentiation.threshold 20000
namespace PB
section
variable {s : LS} {Q : Rv → LS → Prop} {d : D} {n : Nat}
theorem S_goesD {vs : List V3} (h : ∀ v ∈ vs, Lt3 1000 v) (h3 : 3 ≤ vs.length) (hk : vs.length ≤ 500) (q : Q (.dat (.bl (rndP vs))) s) : Sat (goes_roundF [shp vs] s) Q := by
  unfold goes_roundF
  rw [S_def (k := 1) (ds := [shp vs]) rfl]
  show Sat (goes_roundM [.dat (shp vs), .un, .un, .un] s) _
  unfold goes_roundM
  simp only [S_var, S_C, S_op1, k1_, S_op2, k2_, k2b_, S_nil, S_cons, kc_, kcb_, S_opN, kN_, S_tup, S_lst, kT_u, kL_u, stoL_nil, stoL_dat, stoL_own, consO_some, SatO_some, S_call, kCall_u, S_if, S_ifS, kI_true, kI_false, S_andV, S_orV, kAndV_true, kAndV_false, kOrV_true, kOrV_false, S_test, kTest_, S_tru, kTru_, S_and, S_or, S_not, kAnd_true, kAnd_false, kOr_true, kOr_false, kNot_, S_seq, kS_nx, kS_rt, kS_bk, kS_ct, S_pass, S_set, kSet_dat, kSet_own, S_par, kP_, kPb_, S_ret', kR_, S_retN, S_break, S_cont, S_for, kF_, S_forNil, kFb_nx, kFb_ct, kFb_bk, kFb_rt, S_items, kItems_tup, kItems_lst, kItems_own, S_lc, kLc_, S_lcNil, S_yes, kD_rt, kD_nx, Rv.ret, gt, st, kVar_dat, kVar_own, o_add, o_sub, o_eq, o_ne, o_lt, o_le, o_gt, o_ge, o_eqB, o_neB, o_is2, o_isnot2, o_abs, o_ix, o_ixO, o_ixB, o_ixL, o_tupO, o_isBool, map_some', wp, tgN_, List.length_cons, List.length_nil, Nat.reduceAdd, Nat.reduceLeDiff, true_and, decide_true, decide_false, Bool.not_true, Bool.not_false, o_mul_u, o_div_u, o_mod_u, o_pow_u, o_eqS, o_neS, o_intB, o_lenS, o_lenO, o_lenB, o_iaddI, S_s1, kS1_, kS1b_, S_lm, kLm_bor, kLm_own, kLmb_, S_tab, o_ixT, o_ixS, S_put, kPut_, kPutK_, S_zip2, kZip_, kZipb_tup, o_sum, o_sumB, o_tupB, o_tupL, o_lenT, S_range1, kRng_3, S_tgtL, kTgtL_, List.nil_append, List.cons_append, Nat.reduceLT, SZ, forall_const, true_implies, len_shp]
  refine kRngU (by omega) ?_
  rw [kF_]
  refine S_forA (List.range vs.length) (fun k => D.int (k : Nat)) (fun pre post e g => (∀ k ∈ pre, ((List.range (vs.length - 2)).all fun i => T3 vs k ((k + 1 + i) % vs.length)) = true) ∧ ∃ x2 x3 : Sl, g = s ∧ e = [.dat (shp vs), .dat (.int (vs.length : Nat)), x2, x3]) ⟨(fun k hk => nomatch hk), _, _, rfl, rfl⟩ ?_ ?_
  · rintro pre j post e g hr ⟨hpre, x2, x3, rfl, rfl⟩
    refine ⟨_, rfl, ?_⟩
    have hjr : j ∈ List.range vs.length := by rw [hr]; simp
    have hj : j < vs.length := List.mem_range.mp hjr
    have hA := h _ (prev_mem hj)
    have hB := h _ (getD_memV hj)
    have er : rngA [.dat (.int (((j : Nat) : Int) + 1)), .dat (.int (((j : Nat) : Int) + ((vs.length : Nat) : Int) - 1))] = some ((List.range (vs.length - 2)).map fun i => D.int ((j + 1 + i : Nat) : Int)) := by
      show (if RngOk (((j : Nat) : Int) + 1) ∧ RngOk (((j : Nat) : Int) + ((vs.length : Nat) : Int) - 1) then some (rng (((j : Nat) : Int) + 1) (((j : Nat) : Int) + ((vs.length : Nat) : Int) - 1 - (((j : Nat) : Int) + 1)).toNat) else none) = _
      have e1 : ((j : Nat) : Int) + 1 = ((j + 1 : Nat) : Int) := rfl
      have e2 : ((j : Nat) : Int) + ((vs.length : Nat) : Int) - 1 = ((j + vs.length - 1 : Nat) : Int) := by omega
      rw [e2, e1, if_pos ⟨rng_ok (by omega), rng_ok (by omega)⟩, rng_map]
      have e3 : (((j + vs.length - 1 : Nat) : Int) - ((j + 1 : Nat) : Int)).toNat = vs.length - 2 := by omega
      rw [e3]
      congr 1
    simp only [S_for, S_rangeU, S_cons, S_nil, S_op2, S_var, gt, st, kVar_dat, k2_, S_C, k2b_, o_add, o_sub, SatO_some, kc_, kcb_, er, kF_]
    refine S_forA (List.range (vs.length - 2)) (fun i => D.int ((j + 1 + i : Nat) : Int)) (fun pre post e g' => (∀ i ∈ pre, T3 vs j ((j + 1 + i) % vs.length) = true) ∧ ∃ x3 : Sl, g' = g ∧ e = [.dat (shp vs), .dat (.int (vs.length : Nat)), .dat (.int (j : Nat)), x3]) ⟨(fun k hk => nomatch hk), _, rfl, rfl⟩ ?_ ?_
    · rintro pre2 i post2 e g' hr2 ⟨hpre2, x3, rfl, rfl⟩
      refine ⟨_, rfl, ?_⟩
      have hir : i ∈ List.range (vs.length - 2) := by rw [hr2]; simp
      have hm : (j + 1 + i) % vs.length < vs.length := Nat.mod_lt _ (by omega)
      have hC := h _ (getD_memV hm)
      have hix := ix_shp hm
      have em : ((j + 1 + i : Nat) : Int) % ((vs.length : Nat) : Int) = (((j + 1 + i) % vs.length : Nat) : Int) := rfl
      simp only [S_var, S_C, S_op1, k1_, S_op2, k2_, k2b_, S_nil, S_cons, kc_, kcb_, S_opN, kN_, S_tup, S_lst, kT_u, kL_u, stoL_nil, stoL_dat, stoL_own, consO_some, SatO_some, S_call, kCall_u, S_if, S_ifS, kI_true, kI_false, S_andV, S_orV, kAndV_true, kAndV_false, kOrV_true, kOrV_false, S_test, kTest_, S_tru, kTru_, S_and, S_or, S_not, kAnd_true, kAnd_false, kOr_true, kOr_false, kNot_, S_seq, kS_nx, kS_rt, kS_bk, kS_ct, S_pass, S_set, kSet_dat, kSet_own, S_par, kP_, kPb_, S_ret', kR_, S_retN, S_break, S_cont, S_for, kF_, S_forNil, kFb_nx, kFb_ct, kFb_bk, kFb_rt, S_items, kItems_tup, kItems_lst, kItems_own, S_lc, kLc_, S_lcNil, S_yes, kD_rt, kD_nx, Rv.ret, gt, st, kVar_dat, kVar_own, o_add, o_sub, o_eq, o_ne, o_lt, o_le, o_gt, o_ge, o_eqB, o_neB, o_is2, o_isnot2, o_abs, o_ix, o_ixO, o_ixB, o_ixL, o_tupO, o_isBool, map_some', wp, tgN_, List.length_cons, List.length_nil, Nat.reduceAdd, Nat.reduceLeDiff, true_and, decide_true, decide_false, Bool.not_true, Bool.not_false, o_mul_u, o_div_u, o_mod_u, o_pow_u, o_eqS, o_neS, o_intB, o_lenS, o_lenO, o_lenB, o_iaddI, S_s1, kS1_, kS1b_, S_lm, kLm_bor, kLm_own, kLmb_, S_tab, o_ixT, o_ixS, S_put, kPut_, kPutK_, S_zip2, kZip_, kZipb_tup, o_sum, o_sumB, o_tupB, o_tupL, o_lenT, S_range1, kRng_3, S_tgtL, kTgtL_, List.nil_append, List.cons_append, Nat.reduceLT, SZ, forall_const, true_implies, ix_shp hj, ix_shp1 hj, em]
      refine ⟨by omega, ?_⟩
      simp only [S_var, S_C, S_op1, k1_, S_op2, k2_, k2b_, S_nil, S_cons, kc_, kcb_, S_opN, kN_, S_tup, S_lst, kT_u, kL_u, stoL_nil, stoL_dat, stoL_own, consO_some, SatO_some, S_call, kCall_u, S_if, S_ifS, kI_true, kI_false, S_andV, S_orV, kAndV_true, kAndV_false, kOrV_true, kOrV_false, S_test, kTest_, S_tru, kTru_, S_and, S_or, S_not, kAnd_true, kAnd_false, kOr_true, kOr_false, kNot_, S_seq, kS_nx, kS_rt, kS_bk, kS_ct, S_pass, S_set, kSet_dat, kSet_own, S_par, kP_, kPb_, S_ret', kR_, S_retN, S_break, S_cont, S_for, kF_, S_forNil, kFb_nx, kFb_ct, kFb_bk, kFb_rt, S_items, kItems_tup, kItems_lst, kItems_own, S_lc, kLc_, S_lcNil, S_yes, kD_rt, kD_nx, Rv.ret, gt, st, kVar_dat, kVar_own, o_add, o_sub, o_eq, o_ne, o_lt, o_le, o_gt, o_ge, o_eqB, o_neB, o_is2, o_isnot2, o_abs, o_ix, o_ixO, o_ixB, o_ixL, o_tupO, o_isBool, map_some', wp, tgN_, List.length_cons, List.length_nil, Nat.reduceAdd, Nat.reduceLeDiff, true_and, decide_true, decide_false, Bool.not_true, Bool.not_false, o_mul_u, o_div_u, o_mod_u, o_pow_u, o_eqS, o_neS, o_intB, o_lenS, o_lenO, o_lenB, o_iaddI, S_s1, kS1_, kS1b_, S_lm, kLm_bor, kLm_own, kLmb_, S_tab, o_ixT, o_ixS, S_put, kPut_, kPutK_, S_zip2, kZip_, kZipb_tup, o_sum, o_sumB, o_tupB, o_tupL, o_lenT, S_range1, kRng_3, S_tgtL, kTgtL_, List.nil_append, List.cons_append, Nat.reduceLT, SZ, forall_const, true_implies, hix]
      refine S_turnOf hA hB hC (by decide) ?_
      simp only [S_var, S_C, S_op1, k1_, S_op2, k2_, k2b_, S_nil, S_cons, kc_, kcb_, S_opN, kN_, S_tup, S_lst, kT_u, kL_u, stoL_nil, stoL_dat, stoL_own, consO_some, SatO_some, S_call, kCall_u, S_if, S_ifS, kI_true, kI_false, S_andV, S_orV, kAndV_true, kAndV_false, kOrV_true, kOrV_false, S_test, kTest_, S_tru, kTru_, S_and, S_or, S_not, kAnd_true, kAnd_false, kOr_true, kOr_false, kNot_, S_seq, kS_nx, kS_rt, kS_bk, kS_ct, S_pass, S_set, kSet_dat, kSet_own, S_par, kP_, kPb_, S_ret', kR_, S_retN, S_break, S_cont, S_for, kF_, S_forNil, kFb_nx, kFb_ct, kFb_bk, kFb_rt, S_items, kItems_tup, kItems_lst, kItems_own, S_lc, kLc_, S_lcNil, S_yes, kD_rt, kD_nx, Rv.ret, gt, st, kVar_dat, kVar_own, o_add, o_sub, o_eq, o_ne, o_lt, o_le, o_gt, o_ge, o_eqB, o_neB, o_is2, o_isnot2, o_abs, o_ix, o_ixO, o_ixB, o_ixL, o_tupO, o_isBool, map_some', wp, tgN_, List.length_cons, List.length_nil, Nat.reduceAdd, Nat.reduceLeDiff, true_and, decide_true, decide_false, Bool.not_true, Bool.not_false, o_mul_u, o_div_u, o_mod_u, o_pow_u, o_eqS, o_neS, o_intB, o_lenS, o_lenO, o_lenB, o_iaddI, S_s1, kS1_, kS1b_, S_lm, kLm_bor, kLm_own, kLmb_, S_tab, o_ixT, o_ixS, S_put, kPut_, kPutK_, S_zip2, kZip_, kZipb_tup, o_sum, o_sumB, o_tupB, o_tupL, o_lenT, S_range1, kRng_3, S_tgtL, kTgtL_, List.nil_append, List.cons_append, Nat.reduceLT, SZ, forall_const, true_implies]
      by_cases c : det (prevV vs j) (vs.getD j (0, 0, 0)) (vs.getD ((j + 1 + i) % vs.length) (0, 0, 0)) ≤ 0
      · have hf : rndP vs = false := by
          cases hc : rndP vs with
          | false => rfl
          | true =>
            have := List.all_eq_true.mp (List.all_eq_true.mp hc j hjr) i hir
            have := of_decide_eq_true this
            omega
        rw [decide_eq_true c]
        simp only [S_var, S_C, S_op1, k1_, S_op2, k2_, k2b_, S_nil, S_cons, kc_, kcb_, S_opN, kN_, S_tup, S_lst, kT_u, kL_u, stoL_nil, stoL_dat, stoL_own, consO_some, SatO_some, S_call, kCall_u, S_if, S_ifS, kI_true, kI_false, S_andV, S_orV, kAndV_true, kAndV_false, kOrV_true, kOrV_false, S_test, kTest_, S_tru, kTru_, S_and, S_or, S_not, kAnd_true, kAnd_false, kOr_true, kOr_false, kNot_, S_seq, kS_nx, kS_rt, kS_bk, kS_ct, S_pass, S_set, kSet_dat, kSet_own, S_par, kP_, kPb_, S_ret', kR_, S_retN, S_break, S_cont, S_for, kF_, S_forNil, kFb_nx, kFb_ct, kFb_bk, kFb_rt, S_items, kItems_tup, kItems_lst, kItems_own, S_lc, kLc_, S_lcNil, S_yes, kD_rt, kD_nx, Rv.ret, gt, st, kVar_dat, kVar_own, o_add, o_sub, o_eq, o_ne, o_lt, o_le, o_gt, o_ge, o_eqB, o_neB, o_is2, o_isnot2, o_abs, o_ix, o_ixO, o_ixB, o_ixL, o_tupO, o_isBool, map_some', wp, tgN_, List.length_cons, List.length_nil, Nat.reduceAdd, Nat.reduceLeDiff, true_and, decide_true, decide_false, Bool.not_true, Bool.not_false, o_mul_u, o_div_u, o_mod_u, o_pow_u, o_eqS, o_neS, o_intB, o_lenS, o_lenO, o_lenB, o_iaddI, S_s1, kS1_, kS1b_, S_lm, kLm_bor, kLm_own, kLmb_, S_tab, o_ixT, o_ixS, S_put, kPut_, kPutK_, S_zip2, kZip_, kZipb_tup, o_sum, o_sumB, o_tupB, o_tupL, o_lenT, S_range1, kRng_3, S_tgtL, kTgtL_, List.nil_append, List.cons_append, Nat.reduceLT, SZ, forall_const, true_implies]
        rw [hf] at q
        exact q
      · rw [decide_eq_false c]
        simp only [S_var, S_C, S_op1, k1_, S_op2, k2_, k2b_, S_nil, S_cons, kc_, kcb_, S_opN, kN_, S_tup, S_lst, kT_u, kL_u, stoL_nil, stoL_dat, stoL_own, consO_some, SatO_some, S_call, kCall_u, S_if, S_ifS, kI_true, kI_false, S_andV, S_orV, kAndV_true, kAndV_false, kOrV_true, kOrV_false, S_test, kTest_, S_tru, kTru_, S_and, S_or, S_not, kAnd_true, kAnd_false, kOr_true, kOr_false, kNot_, S_seq, kS_nx, kS_rt, kS_bk, kS_ct, S_pass, S_set, kSet_dat, kSet_own, S_par, kP_, kPb_, S_ret', kR_, S_retN, S_break, S_cont, S_for, kF_, S_forNil, kFb_nx, kFb_ct, kFb_bk, kFb_rt, S_items, kItems_tup, kItems_lst, kItems_own, S_lc, kLc_, S_lcNil, S_yes, kD_rt, kD_nx, Rv.ret, gt, st, kVar_dat, kVar_own, o_add, o_sub, o_eq, o_ne, o_lt, o_le, o_gt, o_ge, o_eqB, o_neB, o_is2, o_isnot2, o_abs, o_ix, o_ixO, o_ixB, o_ixL, o_tupO, o_isBool, map_some', wp, tgN_, List.length_cons, List.length_nil, Nat.reduceAdd, Nat.reduceLeDiff, true_and, decide_true, decide_false, Bool.not_true, Bool.not_false, o_mul_u, o_div_u, o_mod_u, o_pow_u, o_eqS, o_neS, o_intB, o_lenS, o_lenO, o_lenB, o_iaddI, S_s1, kS1_, kS1b_, S_lm, kLm_bor, kLm_own, kLmb_, S_tab, o_ixT, o_ixS, S_put, kPut_, kPutK_, S_zip2, kZip_, kZipb_tup, o_sum, o_sumB, o_tupB, o_tupL, o_lenT, S_range1, kRng_3, S_tgtL, kTgtL_, List.nil_append, List.cons_append, Nat.reduceLT, SZ, forall_const, true_implies]
        refine ⟨fun k hk => ?_, _, rfl⟩
        rcases List.mem_append.mp hk with hk | hk
        · exact hpre2 k hk
        · rw [List.mem_singleton.mp hk]
          exact decide_eq_true (by omega)
    · rintro e g' ⟨hall, x3, rfl, rfl⟩
      refine ⟨fun k hk => ?_, _, _, rfl, rfl⟩
      rcases List.mem_append.mp hk with hk | hk
      · exact hpre k hk
      · rw [List.mem_singleton.mp hk]
        exact List.all_eq_true.mpr hall
  · rintro e g ⟨hall, x2, x3, rfl, rfl⟩
    have : rndP vs = true := List.all_eq_true.mpr hall
    rw [this] at q
    simp only [S_var, S_C, S_op1, k1_, S_op2, k2_, k2b_, S_nil, S_cons, kc_, kcb_, S_opN, kN_, S_tup, S_lst, kT_u, kL_u, stoL_nil, stoL_dat, stoL_own, consO_some, SatO_some, S_call, kCall_u, S_if, S_ifS, kI_true, kI_false, S_andV, S_orV, kAndV_true, kAndV_false, kOrV_true, kOrV_false, S_test, kTest_, S_tru, kTru_, S_and, S_or, S_not, kAnd_true, kAnd_false, kOr_true, kOr_false, kNot_, S_seq, kS_nx, kS_rt, kS_bk, kS_ct, S_pass, S_set, kSet_dat, kSet_own, S_par, kP_, kPb_, S_ret', kR_, S_retN, S_break, S_cont, S_for, kF_, S_forNil, kFb_nx, kFb_ct, kFb_bk, kFb_rt, S_items, kItems_tup, kItems_lst, kItems_own, S_lc, kLc_, S_lcNil, S_yes, kD_rt, kD_nx, Rv.ret, gt, st, kVar_dat, kVar_own, o_add, o_sub, o_eq, o_ne, o_lt, o_le, o_gt, o_ge, o_eqB, o_neB, o_is2, o_isnot2, o_abs, o_ix, o_ixO, o_ixB, o_ixL, o_tupO, o_isBool, map_some', wp, tgN_, List.length_cons, List.length_nil, Nat.reduceAdd, Nat.reduceLeDiff, true_and, decide_true, decide_false, Bool.not_true, Bool.not_false, o_mul_u, o_div_u, o_mod_u, o_pow_u, o_eqS, o_neS, o_intB, o_lenS, o_lenO, o_lenB, o_iaddI, S_s1, kS1_, kS1b_, S_lm, kLm_bor, kLm_own, kLmb_, S_tab, o_ixT, o_ixS, S_put, kPut_, kPutK_, S_zip2, kZip_, kZipb_tup, o_sum, o_sumB, o_tupB, o_tupL, o_lenT, S_range1, kRng_3, S_tgtL, kTgtL_, List.nil_append, List.cons_append, Nat.reduceLT, SZ, forall_const, true_implies]
    exact q
/-- what a thing is as a shape -/
def vof : D → V3
  | .tup [.int x, .int y, .int z] => (x, y, z)
  | _ => (0, 0, 0)
theorem corner_vd {d : D} (h : corner d = true) : d = vd (vof d) := by
  unfold corner at h
  split at h
  · rfl
  · cases h
theorem corner_lt {d : D} (h : corner d = true) (hf : Fit n d) : Lt3 1000 (vof d) := by
  unfold corner at h
  split at h
  · rename_i x y z
    cases n with
    | zero => exact hf.elim
    | succ m => exact ⟨hf.2 (.int x) (by simp) |> fun k => by cases m <;> exact k, hf.2 (.int y) (by simp) |> fun k => by cases m <;> exact k, hf.2 (.int z) (by simp) |> fun k => by cases m <;> exact k⟩
  · cases h
theorem corners_shp {ds : List D} (h : ds.all corner = true) : D.tup ds = shp (ds.map vof) := by
  show D.tup ds = D.tup _
  rw [List.map_map]
  congr 1
  induction ds with
  | nil => rfl
  | cons a r ih =>
    rw [List.all_cons, Bool.and_eq_true] at h
    rw [List.map_cons, ← ih h.2]
    congr 1
    exact corner_vd h.1
def isShp : D → Bool
  | .tup ds => decide (3 ≤ ds.length) && (ds.all corner && (rnd (ds.map vof) && ((ds.map vof).drop 1).all fun v => ltV ((ds.map vof).getD 0 (0, 0, 0)) v))
  | _ => false
theorem S_isShapeD (h : Fit n d) (hn : n ≤ 50) (q : Q (.dat (.bl (isShp d))) s) : Sat (is_shapeF [d] s) Q := by
  unfold is_shapeF
  rw [S_def (k := 1) (ds := [d]) rfl]
  show Sat (is_shapeM [.dat d, .un, .un] s) _
  unfold is_shapeM
  have it := h.isT .tuple
  by_cases ht : ∃ ds, d = .tup ds
  · obtain ⟨ds, rfl⟩ := ht
    obtain ⟨m, rfl⟩ : ∃ m, n = m + 1 := by
      cases n with
      | zero => exact h.elim
      | succ m => exact ⟨m, rfl⟩
    have it : oIs .tuple (.dat (.tup ds)) = some (.dat (.bl true)) := it
    have hl := h.1
    by_cases h3 : 3 ≤ ds.length
    · have d3 : decide (((ds.length : Nat) : Int) < 3) = false := decide_eq_false (by omega)
      simp only [S_var, S_C, S_op1, k1_, S_op2, k2_, k2b_, S_nil, S_cons, kc_, kcb_, S_opN, kN_, S_tup, S_lst, kT_u, kL_u, stoL_nil, stoL_dat, stoL_own, consO_some, SatO_some, S_call, kCall_u, S_if, S_ifS, kI_true, kI_false, S_andV, S_orV, kAndV_true, kAndV_false, kOrV_true, kOrV_false, S_test, kTest_, S_tru, kTru_, S_and, S_or, S_not, kAnd_true, kAnd_false, kOr_true, kOr_false, kNot_, S_seq, kS_nx, kS_rt, kS_bk, kS_ct, S_pass, S_set, kSet_dat, kSet_own, S_par, kP_, kPb_, S_ret', kR_, S_retN, S_break, S_cont, S_for, kF_, S_forNil, kFb_nx, kFb_ct, kFb_bk, kFb_rt, S_items, kItems_tup, kItems_lst, kItems_own, S_lc, kLc_, S_lcNil, S_yes, kD_rt, kD_nx, Rv.ret, gt, st, kVar_dat, kVar_own, o_add, o_sub, o_eq, o_ne, o_lt, o_le, o_gt, o_ge, o_eqB, o_neB, o_is2, o_isnot2, o_abs, o_ix, o_ixO, o_ixB, o_ixL, o_tupO, o_isBool, map_some', wp, tgN_, List.length_cons, List.length_nil, Nat.reduceAdd, Nat.reduceLeDiff, true_and, decide_true, decide_false, Bool.not_true, Bool.not_false, o_mul_u, o_div_u, o_mod_u, o_pow_u, o_eqS, o_neS, o_intB, o_lenS, o_lenO, o_lenB, o_iaddI, S_s1, kS1_, kS1b_, S_lm, kLm_bor, kLm_own, kLmb_, S_tab, o_ixT, o_ixS, S_put, kPut_, kPutK_, S_zip2, kZip_, kZipb_tup, o_sum, o_sumB, o_tupB, o_tupL, o_lenT, S_range1, kRng_3, S_tgtL, kTgtL_, List.nil_append, List.cons_append, Nat.reduceLT, SZ, forall_const, true_implies, S_op1, k1_, it, d3]
      refine S_lcDD ds (fun d => .bl (corner d)) (by show _ ≤ 16777216; omega) (fun x hx => ⟨_, rfl, ?_⟩) ?_
      · simp only [S_var, S_C, S_op1, k1_, S_op2, k2_, k2b_, S_nil, S_cons, kc_, kcb_, S_opN, kN_, S_tup, S_lst, kT_u, kL_u, stoL_nil, stoL_dat, stoL_own, consO_some, SatO_some, S_call, kCall_u, S_if, S_ifS, kI_true, kI_false, S_andV, S_orV, kAndV_true, kAndV_false, kOrV_true, kOrV_false, S_test, kTest_, S_tru, kTru_, S_and, S_or, S_not, kAnd_true, kAnd_false, kOr_true, kOr_false, kNot_, S_seq, kS_nx, kS_rt, kS_bk, kS_ct, S_pass, S_set, kSet_dat, kSet_own, S_par, kP_, kPb_, S_ret', kR_, S_retN, S_break, S_cont, S_for, kF_, S_forNil, kFb_nx, kFb_ct, kFb_bk, kFb_rt, S_items, kItems_tup, kItems_lst, kItems_own, S_lc, kLc_, S_lcNil, S_yes, kD_rt, kD_nx, Rv.ret, gt, st, kVar_dat, kVar_own, o_add, o_sub, o_eq, o_ne, o_lt, o_le, o_gt, o_ge, o_eqB, o_neB, o_is2, o_isnot2, o_abs, o_ix, o_ixO, o_ixB, o_ixL, o_tupO, o_isBool, map_some', wp, tgN_, List.length_cons, List.length_nil, Nat.reduceAdd, Nat.reduceLeDiff, true_and, decide_true, decide_false, Bool.not_true, Bool.not_false, o_mul_u, o_div_u, o_mod_u, o_pow_u, o_eqS, o_neS, o_intB, o_lenS, o_lenO, o_lenB, o_iaddI, S_s1, kS1_, kS1b_, S_lm, kLm_bor, kLm_own, kLmb_, S_tab, o_ixT, o_ixS, S_put, kPut_, kPutK_, S_zip2, kZip_, kZipb_tup, o_sum, o_sumB, o_tupB, o_tupL, o_lenT, S_range1, kRng_3, S_tgtL, kTgtL_, List.nil_append, List.cons_append, Nat.reduceLT, SZ, forall_const, true_implies]
        exact S_isCornerD (h.2 x hx) (by omega) ⟨rfl, rfl⟩
      · simp only [S_var, S_C, S_op1, k1_, S_op2, k2_, k2b_, S_nil, S_cons, kc_, kcb_, S_opN, kN_, S_tup, S_lst, kT_u, kL_u, stoL_nil, stoL_dat, stoL_own, consO_some, SatO_some, S_call, kCall_u, S_if, S_ifS, kI_true, kI_false, S_andV, S_orV, kAndV_true, kAndV_false, kOrV_true, kOrV_false, S_test, kTest_, S_tru, kTru_, S_and, S_or, S_not, kAnd_true, kAnd_false, kOr_true, kOr_false, kNot_, S_seq, kS_nx, kS_rt, kS_bk, kS_ct, S_pass, S_set, kSet_dat, kSet_own, S_par, kP_, kPb_, S_ret', kR_, S_retN, S_break, S_cont, S_for, kF_, S_forNil, kFb_nx, kFb_ct, kFb_bk, kFb_rt, S_items, kItems_tup, kItems_lst, kItems_own, S_lc, kLc_, S_lcNil, S_yes, kD_rt, kD_nx, Rv.ret, gt, st, kVar_dat, kVar_own, o_add, o_sub, o_eq, o_ne, o_lt, o_le, o_gt, o_ge, o_eqB, o_neB, o_is2, o_isnot2, o_abs, o_ix, o_ixO, o_ixB, o_ixL, o_tupO, o_isBool, map_some', wp, tgN_, List.length_cons, List.length_nil, Nat.reduceAdd, Nat.reduceLeDiff, true_and, decide_true, decide_false, Bool.not_true, Bool.not_false, o_mul_u, o_div_u, o_mod_u, o_pow_u, o_eqS, o_neS, o_intB, o_lenS, o_lenO, o_lenB, o_iaddI, S_s1, kS1_, kS1b_, S_lm, kLm_bor, kLm_own, kLmb_, S_tab, o_ixT, o_ixS, S_put, kPut_, kPutK_, S_zip2, kZip_, kZipb_tup, o_sum, o_sumB, o_tupB, o_tupL, o_lenT, S_range1, kRng_3, S_tgtL, kTgtL_, List.nil_append, List.cons_append, Nat.reduceLT, SZ, forall_const, true_implies, oAll_bl]
        cases ha : ds.all corner with
        | false =>
          simp only [S_var, S_C, S_op1, k1_, S_op2, k2_, k2b_, S_nil, S_cons, kc_, kcb_, S_opN, kN_, S_tup, S_lst, kT_u, kL_u, stoL_nil, stoL_dat, stoL_own, consO_some, SatO_some, S_call, kCall_u, S_if, S_ifS, kI_true, kI_false, S_andV, S_orV, kAndV_true, kAndV_false, kOrV_true, kOrV_false, S_test, kTest_, S_tru, kTru_, S_and, S_or, S_not, kAnd_true, kAnd_false, kOr_true, kOr_false, kNot_, S_seq, kS_nx, kS_rt, kS_bk, kS_ct, S_pass, S_set, kSet_dat, kSet_own, S_par, kP_, kPb_, S_ret', kR_, S_retN, S_break, S_cont, S_for, kF_, S_forNil, kFb_nx, kFb_ct, kFb_bk, kFb_rt, S_items, kItems_tup, kItems_lst, kItems_own, S_lc, kLc_, S_lcNil, S_yes, kD_rt, kD_nx, Rv.ret, gt, st, kVar_dat, kVar_own, o_add, o_sub, o_eq, o_ne, o_lt, o_le, o_gt, o_ge, o_eqB, o_neB, o_is2, o_isnot2, o_abs, o_ix, o_ixO, o_ixB, o_ixL, o_tupO, o_isBool, map_some', wp, tgN_, List.length_cons, List.length_nil, Nat.reduceAdd, Nat.reduceLeDiff, true_and, decide_true, decide_false, Bool.not_true, Bool.not_false, o_mul_u, o_div_u, o_mod_u, o_pow_u, o_eqS, o_neS, o_intB, o_lenS, o_lenO, o_lenB, o_iaddI, S_s1, kS1_, kS1b_, S_lm, kLm_bor, kLm_own, kLmb_, S_tab, o_ixT, o_ixS, S_put, kPut_, kPutK_, S_zip2, kZip_, kZipb_tup, o_sum, o_sumB, o_tupB, o_tupL, o_lenT, S_range1, kRng_3, S_tgtL, kTgtL_, List.nil_append, List.cons_append, Nat.reduceLT, SZ, forall_const, true_implies]
          have : isShp (.tup ds) = false := by
            show (decide (3 ≤ ds.length) && (ds.all corner && _)) = false
            rw [ha, Bool.false_and, Bool.and_false]
          rw [this] at q
          exact q
        | true =>
          simp only [S_var, S_C, S_op1, k1_, S_op2, k2_, k2b_, S_nil, S_cons, kc_, kcb_, S_opN, kN_, S_tup, S_lst, kT_u, kL_u, stoL_nil, stoL_dat, stoL_own, consO_some, SatO_some, S_call, kCall_u, S_if, S_ifS, kI_true, kI_false, S_andV, S_orV, kAndV_true, kAndV_false, kOrV_true, kOrV_false, S_test, kTest_, S_tru, kTru_, S_and, S_or, S_not, kAnd_true, kAnd_false, kOr_true, kOr_false, kNot_, S_seq, kS_nx, kS_rt, kS_bk, kS_ct, S_pass, S_set, kSet_dat, kSet_own, S_par, kP_, kPb_, S_ret', kR_, S_retN, S_break, S_cont, S_for, kF_, S_forNil, kFb_nx, kFb_ct, kFb_bk, kFb_rt, S_items, kItems_tup, kItems_lst, kItems_own, S_lc, kLc_, S_lcNil, S_yes, kD_rt, kD_nx, Rv.ret, gt, st, kVar_dat, kVar_own, o_add, o_sub, o_eq, o_ne, o_lt, o_le, o_gt, o_ge, o_eqB, o_neB, o_is2, o_isnot2, o_abs, o_ix, o_ixO, o_ixB, o_ixL, o_tupO, o_isBool, map_some', wp, tgN_, List.length_cons, List.length_nil, Nat.reduceAdd, Nat.reduceLeDiff, true_and, decide_true, decide_false, Bool.not_true, Bool.not_false, o_mul_u, o_div_u, o_mod_u, o_pow_u, o_eqS, o_neS, o_intB, o_lenS, o_lenO, o_lenB, o_iaddI, S_s1, kS1_, kS1b_, S_lm, kLm_bor, kLm_own, kLmb_, S_tab, o_ixT, o_ixS, S_put, kPut_, kPutK_, S_zip2, kZip_, kZipb_tup, o_sum, o_sumB, o_tupB, o_tupL, o_lenT, S_range1, kRng_3, S_tgtL, kTgtL_, List.nil_append, List.cons_append, Nat.reduceLT, SZ, forall_const, true_implies]
          have eq : isShp (.tup ds) = (rnd (ds.map vof) && ((ds.map vof).drop 1).all fun v => ltV ((ds.map vof).getD 0 (0, 0, 0)) v) := by
            show (decide (3 ≤ ds.length) && (ds.all corner && _)) = _
            rw [ha, decide_eq_true h3, Bool.true_and, Bool.true_and]
          rw [corners_shp ha]
          have hlv : ∀ v ∈ ds.map vof, Lt3 1000 v := fun v hv => by
            obtain ⟨d, hd, rfl⟩ := List.mem_map.mp hv
            exact corner_lt (List.all_eq_true.mp ha d hd) (h.2 d hd)
          have h3v : 3 ≤ (ds.map vof).length := by rw [List.length_map]; exact h3
          have hlen : (ds.map vof).length ≤ 500 := by rw [List.length_map]; exact hl
          rw [eq] at q
          generalize ds.map vof = vs at *
          refine S_goesD hlv h3v hlen ?_
          rw [rnd_eq h3v]
          have i0 : oIx (.dat (shp vs)) (.dat (.int 0)) = some (.dat (vd (vs.getD 0 (0, 0, 0)))) := ix_shp (k := 0) (by omega)
          cases hr : rnd vs with
          | false =>
            simp only [S_var, S_C, S_op1, k1_, S_op2, k2_, k2b_, S_nil, S_cons, kc_, kcb_, S_opN, kN_, S_tup, S_lst, kT_u, kL_u, stoL_nil, stoL_dat, stoL_own, consO_some, SatO_some, S_call, kCall_u, S_if, S_ifS, kI_true, kI_false, S_andV, S_orV, kAndV_true, kAndV_false, kOrV_true, kOrV_false, S_test, kTest_, S_tru, kTru_, S_and, S_or, S_not, kAnd_true, kAnd_false, kOr_true, kOr_false, kNot_, S_seq, kS_nx, kS_rt, kS_bk, kS_ct, S_pass, S_set, kSet_dat, kSet_own, S_par, kP_, kPb_, S_ret', kR_, S_retN, S_break, S_cont, S_for, kF_, S_forNil, kFb_nx, kFb_ct, kFb_bk, kFb_rt, S_items, kItems_tup, kItems_lst, kItems_own, S_lc, kLc_, S_lcNil, S_yes, kD_rt, kD_nx, Rv.ret, gt, st, kVar_dat, kVar_own, o_add, o_sub, o_eq, o_ne, o_lt, o_le, o_gt, o_ge, o_eqB, o_neB, o_is2, o_isnot2, o_abs, o_ix, o_ixO, o_ixB, o_ixL, o_tupO, o_isBool, map_some', wp, tgN_, List.length_cons, List.length_nil, Nat.reduceAdd, Nat.reduceLeDiff, true_and, decide_true, decide_false, Bool.not_true, Bool.not_false, o_mul_u, o_div_u, o_mod_u, o_pow_u, o_eqS, o_neS, o_intB, o_lenS, o_lenO, o_lenB, o_iaddI, S_s1, kS1_, kS1b_, S_lm, kLm_bor, kLm_own, kLmb_, S_tab, o_ixT, o_ixS, S_put, kPut_, kPutK_, S_zip2, kZip_, kZipb_tup, o_sum, o_sumB, o_tupB, o_tupL, o_lenT, S_range1, kRng_3, S_tgtL, kTgtL_, List.nil_append, List.cons_append, Nat.reduceLT, SZ, forall_const, true_implies]
            rw [hr, Bool.false_and] at q
            exact q
          | true =>
            rw [hr, Bool.true_and] at q
            simp only [S_var, S_C, S_op1, k1_, S_op2, k2_, k2b_, S_nil, S_cons, kc_, kcb_, S_opN, kN_, S_tup, S_lst, kT_u, kL_u, stoL_nil, stoL_dat, stoL_own, consO_some, SatO_some, S_call, kCall_u, S_if, S_ifS, kI_true, kI_false, S_andV, S_orV, kAndV_true, kAndV_false, kOrV_true, kOrV_false, S_test, kTest_, S_tru, kTru_, S_and, S_or, S_not, kAnd_true, kAnd_false, kOr_true, kOr_false, kNot_, S_seq, kS_nx, kS_rt, kS_bk, kS_ct, S_pass, S_set, kSet_dat, kSet_own, S_par, kP_, kPb_, S_ret', kR_, S_retN, S_break, S_cont, S_for, kF_, S_forNil, kFb_nx, kFb_ct, kFb_bk, kFb_rt, S_items, kItems_tup, kItems_lst, kItems_own, S_lc, kLc_, S_lcNil, S_yes, kD_rt, kD_nx, Rv.ret, gt, st, kVar_dat, kVar_own, o_add, o_sub, o_eq, o_ne, o_lt, o_le, o_gt, o_ge, o_eqB, o_neB, o_is2, o_isnot2, o_abs, o_ix, o_ixO, o_ixB, o_ixL, o_tupO, o_isBool, map_some', wp, tgN_, List.length_cons, List.length_nil, Nat.reduceAdd, Nat.reduceLeDiff, true_and, decide_true, decide_false, Bool.not_true, Bool.not_false, o_mul_u, o_div_u, o_mod_u, o_pow_u, o_eqS, o_neS, o_intB, o_lenS, o_lenO, o_lenB, o_iaddI, S_s1, kS1_, kS1b_, S_lm, kLm_bor, kLm_own, kLmb_, S_tab, o_ixT, o_ixS, S_put, kPut_, kPutK_, S_zip2, kZip_, kZipb_tup, o_sum, o_sumB, o_tupB, o_tupL, o_lenT, S_range1, kRng_3, S_tgtL, kTgtL_, List.nil_append, List.cons_append, Nat.reduceLT, SZ, forall_const, true_implies, S_cutL, kLo, cut_shp1, items_shp]
            refine S_lcA (vs.drop 1) vd (fun v => .bl (ltV (vs.getD 0 (0, 0, 0)) v)) (by rw [List.length_drop]; show _ ≤ 16777216; omega) (fun v hv => ⟨_, rfl, ?_⟩) ?_
            · simp only [S_var, S_C, S_op1, k1_, S_op2, k2_, k2b_, S_nil, S_cons, kc_, kcb_, S_opN, kN_, S_tup, S_lst, kT_u, kL_u, stoL_nil, stoL_dat, stoL_own, consO_some, SatO_some, S_call, kCall_u, S_if, S_ifS, kI_true, kI_false, S_andV, S_orV, kAndV_true, kAndV_false, kOrV_true, kOrV_false, S_test, kTest_, S_tru, kTru_, S_and, S_or, S_not, kAnd_true, kAnd_false, kOr_true, kOr_false, kNot_, S_seq, kS_nx, kS_rt, kS_bk, kS_ct, S_pass, S_set, kSet_dat, kSet_own, S_par, kP_, kPb_, S_ret', kR_, S_retN, S_break, S_cont, S_for, kF_, S_forNil, kFb_nx, kFb_ct, kFb_bk, kFb_rt, S_items, kItems_tup, kItems_lst, kItems_own, S_lc, kLc_, S_lcNil, S_yes, kD_rt, kD_nx, Rv.ret, gt, st, kVar_dat, kVar_own, o_add, o_sub, o_eq, o_ne, o_lt, o_le, o_gt, o_ge, o_eqB, o_neB, o_is2, o_isnot2, o_abs, o_ix, o_ixO, o_ixB, o_ixL, o_tupO, o_isBool, map_some', wp, tgN_, List.length_cons, List.length_nil, Nat.reduceAdd, Nat.reduceLeDiff, true_and, decide_true, decide_false, Bool.not_true, Bool.not_false, o_mul_u, o_div_u, o_mod_u, o_pow_u, o_eqS, o_neS, o_intB, o_lenS, o_lenO, o_lenB, o_iaddI, S_s1, kS1_, kS1b_, S_lm, kLm_bor, kLm_own, kLmb_, S_tab, o_ixT, o_ixS, S_put, kPut_, kPutK_, S_zip2, kZip_, kZipb_tup, o_sum, o_sumB, o_tupB, o_tupL, o_lenT, S_range1, kRng_3, S_tgtL, kTgtL_, List.nil_append, List.cons_append, Nat.reduceLT, SZ, forall_const, true_implies, i0, ltD_vd]
              exact ⟨rfl, trivial⟩
            · simp only [S_var, S_C, S_op1, k1_, S_op2, k2_, k2b_, S_nil, S_cons, kc_, kcb_, S_opN, kN_, S_tup, S_lst, kT_u, kL_u, stoL_nil, stoL_dat, stoL_own, consO_some, SatO_some, S_call, kCall_u, S_if, S_ifS, kI_true, kI_false, S_andV, S_orV, kAndV_true, kAndV_false, kOrV_true, kOrV_false, S_test, kTest_, S_tru, kTru_, S_and, S_or, S_not, kAnd_true, kAnd_false, kOr_true, kOr_false, kNot_, S_seq, kS_nx, kS_rt, kS_bk, kS_ct, S_pass, S_set, kSet_dat, kSet_own, S_par, kP_, kPb_, S_ret', kR_, S_retN, S_break, S_cont, S_for, kF_, S_forNil, kFb_nx, kFb_ct, kFb_bk, kFb_rt, S_items, kItems_tup, kItems_lst, kItems_own, S_lc, kLc_, S_lcNil, S_yes, kD_rt, kD_nx, Rv.ret, gt, st, kVar_dat, kVar_own, o_add, o_sub, o_eq, o_ne, o_lt, o_le, o_gt, o_ge, o_eqB, o_neB, o_is2, o_isnot2, o_abs, o_ix, o_ixO, o_ixB, o_ixL, o_tupO, o_isBool, map_some', wp, tgN_, List.length_cons, List.length_nil, Nat.reduceAdd, Nat.reduceLeDiff, true_and, decide_true, decide_false, Bool.not_true, Bool.not_false, o_mul_u, o_div_u, o_mod_u, o_pow_u, o_eqS, o_neS, o_intB, o_lenS, o_lenO, o_lenB, o_iaddI, S_s1, kS1_, kS1b_, S_lm, kLm_bor, kLm_own, kLmb_, S_tab, o_ixT, o_ixS, S_put, kPut_, kPutK_, S_zip2, kZip_, kZipb_tup, o_sum, o_sumB, o_tupB, o_tupL, o_lenT, S_range1, kRng_3, S_tgtL, kTgtL_, List.nil_append, List.cons_append, Nat.reduceLT, SZ, forall_const, true_implies, oAll_bl]
              exact q
    · have d3 : decide (((ds.length : Nat) : Int) < 3) = true := decide_eq_true (by omega)
      simp only [S_var, S_C, S_op1, k1_, S_op2, k2_, k2b_, S_nil, S_cons, kc_, kcb_, S_opN, kN_, S_tup, S_lst, kT_u, kL_u, stoL_nil, stoL_dat, stoL_own, consO_some, SatO_some, S_call, kCall_u, S_if, S_ifS, kI_true, kI_false, S_andV, S_orV, kAndV_true, kAndV_false, kOrV_true, kOrV_false, S_test, kTest_, S_tru, kTru_, S_and, S_or, S_not, kAnd_true, kAnd_false, kOr_true, kOr_false, kNot_, S_seq, kS_nx, kS_rt, kS_bk, kS_ct, S_pass, S_set, kSet_dat, kSet_own, S_par, kP_, kPb_, S_ret', kR_, S_retN, S_break, S_cont, S_for, kF_, S_forNil, kFb_nx, kFb_ct, kFb_bk, kFb_rt, S_items, kItems_tup, kItems_lst, kItems_own, S_lc, kLc_, S_lcNil, S_yes, kD_rt, kD_nx, Rv.ret, gt, st, kVar_dat, kVar_own, o_add, o_sub, o_eq, o_ne, o_lt, o_le, o_gt, o_ge, o_eqB, o_neB, o_is2, o_isnot2, o_abs, o_ix, o_ixO, o_ixB, o_ixL, o_tupO, o_isBool, map_some', wp, tgN_, List.length_cons, List.length_nil, Nat.reduceAdd, Nat.reduceLeDiff, true_and, decide_true, decide_false, Bool.not_true, Bool.not_false, o_mul_u, o_div_u, o_mod_u, o_pow_u, o_eqS, o_neS, o_intB, o_lenS, o_lenO, o_lenB, o_iaddI, S_s1, kS1_, kS1b_, S_lm, kLm_bor, kLm_own, kLmb_, S_tab, o_ixT, o_ixS, S_put, kPut_, kPutK_, S_zip2, kZip_, kZipb_tup, o_sum, o_sumB, o_tupB, o_tupL, o_lenT, S_range1, kRng_3, S_tgtL, kTgtL_, List.nil_append, List.cons_append, Nat.reduceLT, SZ, forall_const, true_implies, S_op1, k1_, it, d3]
      have : isShp (.tup ds) = false := by
        show (decide (3 ≤ ds.length) && _) = false
        rw [decide_eq_false h3, Bool.false_and]
      rw [this] at q
      exact q
  · have tf : isTy .tuple d = false := by
      cases d <;> first
        | rfl
        | exact absurd ⟨_, rfl⟩ ht
    have cf : isShp d = false := by
      cases d <;> first
        | rfl
        | exact absurd ⟨_, rfl⟩ ht
    rw [tf] at it
    rw [cf] at q
    simp only [S_var, S_C, S_op1, k1_, S_op2, k2_, k2b_, S_nil, S_cons, kc_, kcb_, S_opN, kN_, S_tup, S_lst, kT_u, kL_u, stoL_nil, stoL_dat, stoL_own, consO_some, SatO_some, S_call, kCall_u, S_if, S_ifS, kI_true, kI_false, S_andV, S_orV, kAndV_true, kAndV_false, kOrV_true, kOrV_false, S_test, kTest_, S_tru, kTru_, S_and, S_or, S_not, kAnd_true, kAnd_false, kOr_true, kOr_false, kNot_, S_seq, kS_nx, kS_rt, kS_bk, kS_ct, S_pass, S_set, kSet_dat, kSet_own, S_par, kP_, kPb_, S_ret', kR_, S_retN, S_break, S_cont, S_for, kF_, S_forNil, kFb_nx, kFb_ct, kFb_bk, kFb_rt, S_items, kItems_tup, kItems_lst, kItems_own, S_lc, kLc_, S_lcNil, S_yes, kD_rt, kD_nx, Rv.ret, gt, st, kVar_dat, kVar_own, o_add, o_sub, o_eq, o_ne, o_lt, o_le, o_gt, o_ge, o_eqB, o_neB, o_is2, o_isnot2, o_abs, o_ix, o_ixO, o_ixB, o_ixL, o_tupO, o_isBool, map_some', wp, tgN_, List.length_cons, List.length_nil, Nat.reduceAdd, Nat.reduceLeDiff, true_and, decide_true, decide_false, Bool.not_true, Bool.not_false, o_mul_u, o_div_u, o_mod_u, o_pow_u, o_eqS, o_neS, o_intB, o_lenS, o_lenO, o_lenB, o_iaddI, S_s1, kS1_, kS1b_, S_lm, kLm_bor, kLm_own, kLmb_, S_tab, o_ixT, o_ixS, S_put, kPut_, kPutK_, S_zip2, kZip_, kZipb_tup, o_sum, o_sumB, o_tupB, o_tupL, o_lenT, S_range1, kRng_3, S_tgtL, kTgtL_, List.nil_append, List.cons_append, Nat.reduceLT, SZ, forall_const, true_implies, S_op1, k1_, it]
    exact q
end
end PB
set_option Elab.async false
set_option linter.all false
set_option maxRecDepth 10000
set_option maxHeartbeats 4000000
set_option exponentiation.threshold 20000
namespace PB
section
variable {s : LS} {Q : Rv → LS → Prop} {d : D} {n : Nat}
def roundM : MS LS := (mSeq (mFor (mRange1 (mOpN oLen (mCons (mVar 0) mNil))) (tgN 1) (mSeq (mPar 2 3 (mOp2 oIx (mVar 0) (mOp2 oSub (mVar 1) (mC (.int 1)))) (mOp2 oIx (mVar 0) (mVar 1)))
    (mFor (mRange1 (mOpN oLen (mCons (mVar 0) mNil))) (tgN 4) (mIfS (mAnd (mTest (mOp2 oNe (mVar 4) (mVar 1))) (mAnd (mTest (mOp2 oNe (mVar 4) (mOp2 oMod (mOp2 oSub (mVar 1) (mC (.int 1))) (mOpN oLen (mCons (mVar 0) mNil))))) (mTest (mOp2 oLe (mCall l_turnF (mCons (mVar 2) (mCons (mVar 3) (mCons (mOp2 oIx (mVar 0) (mVar 4)) mNil)))) (mC (.int 0)))))) (mRet (mC (.bl false))) mPass))))
    (mRet (mC (.bl true))))
theorem S_lround {vs : List V3} (h : ∀ v ∈ vs, Lt3 1000 v) (h3 : 3 ≤ vs.length) (hk : vs.length ≤ 500) (q : Q (.dat (.bl (rnd vs))) s) : Sat (roundM [.dat (shp vs), .un, .un, .un, .un, .un, .un] s) (kD Q) := by
  unfold roundM
  simp only [S_var, S_C, S_op1, k1_, S_op2, k2_, k2b_, S_nil, S_cons, kc_, kcb_, S_opN, kN_, S_tup, S_lst, kT_u, kL_u, stoL_nil, stoL_dat, stoL_own, consO_some, SatO_some, S_call, kCall_u, S_if, S_ifS, kI_true, kI_false, S_andV, S_orV, kAndV_true, kAndV_false, kOrV_true, kOrV_false, S_test, kTest_, S_tru, kTru_, S_and, S_or, S_not, kAnd_true, kAnd_false, kOr_true, kOr_false, kNot_, S_seq, kS_nx, kS_rt, kS_bk, kS_ct, S_pass, S_set, kSet_dat, kSet_own, S_par, kP_, kPb_, S_ret', kR_, S_retN, S_break, S_cont, S_for, kF_, S_forNil, kFb_nx, kFb_ct, kFb_bk, kFb_rt, S_items, kItems_tup, kItems_lst, kItems_own, S_lc, kLc_, S_lcNil, S_yes, kD_rt, kD_nx, Rv.ret, gt, st, kVar_dat, kVar_own, o_add, o_sub, o_eq, o_ne, o_lt, o_le, o_gt, o_ge, o_eqB, o_neB, o_is2, o_isnot2, o_abs, o_ix, o_ixO, o_ixB, o_ixL, o_tupO, o_isBool, map_some', wp, tgN_, List.length_cons, List.length_nil, Nat.reduceAdd, Nat.reduceLeDiff, true_and, decide_true, decide_false, Bool.not_true, Bool.not_false, o_mul_u, o_div_u, o_mod_u, o_pow_u, o_eqS, o_neS, o_intB, o_lenS, o_lenO, o_lenB, o_iaddI, S_s1, kS1_, kS1b_, S_lm, kLm_bor, kLm_own, kLmb_, S_tab, o_ixT, o_ixS, S_put, kPut_, kPutK_, S_zip2, kZip_, kZipb_tup, o_sum, o_sumB, o_tupB, o_tupL, o_lenT, S_range1, kRng_3, S_tgtL, kTgtL_, List.nil_append, List.cons_append, Nat.reduceLT, SZ, forall_const, true_implies, len_shp]
  refine kRngU (by omega) ?_
  rw [kF_]
  refine S_forA (List.range vs.length) (fun k => D.int (k : Nat)) (fun pre post e g => (∀ k ∈ pre, ((List.range vs.length).all fun j => decide (j = k) || decide (j = (k + vs.length - 1) % vs.length) || T3 vs k j) = true) ∧ ∃ x1 x2 x3 x4 : Sl, g = s ∧ e = [.dat (shp vs), x1, x2, x3, x4, .un, .un]) ⟨(fun k hk => nomatch hk), _, _, _, _, rfl, rfl⟩ ?_ ?_
  · rintro pre j post e g hr ⟨hpre, x1, x2, x3, x4, rfl, rfl⟩
    refine ⟨_, rfl, ?_⟩
    have hjr : j ∈ List.range vs.length := by rw [hr]; simp
    have hj : j < vs.length := List.mem_range.mp hjr
    have hA := h _ (prev_mem hj)
    have hB := h _ (getD_memV hj)
    simp only [S_var, S_C, S_op1, k1_, S_op2, k2_, k2b_, S_nil, S_cons, kc_, kcb_, S_opN, kN_, S_tup, S_lst, kT_u, kL_u, stoL_nil, stoL_dat, stoL_own, consO_some, SatO_some, S_call, kCall_u, S_if, S_ifS, kI_true, kI_false, S_andV, S_orV, kAndV_true, kAndV_false, kOrV_true, kOrV_false, S_test, kTest_, S_tru, kTru_, S_and, S_or, S_not, kAnd_true, kAnd_false, kOr_true, kOr_false, kNot_, S_seq, kS_nx, kS_rt, kS_bk, kS_ct, S_pass, S_set, kSet_dat, kSet_own, S_par, kP_, kPb_, S_ret', kR_, S_retN, S_break, S_cont, S_for, kF_, S_forNil, kFb_nx, kFb_ct, kFb_bk, kFb_rt, S_items, kItems_tup, kItems_lst, kItems_own, S_lc, kLc_, S_lcNil, S_yes, kD_rt, kD_nx, Rv.ret, gt, st, kVar_dat, kVar_own, o_add, o_sub, o_eq, o_ne, o_lt, o_le, o_gt, o_ge, o_eqB, o_neB, o_is2, o_isnot2, o_abs, o_ix, o_ixO, o_ixB, o_ixL, o_tupO, o_isBool, map_some', wp, tgN_, List.length_cons, List.length_nil, Nat.reduceAdd, Nat.reduceLeDiff, true_and, decide_true, decide_false, Bool.not_true, Bool.not_false, o_mul_u, o_div_u, o_mod_u, o_pow_u, o_eqS, o_neS, o_intB, o_lenS, o_lenO, o_lenB, o_iaddI, S_s1, kS1_, kS1b_, S_lm, kLm_bor, kLm_own, kLmb_, S_tab, o_ixT, o_ixS, S_put, kPut_, kPutK_, S_zip2, kZip_, kZipb_tup, o_sum, o_sumB, o_tupB, o_tupL, o_lenT, S_range1, kRng_3, S_tgtL, kTgtL_, List.nil_append, List.cons_append, Nat.reduceLT, SZ, forall_const, true_implies, ix_shp hj, ix_shp1 hj, len_shp]
    refine kRngU (by omega) ?_
    rw [kF_]
    refine S_forA (List.range vs.length) (fun k => D.int (k : Nat)) (fun pre post e g' => (∀ i ∈ pre, (decide (i = j) || decide (i = (j + vs.length - 1) % vs.length) || T3 vs j i) = true) ∧ ∃ x4 : Sl, g' = g ∧ e = [.dat (shp vs), .dat (.int (j : Nat)), .dat (vd (prevV vs j)), .dat (vd (vs.getD j (0, 0, 0))), x4, .un, .un]) ⟨(fun k hk => nomatch hk), _, rfl, rfl⟩ ?_ ?_
    · rintro pre2 i post2 e g' hr2 ⟨hpre2, x4, rfl, rfl⟩
      refine ⟨_, rfl, ?_⟩
      have hir : i ∈ List.range vs.length := by rw [hr2]; simp
      have hi : i < vs.length := List.mem_range.mp hir
      have hC := h _ (getD_memV hi)
      have more : ∀ (b : Bool), (decide (i = j) || decide (i = (j + vs.length - 1) % vs.length) || T3 vs j i) = true → ∀ k ∈ pre2 ++ [i], (decide (k = j) || decide (k = (j + vs.length - 1) % vs.length) || T3 vs j k) = true := fun _ hb k hk => by
        rcases List.mem_append.mp hk with hk | hk
        · exact hpre2 k hk
        · rw [List.mem_singleton.mp hk]
          exact hb
      simp only [S_var, S_C, S_op1, k1_, S_op2, k2_, k2b_, S_nil, S_cons, kc_, kcb_, S_opN, kN_, S_tup, S_lst, kT_u, kL_u, stoL_nil, stoL_dat, stoL_own, consO_some, SatO_some, S_call, kCall_u, S_if, S_ifS, kI_true, kI_false, S_andV, S_orV, kAndV_true, kAndV_false, kOrV_true, kOrV_false, S_test, kTest_, S_tru, kTru_, S_and, S_or, S_not, kAnd_true, kAnd_false, kOr_true, kOr_false, kNot_, S_seq, kS_nx, kS_rt, kS_bk, kS_ct, S_pass, S_set, kSet_dat, kSet_own, S_par, kP_, kPb_, S_ret', kR_, S_retN, S_break, S_cont, S_for, kF_, S_forNil, kFb_nx, kFb_ct, kFb_bk, kFb_rt, S_items, kItems_tup, kItems_lst, kItems_own, S_lc, kLc_, S_lcNil, S_yes, kD_rt, kD_nx, Rv.ret, gt, st, kVar_dat, kVar_own, o_add, o_sub, o_eq, o_ne, o_lt, o_le, o_gt, o_ge, o_eqB, o_neB, o_is2, o_isnot2, o_abs, o_ix, o_ixO, o_ixB, o_ixL, o_tupO, o_isBool, map_some', wp, tgN_, List.length_cons, List.length_nil, Nat.reduceAdd, Nat.reduceLeDiff, true_and, decide_true, decide_false, Bool.not_true, Bool.not_false, o_mul_u, o_div_u, o_mod_u, o_pow_u, o_eqS, o_neS, o_intB, o_lenS, o_lenO, o_lenB, o_iaddI, S_s1, kS1_, kS1b_, S_lm, kLm_bor, kLm_own, kLmb_, S_tab, o_ixT, o_ixS, S_put, kPut_, kPutK_, S_zip2, kZip_, kZipb_tup, o_sum, o_sumB, o_tupB, o_tupL, o_lenT, S_range1, kRng_3, S_tgtL, kTgtL_, List.nil_append, List.cons_append, Nat.reduceLT, SZ, forall_const, true_implies]
      by_cases c1 : i = j
      · have d1 : decide (((i : Nat) : Int) = ((j : Nat) : Int)) = true := decide_eq_true (by omega)
        rw [d1]
        simp only [S_var, S_C, S_op1, k1_, S_op2, k2_, k2b_, S_nil, S_cons, kc_, kcb_, S_opN, kN_, S_tup, S_lst, kT_u, kL_u, stoL_nil, stoL_dat, stoL_own, consO_some, SatO_some, S_call, kCall_u, S_if, S_ifS, kI_true, kI_false, S_andV, S_orV, kAndV_true, kAndV_false, kOrV_true, kOrV_false, S_test, kTest_, S_tru, kTru_, S_and, S_or, S_not, kAnd_true, kAnd_false, kOr_true, kOr_false, kNot_, S_seq, kS_nx, kS_rt, kS_bk, kS_ct, S_pass, S_set, kSet_dat, kSet_own, S_par, kP_, kPb_, S_ret', kR_, S_retN, S_break, S_cont, S_for, kF_, S_forNil, kFb_nx, kFb_ct, kFb_bk, kFb_rt, S_items, kItems_tup, kItems_lst, kItems_own, S_lc, kLc_, S_lcNil, S_yes, kD_rt, kD_nx, Rv.ret, gt, st, kVar_dat, kVar_own, o_add, o_sub, o_eq, o_ne, o_lt, o_le, o_gt, o_ge, o_eqB, o_neB, o_is2, o_isnot2, o_abs, o_ix, o_ixO, o_ixB, o_ixL, o_tupO, o_isBool, map_some', wp, tgN_, List.length_cons, List.length_nil, Nat.reduceAdd, Nat.reduceLeDiff, true_and, decide_true, decide_false, Bool.not_true, Bool.not_false, o_mul_u, o_div_u, o_mod_u, o_pow_u, o_eqS, o_neS, o_intB, o_lenS, o_lenO, o_lenB, o_iaddI, S_s1, kS1_, kS1b_, S_lm, kLm_bor, kLm_own, kLmb_, S_tab, o_ixT, o_ixS, S_put, kPut_, kPutK_, S_zip2, kZip_, kZipb_tup, o_sum, o_sumB, o_tupB, o_tupL, o_lenT, S_range1, kRng_3, S_tgtL, kTgtL_, List.nil_append, List.cons_append, Nat.reduceLT, SZ, forall_const, true_implies]
        exact ⟨more true (by rw [decide_eq_true c1]; rfl), _, rfl⟩
      · have d1 : decide (((i : Nat) : Int) = ((j : Nat) : Int)) = false := decide_eq_false (by omega)
        rw [d1]
        simp only [S_var, S_C, S_op1, k1_, S_op2, k2_, k2b_, S_nil, S_cons, kc_, kcb_, S_opN, kN_, S_tup, S_lst, kT_u, kL_u, stoL_nil, stoL_dat, stoL_own, consO_some, SatO_some, S_call, kCall_u, S_if, S_ifS, kI_true, kI_false, S_andV, S_orV, kAndV_true, kAndV_false, kOrV_true, kOrV_false, S_test, kTest_, S_tru, kTru_, S_and, S_or, S_not, kAnd_true, kAnd_false, kOr_true, kOr_false, kNot_, S_seq, kS_nx, kS_rt, kS_bk, kS_ct, S_pass, S_set, kSet_dat, kSet_own, S_par, kP_, kPb_, S_ret', kR_, S_retN, S_break, S_cont, S_for, kF_, S_forNil, kFb_nx, kFb_ct, kFb_bk, kFb_rt, S_items, kItems_tup, kItems_lst, kItems_own, S_lc, kLc_, S_lcNil, S_yes, kD_rt, kD_nx, Rv.ret, gt, st, kVar_dat, kVar_own, o_add, o_sub, o_eq, o_ne, o_lt, o_le, o_gt, o_ge, o_eqB, o_neB, o_is2, o_isnot2, o_abs, o_ix, o_ixO, o_ixB, o_ixL, o_tupO, o_isBool, map_some', wp, tgN_, List.length_cons, List.length_nil, Nat.reduceAdd, Nat.reduceLeDiff, true_and, decide_true, decide_false, Bool.not_true, Bool.not_false, o_mul_u, o_div_u, o_mod_u, o_pow_u, o_eqS, o_neS, o_intB, o_lenS, o_lenO, o_lenB, o_iaddI, S_s1, kS1_, kS1b_, S_lm, kLm_bor, kLm_own, kLmb_, S_tab, o_ixT, o_ixS, S_put, kPut_, kPutK_, S_zip2, kZip_, kZipb_tup, o_sum, o_sumB, o_tupB, o_tupL, o_lenT, S_range1, kRng_3, S_tgtL, kTgtL_, List.nil_append, List.cons_append, Nat.reduceLT, SZ, forall_const, true_implies, len_shp]
        refine ⟨by omega, ?_⟩
        rw [prev_mod hj]
        by_cases c2 : i = (j + vs.length - 1) % vs.length
        · have d2 : decide (((i : Nat) : Int) = (((j + vs.length - 1) % vs.length : Nat) : Int)) = true := decide_eq_true (by omega)
          rw [d2]
          simp only [S_var, S_C, S_op1, k1_, S_op2, k2_, k2b_, S_nil, S_cons, kc_, kcb_, S_opN, kN_, S_tup, S_lst, kT_u, kL_u, stoL_nil, stoL_dat, stoL_own, consO_some, SatO_some, S_call, kCall_u, S_if, S_ifS, kI_true, kI_false, S_andV, S_orV, kAndV_true, kAndV_false, kOrV_true, kOrV_false, S_test, kTest_, S_tru, kTru_, S_and, S_or, S_not, kAnd_true, kAnd_false, kOr_true, kOr_false, kNot_, S_seq, kS_nx, kS_rt, kS_bk, kS_ct, S_pass, S_set, kSet_dat, kSet_own, S_par, kP_, kPb_, S_ret', kR_, S_retN, S_break, S_cont, S_for, kF_, S_forNil, kFb_nx, kFb_ct, kFb_bk, kFb_rt, S_items, kItems_tup, kItems_lst, kItems_own, S_lc, kLc_, S_lcNil, S_yes, kD_rt, kD_nx, Rv.ret, gt, st, kVar_dat, kVar_own, o_add, o_sub, o_eq, o_ne, o_lt, o_le, o_gt, o_ge, o_eqB, o_neB, o_is2, o_isnot2, o_abs, o_ix, o_ixO, o_ixB, o_ixL, o_tupO, o_isBool, map_some', wp, tgN_, List.length_cons, List.length_nil, Nat.reduceAdd, Nat.reduceLeDiff, true_and, decide_true, decide_false, Bool.not_true, Bool.not_false, o_mul_u, o_div_u, o_mod_u, o_pow_u, o_eqS, o_neS, o_intB, o_lenS, o_lenO, o_lenB, o_iaddI, S_s1, kS1_, kS1b_, S_lm, kLm_bor, kLm_own, kLmb_, S_tab, o_ixT, o_ixS, S_put, kPut_, kPutK_, S_zip2, kZip_, kZipb_tup, o_sum, o_sumB, o_tupB, o_tupL, o_lenT, S_range1, kRng_3, S_tgtL, kTgtL_, List.nil_append, List.cons_append, Nat.reduceLT, SZ, forall_const, true_implies]
          exact ⟨more true (by rw [decide_eq_true c2, Bool.or_true]; rfl), _, rfl⟩
        · have d2 : decide (((i : Nat) : Int) = (((j + vs.length - 1) % vs.length : Nat) : Int)) = false := decide_eq_false (by omega)
          rw [d2]
          simp only [S_var, S_C, S_op1, k1_, S_op2, k2_, k2b_, S_nil, S_cons, kc_, kcb_, S_opN, kN_, S_tup, S_lst, kT_u, kL_u, stoL_nil, stoL_dat, stoL_own, consO_some, SatO_some, S_call, kCall_u, S_if, S_ifS, kI_true, kI_false, S_andV, S_orV, kAndV_true, kAndV_false, kOrV_true, kOrV_false, S_test, kTest_, S_tru, kTru_, S_and, S_or, S_not, kAnd_true, kAnd_false, kOr_true, kOr_false, kNot_, S_seq, kS_nx, kS_rt, kS_bk, kS_ct, S_pass, S_set, kSet_dat, kSet_own, S_par, kP_, kPb_, S_ret', kR_, S_retN, S_break, S_cont, S_for, kF_, S_forNil, kFb_nx, kFb_ct, kFb_bk, kFb_rt, S_items, kItems_tup, kItems_lst, kItems_own, S_lc, kLc_, S_lcNil, S_yes, kD_rt, kD_nx, Rv.ret, gt, st, kVar_dat, kVar_own, o_add, o_sub, o_eq, o_ne, o_lt, o_le, o_gt, o_ge, o_eqB, o_neB, o_is2, o_isnot2, o_abs, o_ix, o_ixO, o_ixB, o_ixL, o_tupO, o_isBool, map_some', wp, tgN_, List.length_cons, List.length_nil, Nat.reduceAdd, Nat.reduceLeDiff, true_and, decide_true, decide_false, Bool.not_true, Bool.not_false, o_mul_u, o_div_u, o_mod_u, o_pow_u, o_eqS, o_neS, o_intB, o_lenS, o_lenO, o_lenB, o_iaddI, S_s1, kS1_, kS1b_, S_lm, kLm_bor, kLm_own, kLmb_, S_tab, o_ixT, o_ixS, S_put, kPut_, kPutK_, S_zip2, kZip_, kZipb_tup, o_sum, o_sumB, o_tupB, o_tupL, o_lenT, S_range1, kRng_3, S_tgtL, kTgtL_, List.nil_append, List.cons_append, Nat.reduceLT, SZ, forall_const, true_implies, ix_shp hi]
          refine S_lturn hA hB hC (by decide) ?_
          simp only [S_var, S_C, S_op1, k1_, S_op2, k2_, k2b_, S_nil, S_cons, kc_, kcb_, S_opN, kN_, S_tup, S_lst, kT_u, kL_u, stoL_nil, stoL_dat, stoL_own, consO_some, SatO_some, S_call, kCall_u, S_if, S_ifS, kI_true, kI_false, S_andV, S_orV, kAndV_true, kAndV_false, kOrV_true, kOrV_false, S_test, kTest_, S_tru, kTru_, S_and, S_or, S_not, kAnd_true, kAnd_false, kOr_true, kOr_false, kNot_, S_seq, kS_nx, kS_rt, kS_bk, kS_ct, S_pass, S_set, kSet_dat, kSet_own, S_par, kP_, kPb_, S_ret', kR_, S_retN, S_break, S_cont, S_for, kF_, S_forNil, kFb_nx, kFb_ct, kFb_bk, kFb_rt, S_items, kItems_tup, kItems_lst, kItems_own, S_lc, kLc_, S_lcNil, S_yes, kD_rt, kD_nx, Rv.ret, gt, st, kVar_dat, kVar_own, o_add, o_sub, o_eq, o_ne, o_lt, o_le, o_gt, o_ge, o_eqB, o_neB, o_is2, o_isnot2, o_abs, o_ix, o_ixO, o_ixB, o_ixL, o_tupO, o_isBool, map_some', wp, tgN_, List.length_cons, List.length_nil, Nat.reduceAdd, Nat.reduceLeDiff, true_and, decide_true, decide_false, Bool.not_true, Bool.not_false, o_mul_u, o_div_u, o_mod_u, o_pow_u, o_eqS, o_neS, o_intB, o_lenS, o_lenO, o_lenB, o_iaddI, S_s1, kS1_, kS1b_, S_lm, kLm_bor, kLm_own, kLmb_, S_tab, o_ixT, o_ixS, S_put, kPut_, kPutK_, S_zip2, kZip_, kZipb_tup, o_sum, o_sumB, o_tupB, o_tupL, o_lenT, S_range1, kRng_3, S_tgtL, kTgtL_, List.nil_append, List.cons_append, Nat.reduceLT, SZ, forall_const, true_implies]
          by_cases c : det (prevV vs j) (vs.getD j (0, 0, 0)) (vs.getD i (0, 0, 0)) ≤ 0
          · have hf : rnd vs = false := by
              cases hc : rnd vs with
              | false => rfl
              | true =>
                have := List.all_eq_true.mp (List.all_eq_true.mp hc j hjr) i hir
                rw [decide_eq_false c1, decide_eq_false c2] at this
                have := of_decide_eq_true this
                omega
            rw [decide_eq_true c]
            simp only [S_var, S_C, S_op1, k1_, S_op2, k2_, k2b_, S_nil, S_cons, kc_, kcb_, S_opN, kN_, S_tup, S_lst, kT_u, kL_u, stoL_nil, stoL_dat, stoL_own, consO_some, SatO_some, S_call, kCall_u, S_if, S_ifS, kI_true, kI_false, S_andV, S_orV, kAndV_true, kAndV_false, kOrV_true, kOrV_false, S_test, kTest_, S_tru, kTru_, S_and, S_or, S_not, kAnd_true, kAnd_false, kOr_true, kOr_false, kNot_, S_seq, kS_nx, kS_rt, kS_bk, kS_ct, S_pass, S_set, kSet_dat, kSet_own, S_par, kP_, kPb_, S_ret', kR_, S_retN, S_break, S_cont, S_for, kF_, S_forNil, kFb_nx, kFb_ct, kFb_bk, kFb_rt, S_items, kItems_tup, kItems_lst, kItems_own, S_lc, kLc_, S_lcNil, S_yes, kD_rt, kD_nx, Rv.ret, gt, st, kVar_dat, kVar_own, o_add, o_sub, o_eq, o_ne, o_lt, o_le, o_gt, o_ge, o_eqB, o_neB, o_is2, o_isnot2, o_abs, o_ix, o_ixO, o_ixB, o_ixL, o_tupO, o_isBool, map_some', wp, tgN_, List.length_cons, List.length_nil, Nat.reduceAdd, Nat.reduceLeDiff, true_and, decide_true, decide_false, Bool.not_true, Bool.not_false, o_mul_u, o_div_u, o_mod_u, o_pow_u, o_eqS, o_neS, o_intB, o_lenS, o_lenO, o_lenB, o_iaddI, S_s1, kS1_, kS1b_, S_lm, kLm_bor, kLm_own, kLmb_, S_tab, o_ixT, o_ixS, S_put, kPut_, kPutK_, S_zip2, kZip_, kZipb_tup, o_sum, o_sumB, o_tupB, o_tupL, o_lenT, S_range1, kRng_3, S_tgtL, kTgtL_, List.nil_append, List.cons_append, Nat.reduceLT, SZ, forall_const, true_implies]
            rw [hf] at q
            exact q
          · rw [decide_eq_false c]
            simp only [S_var, S_C, S_op1, k1_, S_op2, k2_, k2b_, S_nil, S_cons, kc_, kcb_, S_opN, kN_, S_tup, S_lst, kT_u, kL_u, stoL_nil, stoL_dat, stoL_own, consO_some, SatO_some, S_call, kCall_u, S_if, S_ifS, kI_true, kI_false, S_andV, S_orV, kAndV_true, kAndV_false, kOrV_true, kOrV_false, S_test, kTest_, S_tru, kTru_, S_and, S_or, S_not, kAnd_true, kAnd_false, kOr_true, kOr_false, kNot_, S_seq, kS_nx, kS_rt, kS_bk, kS_ct, S_pass, S_set, kSet_dat, kSet_own, S_par, kP_, kPb_, S_ret', kR_, S_retN, S_break, S_cont, S_for, kF_, S_forNil, kFb_nx, kFb_ct, kFb_bk, kFb_rt, S_items, kItems_tup, kItems_lst, kItems_own, S_lc, kLc_, S_lcNil, S_yes, kD_rt, kD_nx, Rv.ret, gt, st, kVar_dat, kVar_own, o_add, o_sub, o_eq, o_ne, o_lt, o_le, o_gt, o_ge, o_eqB, o_neB, o_is2, o_isnot2, o_abs, o_ix, o_ixO, o_ixB, o_ixL, o_tupO, o_isBool, map_some', wp, tgN_, List.length_cons, List.length_nil, Nat.reduceAdd, Nat.reduceLeDiff, true_and, decide_true, decide_false, Bool.not_true, Bool.not_false, o_mul_u, o_div_u, o_mod_u, o_pow_u, o_eqS, o_neS, o_intB, o_lenS, o_lenO, o_lenB, o_iaddI, S_s1, kS1_, kS1b_, S_lm, kLm_bor, kLm_own, kLmb_, S_tab, o_ixT, o_ixS, S_put, kPut_, kPutK_, S_zip2, kZip_, kZipb_tup, o_sum, o_sumB, o_tupB, o_tupL, o_lenT, S_range1, kRng_3, S_tgtL, kTgtL_, List.nil_append, List.cons_append, Nat.reduceLT, SZ, forall_const, true_implies]
            refine ⟨more true ?_, _, rfl⟩
            have : T3 vs j i = true := decide_eq_true (by omega)
            rw [this, Bool.or_true]
    · rintro e g' ⟨hall, x4, rfl, rfl⟩
      refine ⟨fun k hk => ?_, _, _, _, _, rfl, rfl⟩
      rcases List.mem_append.mp hk with hk | hk
      · exact hpre k hk
      · rw [List.mem_singleton.mp hk]
        exact List.all_eq_true.mpr hall
  · rintro e g ⟨hall, x1, x2, x3, x4, rfl, rfl⟩
    have : rnd vs = true := List.all_eq_true.mpr hall
    rw [this] at q
    simp only [S_var, S_C, S_op1, k1_, S_op2, k2_, k2b_, S_nil, S_cons, kc_, kcb_, S_opN, kN_, S_tup, S_lst, kT_u, kL_u, stoL_nil, stoL_dat, stoL_own, consO_some, SatO_some, S_call, kCall_u, S_if, S_ifS, kI_true, kI_false, S_andV, S_orV, kAndV_true, kAndV_false, kOrV_true, kOrV_false, S_test, kTest_, S_tru, kTru_, S_and, S_or, S_not, kAnd_true, kAnd_false, kOr_true, kOr_false, kNot_, S_seq, kS_nx, kS_rt, kS_bk, kS_ct, S_pass, S_set, kSet_dat, kSet_own, S_par, kP_, kPb_, S_ret', kR_, S_retN, S_break, S_cont, S_for, kF_, S_forNil, kFb_nx, kFb_ct, kFb_bk, kFb_rt, S_items, kItems_tup, kItems_lst, kItems_own, S_lc, kLc_, S_lcNil, S_yes, kD_rt, kD_nx, Rv.ret, gt, st, kVar_dat, kVar_own, o_add, o_sub, o_eq, o_ne, o_lt, o_le, o_gt, o_ge, o_eqB, o_neB, o_is2, o_isnot2, o_abs, o_ix, o_ixO, o_ixB, o_ixL, o_tupO, o_isBool, map_some', wp, tgN_, List.length_cons, List.length_nil, Nat.reduceAdd, Nat.reduceLeDiff, true_and, decide_true, decide_false, Bool.not_true, Bool.not_false, o_mul_u, o_div_u, o_mod_u, o_pow_u, o_eqS, o_neS, o_intB, o_lenS, o_lenO, o_lenB, o_iaddI, S_s1, kS1_, kS1b_, S_lm, kLm_bor, kLm_own, kLmb_, S_tab, o_ixT, o_ixS, S_put, kPut_, kPutK_, S_zip2, kZip_, kZipb_tup, o_sum, o_sumB, o_tupB, o_tupL, o_lenT, S_range1, kRng_3, S_tgtL, kTgtL_, List.nil_append, List.cons_append, Nat.reduceLT, SZ, forall_const, true_implies]
    exact q
theorem S_lisShapeD (h : Fit n d) (hn : n ≤ 50) (q : Q (.dat (.bl (isShp d))) s) : Sat (l_is_shapeF [d] s) Q := by
  unfold l_is_shapeF
  rw [S_def (k := 1) (ds := [d]) rfl]
  show Sat (l_is_shapeM [.dat d, .un, .un, .un, .un, .un, .un] s) _
  unfold l_is_shapeM
  have it := h.isT .tuple
  by_cases ht : ∃ ds, d = .tup ds
  · obtain ⟨ds, rfl⟩ := ht
    obtain ⟨m, rfl⟩ : ∃ m, n = m + 1 := by
      cases n with
      | zero => exact h.elim
      | succ m => exact ⟨m, rfl⟩
    have it : oIs .tuple (.dat (.tup ds)) = some (.dat (.bl true)) := it
    have hl := h.1
    by_cases h3 : 3 ≤ ds.length
    · have d3 : decide (((ds.length : Nat) : Int) < 3) = false := decide_eq_false (by omega)
      simp only [S_var, S_C, S_op1, k1_, S_op2, k2_, k2b_, S_nil, S_cons, kc_, kcb_, S_opN, kN_, S_tup, S_lst, kT_u, kL_u, stoL_nil, stoL_dat, stoL_own, consO_some, SatO_some, S_call, kCall_u, S_if, S_ifS, kI_true, kI_false, S_andV, S_orV, kAndV_true, kAndV_false, kOrV_true, kOrV_false, S_test, kTest_, S_tru, kTru_, S_and, S_or, S_not, kAnd_true, kAnd_false, kOr_true, kOr_false, kNot_, S_seq, kS_nx, kS_rt, kS_bk, kS_ct, S_pass, S_set, kSet_dat, kSet_own, S_par, kP_, kPb_, S_ret', kR_, S_retN, S_break, S_cont, S_for, kF_, S_forNil, kFb_nx, kFb_ct, kFb_bk, kFb_rt, S_items, kItems_tup, kItems_lst, kItems_own, S_lc, kLc_, S_lcNil, S_yes, kD_rt, kD_nx, Rv.ret, gt, st, kVar_dat, kVar_own, o_add, o_sub, o_eq, o_ne, o_lt, o_le, o_gt, o_ge, o_eqB, o_neB, o_is2, o_isnot2, o_abs, o_ix, o_ixO, o_ixB, o_ixL, o_tupO, o_isBool, map_some', wp, tgN_, List.length_cons, List.length_nil, Nat.reduceAdd, Nat.reduceLeDiff, true_and, decide_true, decide_false, Bool.not_true, Bool.not_false, o_mul_u, o_div_u, o_mod_u, o_pow_u, o_eqS, o_neS, o_intB, o_lenS, o_lenO, o_lenB, o_iaddI, S_s1, kS1_, kS1b_, S_lm, kLm_bor, kLm_own, kLmb_, S_tab, o_ixT, o_ixS, S_put, kPut_, kPutK_, S_zip2, kZip_, kZipb_tup, o_sum, o_sumB, o_tupB, o_tupL, o_lenT, S_range1, kRng_3, S_tgtL, kTgtL_, List.nil_append, List.cons_append, Nat.reduceLT, SZ, forall_const, true_implies, S_op1, k1_, it, d3]
      refine S_lcDD ds (fun d => .bl (corner d)) (by show _ ≤ 16777216; omega) (fun x hx => ⟨_, rfl, ?_⟩) ?_
      · simp only [S_var, S_C, S_op1, k1_, S_op2, k2_, k2b_, S_nil, S_cons, kc_, kcb_, S_opN, kN_, S_tup, S_lst, kT_u, kL_u, stoL_nil, stoL_dat, stoL_own, consO_some, SatO_some, S_call, kCall_u, S_if, S_ifS, kI_true, kI_false, S_andV, S_orV, kAndV_true, kAndV_false, kOrV_true, kOrV_false, S_test, kTest_, S_tru, kTru_, S_and, S_or, S_not, kAnd_true, kAnd_false, kOr_true, kOr_false, kNot_, S_seq, kS_nx, kS_rt, kS_bk, kS_ct, S_pass, S_set, kSet_dat, kSet_own, S_par, kP_, kPb_, S_ret', kR_, S_retN, S_break, S_cont, S_for, kF_, S_forNil, kFb_nx, kFb_ct, kFb_bk, kFb_rt, S_items, kItems_tup, kItems_lst, kItems_own, S_lc, kLc_, S_lcNil, S_yes, kD_rt, kD_nx, Rv.ret, gt, st, kVar_dat, kVar_own, o_add, o_sub, o_eq, o_ne, o_lt, o_le, o_gt, o_ge, o_eqB, o_neB, o_is2, o_isnot2, o_abs, o_ix, o_ixO, o_ixB, o_ixL, o_tupO, o_isBool, map_some', wp, tgN_, List.length_cons, List.length_nil, Nat.reduceAdd, Nat.reduceLeDiff, true_and, decide_true, decide_false, Bool.not_true, Bool.not_false, o_mul_u, o_div_u, o_mod_u, o_pow_u, o_eqS, o_neS, o_intB, o_lenS, o_lenO, o_lenB, o_iaddI, S_s1, kS1_, kS1b_, S_lm, kLm_bor, kLm_own, kLmb_, S_tab, o_ixT, o_ixS, S_put, kPut_, kPutK_, S_zip2, kZip_, kZipb_tup, o_sum, o_sumB, o_tupB, o_tupL, o_lenT, S_range1, kRng_3, S_tgtL, kTgtL_, List.nil_append, List.cons_append, Nat.reduceLT, SZ, forall_const, true_implies]
        exact S_lisPriceD (h.2 x hx) (by omega) ⟨rfl, rfl⟩
      · simp only [S_var, S_C, S_op1, k1_, S_op2, k2_, k2b_, S_nil, S_cons, kc_, kcb_, S_opN, kN_, S_tup, S_lst, kT_u, kL_u, stoL_nil, stoL_dat, stoL_own, consO_some, SatO_some, S_call, kCall_u, S_if, S_ifS, kI_true, kI_false, S_andV, S_orV, kAndV_true, kAndV_false, kOrV_true, kOrV_false, S_test, kTest_, S_tru, kTru_, S_and, S_or, S_not, kAnd_true, kAnd_false, kOr_true, kOr_false, kNot_, S_seq, kS_nx, kS_rt, kS_bk, kS_ct, S_pass, S_set, kSet_dat, kSet_own, S_par, kP_, kPb_, S_ret', kR_, S_retN, S_break, S_cont, S_for, kF_, S_forNil, kFb_nx, kFb_ct, kFb_bk, kFb_rt, S_items, kItems_tup, kItems_lst, kItems_own, S_lc, kLc_, S_lcNil, S_yes, kD_rt, kD_nx, Rv.ret, gt, st, kVar_dat, kVar_own, o_add, o_sub, o_eq, o_ne, o_lt, o_le, o_gt, o_ge, o_eqB, o_neB, o_is2, o_isnot2, o_abs, o_ix, o_ixO, o_ixB, o_ixL, o_tupO, o_isBool, map_some', wp, tgN_, List.length_cons, List.length_nil, Nat.reduceAdd, Nat.reduceLeDiff, true_and, decide_true, decide_false, Bool.not_true, Bool.not_false, o_mul_u, o_div_u, o_mod_u, o_pow_u, o_eqS, o_neS, o_intB, o_lenS, o_lenO, o_lenB, o_iaddI, S_s1, kS1_, kS1b_, S_lm, kLm_bor, kLm_own, kLmb_, S_tab, o_ixT, o_ixS, S_put, kPut_, kPutK_, S_zip2, kZip_, kZipb_tup, o_sum, o_sumB, o_tupB, o_tupL, o_lenT, S_range1, kRng_3, S_tgtL, kTgtL_, List.nil_append, List.cons_append, Nat.reduceLT, SZ, forall_const, true_implies, oAll_bl]
        cases ha : ds.all corner with
        | false =>
          simp only [S_var, S_C, S_op1, k1_, S_op2, k2_, k2b_, S_nil, S_cons, kc_, kcb_, S_opN, kN_, S_tup, S_lst, kT_u, kL_u, stoL_nil, stoL_dat, stoL_own, consO_some, SatO_some, S_call, kCall_u, S_if, S_ifS, kI_true, kI_false, S_andV, S_orV, kAndV_true, kAndV_false, kOrV_true, kOrV_false, S_test, kTest_, S_tru, kTru_, S_and, S_or, S_not, kAnd_true, kAnd_false, kOr_true, kOr_false, kNot_, S_seq, kS_nx, kS_rt, kS_bk, kS_ct, S_pass, S_set, kSet_dat, kSet_own, S_par, kP_, kPb_, S_ret', kR_, S_retN, S_break, S_cont, S_for, kF_, S_forNil, kFb_nx, kFb_ct, kFb_bk, kFb_rt, S_items, kItems_tup, kItems_lst, kItems_own, S_lc, kLc_, S_lcNil, S_yes, kD_rt, kD_nx, Rv.ret, gt, st, kVar_dat, kVar_own, o_add, o_sub, o_eq, o_ne, o_lt, o_le, o_gt, o_ge, o_eqB, o_neB, o_is2, o_isnot2, o_abs, o_ix, o_ixO, o_ixB, o_ixL, o_tupO, o_isBool, map_some', wp, tgN_, List.length_cons, List.length_nil, Nat.reduceAdd, Nat.reduceLeDiff, true_and, decide_true, decide_false, Bool.not_true, Bool.not_false, o_mul_u, o_div_u, o_mod_u, o_pow_u, o_eqS, o_neS, o_intB, o_lenS, o_lenO, o_lenB, o_iaddI, S_s1, kS1_, kS1b_, S_lm, kLm_bor, kLm_own, kLmb_, S_tab, o_ixT, o_ixS, S_put, kPut_, kPutK_, S_zip2, kZip_, kZipb_tup, o_sum, o_sumB, o_tupB, o_tupL, o_lenT, S_range1, kRng_3, S_tgtL, kTgtL_, List.nil_append, List.cons_append, Nat.reduceLT, SZ, forall_const, true_implies]
          have : isShp (.tup ds) = false := by
            show (decide (3 ≤ ds.length) && (ds.all corner && _)) = false
            rw [ha, Bool.false_and, Bool.and_false]
          rw [this] at q
          exact q
        | true =>
          simp only [S_var, S_C, S_op1, k1_, S_op2, k2_, k2b_, S_nil, S_cons, kc_, kcb_, S_opN, kN_, S_tup, S_lst, kT_u, kL_u, stoL_nil, stoL_dat, stoL_own, consO_some, SatO_some, S_call, kCall_u, S_if, S_ifS, kI_true, kI_false, S_andV, S_orV, kAndV_true, kAndV_false, kOrV_true, kOrV_false, S_test, kTest_, S_tru, kTru_, S_and, S_or, S_not, kAnd_true, kAnd_false, kOr_true, kOr_false, kNot_, S_seq, kS_nx, kS_rt, kS_bk, kS_ct, S_pass, S_set, kSet_dat, kSet_own, S_par, kP_, kPb_, S_ret', kR_, S_retN, S_break, S_cont, S_for, kF_, S_forNil, kFb_nx, kFb_ct, kFb_bk, kFb_rt, S_items, kItems_tup, kItems_lst, kItems_own, S_lc, kLc_, S_lcNil, S_yes, kD_rt, kD_nx, Rv.ret, gt, st, kVar_dat, kVar_own, o_add, o_sub, o_eq, o_ne, o_lt, o_le, o_gt, o_ge, o_eqB, o_neB, o_is2, o_isnot2, o_abs, o_ix, o_ixO, o_ixB, o_ixL, o_tupO, o_isBool, map_some', wp, tgN_, List.length_cons, List.length_nil, Nat.reduceAdd, Nat.reduceLeDiff, true_and, decide_true, decide_false, Bool.not_true, Bool.not_false, o_mul_u, o_div_u, o_mod_u, o_pow_u, o_eqS, o_neS, o_intB, o_lenS, o_lenO, o_lenB, o_iaddI, S_s1, kS1_, kS1b_, S_lm, kLm_bor, kLm_own, kLmb_, S_tab, o_ixT, o_ixS, S_put, kPut_, kPutK_, S_zip2, kZip_, kZipb_tup, o_sum, o_sumB, o_tupB, o_tupL, o_lenT, S_range1, kRng_3, S_tgtL, kTgtL_, List.nil_append, List.cons_append, Nat.reduceLT, SZ, forall_const, true_implies]
          have eq : isShp (.tup ds) = (rnd (ds.map vof) && ((ds.map vof).drop 1).all fun v => ltV ((ds.map vof).getD 0 (0, 0, 0)) v) := by
            show (decide (3 ≤ ds.length) && (ds.all corner && _)) = _
            rw [ha, decide_eq_true h3, Bool.true_and, Bool.true_and]
          rw [corners_shp ha]
          have hlv : ∀ v ∈ ds.map vof, Lt3 1000 v := fun v hv => by
            obtain ⟨d, hd, rfl⟩ := List.mem_map.mp hv
            exact corner_lt (List.all_eq_true.mp ha d hd) (h.2 d hd)
          have h3v : 3 ≤ (ds.map vof).length := by rw [List.length_map]; exact h3
          have hlen : (ds.map vof).length ≤ 500 := by rw [List.length_map]; exact hl
          rw [eq] at q
          generalize ds.map vof = vs at *
          have i0 : oIx (.dat (shp vs)) (.dat (.int 0)) = some (.dat (vd (vs.getD 0 (0, 0, 0)))) := ix_shp (k := 0) (by omega)
          simp only [S_var, S_C, S_op1, k1_, S_op2, k2_, k2b_, S_nil, S_cons, kc_, kcb_, S_opN, kN_, S_tup, S_lst, kT_u, kL_u, stoL_nil, stoL_dat, stoL_own, consO_some, SatO_some, S_call, kCall_u, S_if, S_ifS, kI_true, kI_false, S_andV, S_orV, kAndV_true, kAndV_false, kOrV_true, kOrV_false, S_test, kTest_, S_tru, kTru_, S_and, S_or, S_not, kAnd_true, kAnd_false, kOr_true, kOr_false, kNot_, S_seq, kS_nx, kS_rt, kS_bk, kS_ct, S_pass, S_set, kSet_dat, kSet_own, S_par, kP_, kPb_, S_ret', kR_, S_retN, S_break, S_cont, S_for, kF_, S_forNil, kFb_nx, kFb_ct, kFb_bk, kFb_rt, S_items, kItems_tup, kItems_lst, kItems_own, S_lc, kLc_, S_lcNil, S_yes, kD_rt, kD_nx, Rv.ret, gt, st, kVar_dat, kVar_own, o_add, o_sub, o_eq, o_ne, o_lt, o_le, o_gt, o_ge, o_eqB, o_neB, o_is2, o_isnot2, o_abs, o_ix, o_ixO, o_ixB, o_ixL, o_tupO, o_isBool, map_some', wp, tgN_, List.length_cons, List.length_nil, Nat.reduceAdd, Nat.reduceLeDiff, true_and, decide_true, decide_false, Bool.not_true, Bool.not_false, o_mul_u, o_div_u, o_mod_u, o_pow_u, o_eqS, o_neS, o_intB, o_lenS, o_lenO, o_lenB, o_iaddI, S_s1, kS1_, kS1b_, S_lm, kLm_bor, kLm_own, kLmb_, S_tab, o_ixT, o_ixS, S_put, kPut_, kPutK_, S_zip2, kZip_, kZipb_tup, o_sum, o_sumB, o_tupB, o_tupL, o_lenT, S_range1, kRng_3, S_tgtL, kTgtL_, List.nil_append, List.cons_append, Nat.reduceLT, SZ, forall_const, true_implies, S_cutL, kLo, cut_shp1, items_shp]
          refine S_lcA (vs.drop 1) vd (fun v => .bl (ltV (vs.getD 0 (0, 0, 0)) v)) (by rw [List.length_drop]; show _ ≤ 16777216; omega) (fun v hv => ⟨_, rfl, ?_⟩) ?_
          · simp only [S_var, S_C, S_op1, k1_, S_op2, k2_, k2b_, S_nil, S_cons, kc_, kcb_, S_opN, kN_, S_tup, S_lst, kT_u, kL_u, stoL_nil, stoL_dat, stoL_own, consO_some, SatO_some, S_call, kCall_u, S_if, S_ifS, kI_true, kI_false, S_andV, S_orV, kAndV_true, kAndV_false, kOrV_true, kOrV_false, S_test, kTest_, S_tru, kTru_, S_and, S_or, S_not, kAnd_true, kAnd_false, kOr_true, kOr_false, kNot_, S_seq, kS_nx, kS_rt, kS_bk, kS_ct, S_pass, S_set, kSet_dat, kSet_own, S_par, kP_, kPb_, S_ret', kR_, S_retN, S_break, S_cont, S_for, kF_, S_forNil, kFb_nx, kFb_ct, kFb_bk, kFb_rt, S_items, kItems_tup, kItems_lst, kItems_own, S_lc, kLc_, S_lcNil, S_yes, kD_rt, kD_nx, Rv.ret, gt, st, kVar_dat, kVar_own, o_add, o_sub, o_eq, o_ne, o_lt, o_le, o_gt, o_ge, o_eqB, o_neB, o_is2, o_isnot2, o_abs, o_ix, o_ixO, o_ixB, o_ixL, o_tupO, o_isBool, map_some', wp, tgN_, List.length_cons, List.length_nil, Nat.reduceAdd, Nat.reduceLeDiff, true_and, decide_true, decide_false, Bool.not_true, Bool.not_false, o_mul_u, o_div_u, o_mod_u, o_pow_u, o_eqS, o_neS, o_intB, o_lenS, o_lenO, o_lenB, o_iaddI, S_s1, kS1_, kS1b_, S_lm, kLm_bor, kLm_own, kLmb_, S_tab, o_ixT, o_ixS, S_put, kPut_, kPutK_, S_zip2, kZip_, kZipb_tup, o_sum, o_sumB, o_tupB, o_tupL, o_lenT, S_range1, kRng_3, S_tgtL, kTgtL_, List.nil_append, List.cons_append, Nat.reduceLT, SZ, forall_const, true_implies, i0, ltD_vd]
            exact ⟨rfl, trivial⟩
          · simp only [S_var, S_C, S_op1, k1_, S_op2, k2_, k2b_, S_nil, S_cons, kc_, kcb_, S_opN, kN_, S_tup, S_lst, kT_u, kL_u, stoL_nil, stoL_dat, stoL_own, consO_some, SatO_some, S_call, kCall_u, S_if, S_ifS, kI_true, kI_false, S_andV, S_orV, kAndV_true, kAndV_false, kOrV_true, kOrV_false, S_test, kTest_, S_tru, kTru_, S_and, S_or, S_not, kAnd_true, kAnd_false, kOr_true, kOr_false, kNot_, S_seq, kS_nx, kS_rt, kS_bk, kS_ct, S_pass, S_set, kSet_dat, kSet_own, S_par, kP_, kPb_, S_ret', kR_, S_retN, S_break, S_cont, S_for, kF_, S_forNil, kFb_nx, kFb_ct, kFb_bk, kFb_rt, S_items, kItems_tup, kItems_lst, kItems_own, S_lc, kLc_, S_lcNil, S_yes, kD_rt, kD_nx, Rv.ret, gt, st, kVar_dat, kVar_own, o_add, o_sub, o_eq, o_ne, o_lt, o_le, o_gt, o_ge, o_eqB, o_neB, o_is2, o_isnot2, o_abs, o_ix, o_ixO, o_ixB, o_ixL, o_tupO, o_isBool, map_some', wp, tgN_, List.length_cons, List.length_nil, Nat.reduceAdd, Nat.reduceLeDiff, true_and, decide_true, decide_false, Bool.not_true, Bool.not_false, o_mul_u, o_div_u, o_mod_u, o_pow_u, o_eqS, o_neS, o_intB, o_lenS, o_lenO, o_lenB, o_iaddI, S_s1, kS1_, kS1b_, S_lm, kLm_bor, kLm_own, kLmb_, S_tab, o_ixT, o_ixS, S_put, kPut_, kPutK_, S_zip2, kZip_, kZipb_tup, o_sum, o_sumB, o_tupB, o_tupL, o_lenT, S_range1, kRng_3, S_tgtL, kTgtL_, List.nil_append, List.cons_append, Nat.reduceLT, SZ, forall_const, true_implies, oAll_bl]
            cases hlt : (vs.drop 1).all fun v => ltV (vs.getD 0 (0, 0, 0)) v with
            | false =>
              simp only [S_var, S_C, S_op1, k1_, S_op2, k2_, k2b_, S_nil, S_cons, kc_, kcb_, S_opN, kN_, S_tup, S_lst, kT_u, kL_u, stoL_nil, stoL_dat, stoL_own, consO_some, SatO_some, S_call, kCall_u, S_if, S_ifS, kI_true, kI_false, S_andV, S_orV, kAndV_true, kAndV_false, kOrV_true, kOrV_false, S_test, kTest_, S_tru, kTru_, S_and, S_or, S_not, kAnd_true, kAnd_false, kOr_true, kOr_false, kNot_, S_seq, kS_nx, kS_rt, kS_bk, kS_ct, S_pass, S_set, kSet_dat, kSet_own, S_par, kP_, kPb_, S_ret', kR_, S_retN, S_break, S_cont, S_for, kF_, S_forNil, kFb_nx, kFb_ct, kFb_bk, kFb_rt, S_items, kItems_tup, kItems_lst, kItems_own, S_lc, kLc_, S_lcNil, S_yes, kD_rt, kD_nx, Rv.ret, gt, st, kVar_dat, kVar_own, o_add, o_sub, o_eq, o_ne, o_lt, o_le, o_gt, o_ge, o_eqB, o_neB, o_is2, o_isnot2, o_abs, o_ix, o_ixO, o_ixB, o_ixL, o_tupO, o_isBool, map_some', wp, tgN_, List.length_cons, List.length_nil, Nat.reduceAdd, Nat.reduceLeDiff, true_and, decide_true, decide_false, Bool.not_true, Bool.not_false, o_mul_u, o_div_u, o_mod_u, o_pow_u, o_eqS, o_neS, o_intB, o_lenS, o_lenO, o_lenB, o_iaddI, S_s1, kS1_, kS1b_, S_lm, kLm_bor, kLm_own, kLmb_, S_tab, o_ixT, o_ixS, S_put, kPut_, kPutK_, S_zip2, kZip_, kZipb_tup, o_sum, o_sumB, o_tupB, o_tupL, o_lenT, S_range1, kRng_3, S_tgtL, kTgtL_, List.nil_append, List.cons_append, Nat.reduceLT, SZ, forall_const, true_implies]
              rw [hlt, Bool.and_false] at q
              exact q
            | true =>
              rw [hlt, Bool.and_true] at q
              simp only [S_var, S_C, S_op1, k1_, S_op2, k2_, k2b_, S_nil, S_cons, kc_, kcb_, S_opN, kN_, S_tup, S_lst, kT_u, kL_u, stoL_nil, stoL_dat, stoL_own, consO_some, SatO_some, S_call, kCall_u, S_if, S_ifS, kI_true, kI_false, S_andV, S_orV, kAndV_true, kAndV_false, kOrV_true, kOrV_false, S_test, kTest_, S_tru, kTru_, S_and, S_or, S_not, kAnd_true, kAnd_false, kOr_true, kOr_false, kNot_, S_seq, kS_nx, kS_rt, kS_bk, kS_ct, S_pass, S_set, kSet_dat, kSet_own, S_par, kP_, kPb_, S_ret', kR_, S_retN, S_break, S_cont, S_for, kF_, S_forNil, kFb_nx, kFb_ct, kFb_bk, kFb_rt, S_items, kItems_tup, kItems_lst, kItems_own, S_lc, kLc_, S_lcNil, S_yes, kD_rt, kD_nx, Rv.ret, gt, st, kVar_dat, kVar_own, o_add, o_sub, o_eq, o_ne, o_lt, o_le, o_gt, o_ge, o_eqB, o_neB, o_is2, o_isnot2, o_abs, o_ix, o_ixO, o_ixB, o_ixL, o_tupO, o_isBool, map_some', wp, tgN_, List.length_cons, List.length_nil, Nat.reduceAdd, Nat.reduceLeDiff, true_and, decide_true, decide_false, Bool.not_true, Bool.not_false, o_mul_u, o_div_u, o_mod_u, o_pow_u, o_eqS, o_neS, o_intB, o_lenS, o_lenO, o_lenB, o_iaddI, S_s1, kS1_, kS1b_, S_lm, kLm_bor, kLm_own, kLmb_, S_tab, o_ixT, o_ixS, S_put, kPut_, kPutK_, S_zip2, kZip_, kZipb_tup, o_sum, o_sumB, o_tupB, o_tupL, o_lenT, S_range1, kRng_3, S_tgtL, kTgtL_, List.nil_append, List.cons_append, Nat.reduceLT, SZ, forall_const, true_implies, len_shp]
              have rr := S_lround (s := s) (Q := Q) hlv h3v hlen q
              unfold roundM at rr
              simp only [S_var, S_C, S_op1, k1_, S_op2, k2_, k2b_, S_nil, S_cons, kc_, kcb_, S_opN, kN_, S_tup, S_lst, kT_u, kL_u, stoL_nil, stoL_dat, stoL_own, consO_some, SatO_some, S_call, kCall_u, S_if, S_ifS, kI_true, kI_false, S_andV, S_orV, kAndV_true, kAndV_false, kOrV_true, kOrV_false, S_test, kTest_, S_tru, kTru_, S_and, S_or, S_not, kAnd_true, kAnd_false, kOr_true, kOr_false, kNot_, S_seq, kS_nx, kS_rt, kS_bk, kS_ct, S_pass, S_set, kSet_dat, kSet_own, S_par, kP_, kPb_, S_ret', kR_, S_retN, S_break, S_cont, S_for, kF_, S_forNil, kFb_nx, kFb_ct, kFb_bk, kFb_rt, S_items, kItems_tup, kItems_lst, kItems_own, S_lc, kLc_, S_lcNil, S_yes, kD_rt, kD_nx, Rv.ret, gt, st, kVar_dat, kVar_own, o_add, o_sub, o_eq, o_ne, o_lt, o_le, o_gt, o_ge, o_eqB, o_neB, o_is2, o_isnot2, o_abs, o_ix, o_ixO, o_ixB, o_ixL, o_tupO, o_isBool, map_some', wp, tgN_, List.length_cons, List.length_nil, Nat.reduceAdd, Nat.reduceLeDiff, true_and, decide_true, decide_false, Bool.not_true, Bool.not_false, o_mul_u, o_div_u, o_mod_u, o_pow_u, o_eqS, o_neS, o_intB, o_lenS, o_lenO, o_lenB, o_iaddI, S_s1, kS1_, kS1b_, S_lm, kLm_bor, kLm_own, kLmb_, S_tab, o_ixT, o_ixS, S_put, kPut_, kPutK_, S_zip2, kZip_, kZipb_tup, o_sum, o_sumB, o_tupB, o_tupL, o_lenT, S_range1, kRng_3, S_tgtL, kTgtL_, List.nil_append, List.cons_append, Nat.reduceLT, SZ, forall_const, true_implies, len_shp] at rr
              exact rr
    · have d3 : decide (((ds.length : Nat) : Int) < 3) = true := decide_eq_true (by omega)
      simp only [S_var, S_C, S_op1, k1_, S_op2, k2_, k2b_, S_nil, S_cons, kc_, kcb_, S_opN, kN_, S_tup, S_lst, kT_u, kL_u, stoL_nil, stoL_dat, stoL_own, consO_some, SatO_some, S_call, kCall_u, S_if, S_ifS, kI_true, kI_false, S_andV, S_orV, kAndV_true, kAndV_false, kOrV_true, kOrV_false, S_test, kTest_, S_tru, kTru_, S_and, S_or, S_not, kAnd_true, kAnd_false, kOr_true, kOr_false, kNot_, S_seq, kS_nx, kS_rt, kS_bk, kS_ct, S_pass, S_set, kSet_dat, kSet_own, S_par, kP_, kPb_, S_ret', kR_, S_retN, S_break, S_cont, S_for, kF_, S_forNil, kFb_nx, kFb_ct, kFb_bk, kFb_rt, S_items, kItems_tup, kItems_lst, kItems_own, S_lc, kLc_, S_lcNil, S_yes, kD_rt, kD_nx, Rv.ret, gt, st, kVar_dat, kVar_own, o_add, o_sub, o_eq, o_ne, o_lt, o_le, o_gt, o_ge, o_eqB, o_neB, o_is2, o_isnot2, o_abs, o_ix, o_ixO, o_ixB, o_ixL, o_tupO, o_isBool, map_some', wp, tgN_, List.length_cons, List.length_nil, Nat.reduceAdd, Nat.reduceLeDiff, true_and, decide_true, decide_false, Bool.not_true, Bool.not_false, o_mul_u, o_div_u, o_mod_u, o_pow_u, o_eqS, o_neS, o_intB, o_lenS, o_lenO, o_lenB, o_iaddI, S_s1, kS1_, kS1b_, S_lm, kLm_bor, kLm_own, kLmb_, S_tab, o_ixT, o_ixS, S_put, kPut_, kPutK_, S_zip2, kZip_, kZipb_tup, o_sum, o_sumB, o_tupB, o_tupL, o_lenT, S_range1, kRng_3, S_tgtL, kTgtL_, List.nil_append, List.cons_append, Nat.reduceLT, SZ, forall_const, true_implies, S_op1, k1_, it, d3]
      have : isShp (.tup ds) = false := by
        show (decide (3 ≤ ds.length) && _) = false
        rw [decide_eq_false h3, Bool.false_and]
      rw [this] at q
      exact q
  · have tf : isTy .tuple d = false := by
      cases d <;> first
        | rfl
        | exact absurd ⟨_, rfl⟩ ht
    have cf : isShp d = false := by
      cases d <;> first
        | rfl
        | exact absurd ⟨_, rfl⟩ ht
    rw [tf] at it
    rw [cf] at q
    simp only [S_var, S_C, S_op1, k1_, S_op2, k2_, k2b_, S_nil, S_cons, kc_, kcb_, S_opN, kN_, S_tup, S_lst, kT_u, kL_u, stoL_nil, stoL_dat, stoL_own, consO_some, SatO_some, S_call, kCall_u, S_if, S_ifS, kI_true, kI_false, S_andV, S_orV, kAndV_true, kAndV_false, kOrV_true, kOrV_false, S_test, kTest_, S_tru, kTru_, S_and, S_or, S_not, kAnd_true, kAnd_false, kOr_true, kOr_false, kNot_, S_seq, kS_nx, kS_rt, kS_bk, kS_ct, S_pass, S_set, kSet_dat, kSet_own, S_par, kP_, kPb_, S_ret', kR_, S_retN, S_break, S_cont, S_for, kF_, S_forNil, kFb_nx, kFb_ct, kFb_bk, kFb_rt, S_items, kItems_tup, kItems_lst, kItems_own, S_lc, kLc_, S_lcNil, S_yes, kD_rt, kD_nx, Rv.ret, gt, st, kVar_dat, kVar_own, o_add, o_sub, o_eq, o_ne, o_lt, o_le, o_gt, o_ge, o_eqB, o_neB, o_is2, o_isnot2, o_abs, o_ix, o_ixO, o_ixB, o_ixL, o_tupO, o_isBool, map_some', wp, tgN_, List.length_cons, List.length_nil, Nat.reduceAdd, Nat.reduceLeDiff, true_and, decide_true, decide_false, Bool.not_true, Bool.not_false, o_mul_u, o_div_u, o_mod_u, o_pow_u, o_eqS, o_neS, o_intB, o_lenS, o_lenO, o_lenB, o_iaddI, S_s1, kS1_, kS1b_, S_lm, kLm_bor, kLm_own, kLmb_, S_tab, o_ixT, o_ixS, S_put, kPut_, kPutK_, S_zip2, kZip_, kZipb_tup, o_sum, o_sumB, o_tupB, o_tupL, o_lenT, S_range1, kRng_3, S_tgtL, kTgtL_, List.nil_append, List.cons_append, Nat.reduceLT, SZ, forall_const, true_implies, S_op1, k1_, it]
    exact q
end
end PB
set_option Elab.async false
set_option linter.all false
set_option maxRecDepth 10000
set_option maxHeartbeats 4000000
set_option exponentiation.threshold 20000
namespace PB
def Sm (L : Nat) : Nat → D → Prop
  | _, .non => True
  | _, .bl _ => True
  | _, .int i => i.natAbs < 2 ^ 900
  | _, .str s => s.length ≤ 500
  | 0, _ => False
  | n + 1, .tup ds => ds.length ≤ L ∧ ∀ d ∈ ds, Sm L n d
  | _ + 1, _ => False
theorem Sm.sc {L n : Nat} {d : D} (hd : Sm L 0 d) : Sm L n d := by
  cases d with
  | tup ds => exact hd.elim
  | lst ds => exact hd.elim
  | ref a => exact hd.elim
  | dct t ks vs => exact hd.elim
  | _ => cases n <;> exact hd
theorem Sm.up {L L' n : Nat} {d : D} (hL : L ≤ L') : ∀ {m : Nat}, n ≤ m → Sm L n d → Sm L' m d := by
  induction n generalizing d with
  | zero =>
    intro m _ h
    cases d with
    | tup ds => exact h.elim
    | lst ds => exact h.elim
    | ref a => exact h.elim
    | dct t ks vs => exact h.elim
    | _ => cases m <;> exact h
  | succ n ih =>
    intro m hm h
    cases m with
    | zero => omega
    | succ m =>
      cases d with
      | tup ds => exact ⟨Nat.le_trans h.1 hL, fun d hd => ih (by omega) (h.2 d hd)⟩
      | lst ds => exact h.elim
      | ref a => exact h.elim
      | dct t ks vs => exact h.elim
      | _ => exact h
theorem Sm.fit {L n : Nat} {d : D} (hL : L ≤ 500) (h : Sm L n d) : Fit n d := by
  have p9 : (2 : Nat) ^ 900 ≤ 2 ^ 1000 := Nat.pow_le_pow_right (by decide) (by decide)
  induction n generalizing d with
  | zero =>
    cases d with
    | tup ds => exact h.elim
    | lst ds => exact h.elim
    | ref a => exact h.elim
    | dct t ks vs => exact h.elim
    | int i =>
      have h : i.natAbs < 2 ^ 900 := h
      exact Nat.lt_of_lt_of_le h p9
    | str s =>
      have h : s.length ≤ 500 := h
      show s.length ≤ 1000
      omega
    | _ => exact h
  | succ n ih =>
    cases d with
    | tup ds => exact ⟨Nat.le_trans h.1 hL, fun d hd => ih (h.2 d hd)⟩
    | lst ds => exact h.elim
    | ref a => exact h.elim
    | dct t ks vs => exact h.elim
    | int i =>
      have h : i.natAbs < 2 ^ 900 := h
      exact Nat.lt_of_lt_of_le h p9
    | str s =>
      have h : s.length ≤ 500 := h
      show s.length ≤ 1000
      omega
    | _ => exact h
theorem Sm.isT {L n : Nat} {d : D} (h : Sm L n d) (T : Ty) : oIs T (.dat d) = some (.dat (.bl (isTy T d))) := by
  refine o_isT ?_ ?_
  · rintro a rfl
    cases n <;> exact h
  · rintro t ks vs rfl
    cases n <;> exact h
theorem Sm.tup {L n : Nat} {ds : List D} (h : Sm L n (.tup ds)) : ∃ m, n = m + 1 ∧ ds.length ≤ L ∧ ∀ d ∈ ds, Sm L m d := by
  cases n with
  | zero => exact h.elim
  | succ m => exact ⟨m, rfl, h⟩
theorem sm_vd {n L m : Nat} {v : V3} (h : Lt3 n v) (hn : n ≤ 900) (hL : 3 ≤ L) : Sm L (m + 1) (vd v) := by
  refine ⟨hL, fun d hd => ?_⟩
  have g : ∀ i : Int, i.natAbs < 2 ^ n → Sm L m (.int i) := fun i hi => by
    have : i.natAbs < 2 ^ 900 := ltUp hi hn
    cases m <;> exact this
  rcases List.mem_cons.mp hd with rfl | hd
  · exact g _ h.x
  · rcases List.mem_cons.mp hd with rfl | hd
    · exact g _ h.y
    · rw [List.mem_singleton.mp hd]
      exact g _ h.z
theorem sm_int {L n : Nat} {i : Int} (h : i.natAbs < 2 ^ 900) : Sm L n (.int i) := by cases n <;> exact h
section
variable {Q : Rv → LS → Prop} {g s : LS} {a b : Nat}
theorem S_drawN {n : Nat} (h : Bud a (b + 1) s) (n0 : 0 < n) (n1 : n ≤ 1000) (q : ∀ (k : Nat) (s' : LS), k < n → Bud a b s' → Q (.dat (.int (k : Nat))) s') : Sat (drawF [.ref a, .int (n : Nat)] s) Q := by
  have big : (1000 : Int) ≤ 10 ^ 90 := by decide
  refine S_draw h (by omega) (by omega) fun k s' k0 k1 h' => ?_
  obtain ⟨k, rfl⟩ := Int.eq_ofNat_of_zero_le k0
  exact q k s' (by omega) h'
theorem hiT {ds : List D} {k : Nat} : kHi (.dat (.tup ds)) none Q (.dat (.int (k : Nat))) g = Q (.dat (.tup (ds.take k))) g := by
  show Q (.dat (.tup (cut ds none (some ((k : Nat) : Int))))) g = _
  rw [cutHiI]
theorem loT {ds : List D} {k : Nat} : kLo (.dat (.tup ds)) Q (.dat (.int (k : Nat))) g = Q (.dat (.tup (ds.drop k))) g := by
  show Q (.dat (.tup (cut ds (some ((k : Nat) : Int)) none))) g = _
  rw [cutLoI]
theorem loT1 {ds : List D} {k : Nat} : kLo (.dat (.tup ds)) Q (.dat (.int (((k : Nat) : Int) + 1))) g = Q (.dat (.tup (ds.drop (k + 1)))) g := by
  rw [show ((k : Nat) : Int) + 1 = ((k + 1 : Nat) : Int) from rfl, loT]
theorem addT {xs ys : List D} : SatO (oAdd (.dat (.tup xs)) (.dat (.tup ys))) Q g = (xs.length + ys.length ≤ SZ ∧ Q (.dat (.tup (xs ++ ys))) g) := SatO_ite _ _ _ _
theorem ixT {ds : List D} {k : Nat} (h : k < ds.length) : oIx (.dat (.tup ds)) (.dat (.int (k : Nat))) = some (.dat ds[k]) := by
  show (atI ds ((k : Nat) : Int)).map _ = _
  rw [atIat h]
  rfl
theorem sm_split {L n k : Nat} {ds es : List D} {j : Nat} (h1 : ds.length ≤ L) (h2 : ∀ d ∈ ds, Sm L n d) (h3 : ∀ d ∈ es, Sm L n d) (hl : (ds.take k).length + es.length + (ds.drop j).length ≤ L) : Sm L (n + 1) (.tup (ds.take k ++ es ++ ds.drop j)) := by
  refine ⟨by rw [List.length_append, List.length_append]; omega, fun d hd => ?_⟩
  rcases List.mem_append.mp hd with hd | hd
  · rcases List.mem_append.mp hd with hd | hd
    · exact h2 d (List.mem_of_mem_take hd)
    · exact h3 d hd
  · exact h2 d (List.mem_of_mem_drop hd)
end
def oddM (F : MF LS) : MS LS := (mSeq (mSet 2 (mOp2 oIx (mTup (mCons (mC .non) (mCons (mC (.bl false)) (mCons (mC (.int 1)) (mCons (mC (.str [97])) (mCons (mTup mNil) (mCons (mTup (mCons (mC (.int 0)) mNil)) (mCons (mTup (mCons (mVar 1) mNil)) mNil)))))))) (mCall drawF (mCons (mVar 0) (mCons (mC (.int 7)) mNil)))))
    (mSeq (mSet 3 (mCall drawF (mCons (mVar 0) (mCons (mC (.int 6)) mNil))))
    (mSeq (mIfS (mOr (mNot (mTest (mOp1 (oIs .tuple) (mVar 1)))) (mOr (mTest (mOp2 oEq (mOpN oLen (mCons (mVar 1) mNil)) (mC (.int 0)))) (mTest (mOp2 oEq (mVar 3) (mC (.int 0)))))) (mRet (mVar 2)) mPass)
    (mSeq (mSet 4 (mCall drawF (mCons (mVar 0) (mCons (mOpN oLen (mCons (mVar 1) mNil)) mNil))))
    (mSeq (mIfS (mTest (mOp2 oEq (mVar 3) (mC (.int 1)))) (mRet (mOp2 oAdd (mCut (mVar 1) none (some (mVar 4))) (mCut (mVar 1) (some (mOp2 oAdd (mVar 4) (mC (.int 1)))) none))) mPass)
    (mSeq (mIfS (mTest (mOp2 oEq (mVar 3) (mC (.int 2)))) (mRet (mOp2 oAdd (mVar 1) (mTup (mCons (mOp2 oIx (mVar 1) (mVar 4)) mNil)))) mPass)
    (mRet (mOp2 oAdd (mOp2 oAdd (mCut (mVar 1) none (some (mVar 4))) (mTup (mCons (mCall F (mCons (mVar 0) (mCons (mOp2 oIx (mVar 1) (mVar 4)) mNil))) mNil))) (mCut (mVar 1) (some (mOp2 oAdd (mVar 4) (mC (.int 1)))) none)))))))))
def oddF : Nat → MF LS
  | 0 => fun _ _ => .no
  | n + 1 => mDef 5 2 (oddM (oddF n))
theorem S_odd {a L : Nat} (hL : 1 ≤ L) (hL2 : L ≤ 900) : ∀ (k n b : Nat) (d : D) (s : LS) (Q : Rv → LS → Prop), Sm L n d → n < k → Bud a (b + 3 * (n + 1)) s → (∀ d' s', Sm (L + 1) (n + 1) d' → Bud a b s' → Q (.dat d') s') → Sat (oddF k [.ref a, d] s) Q
  | 0, n, _, _, _, _, _, h, _, _ => by omega
  | k + 1, n, b, d, s, Q, hd, hk, hb, q => by
    show Sat (mDef 5 2 (oddM (oddF k)) [.ref a, d] s) Q
    rw [S_def (k := 2) (ds := [.ref a, d]) rfl]
    show Sat (oddM (oddF k) [.dat (.ref a), .dat d, .un, .un, .un] s) _
    unfold oddM
    have it := hd.isT .tuple
    simp only [S_var, S_C, S_op1, k1_, S_op2, k2_, k2b_, S_nil, S_cons, kc_, kcb_, S_opN, kN_, S_tup, S_lst, kT_u, kL_u, stoL_nil, stoL_dat, stoL_own, consO_some, SatO_some, S_call, kCall_u, S_if, S_ifS, kI_true, kI_false, S_andV, S_orV, kAndV_true, kAndV_false, kOrV_true, kOrV_false, S_test, kTest_, S_tru, kTru_, S_and, S_or, S_not, kAnd_true, kAnd_false, kOr_true, kOr_false, kNot_, S_seq, kS_nx, kS_rt, kS_bk, kS_ct, S_pass, S_set, kSet_dat, kSet_own, S_par, kP_, kPb_, S_ret', kR_, S_retN, S_break, S_cont, S_for, kF_, S_forNil, kFb_nx, kFb_ct, kFb_bk, kFb_rt, S_items, kItems_tup, kItems_lst, kItems_own, S_lc, kLc_, S_lcNil, S_yes, kD_rt, kD_nx, Rv.ret, gt, st, kVar_dat, kVar_own, o_add, o_sub, o_eq, o_ne, o_lt, o_le, o_gt, o_ge, o_eqB, o_neB, o_is2, o_isnot2, o_abs, o_ix, o_ixO, o_ixB, o_ixL, o_tupO, o_isBool, map_some', wp, tgN_, List.length_cons, List.length_nil, Nat.reduceAdd, Nat.reduceLeDiff, true_and, decide_true, decide_false, Bool.not_true, Bool.not_false, o_mul_u, o_div_u, o_mod_u, o_pow_u, o_eqS, o_neS, o_intB, o_lenS, o_lenO, o_lenB, o_iaddI, S_s1, kS1_, kS1b_, S_lm, kLm_bor, kLm_own, kLmb_, S_tab, o_ixT, o_ixS, S_put, kPut_, kPutK_, S_zip2, kZip_, kZipb_tup, o_sum, o_sumB, o_tupB, o_tupL, o_lenT, S_range1, kRng_3, S_tgtL, kTgtL_, List.nil_append, List.cons_append, Nat.reduceLT, SZ, forall_const, true_implies]
    refine S_drawN (n := 7) (b := b + 3 * n + 2) (hb.le (by omega)) (by decide) (by decide) fun i s1 hi h1 => ?_
    obtain ⟨od, eo, ho⟩ : ∃ od, oIx (.dat (.tup [.non, .bl false, .int 1, .str [97], .tup [], .tup [.int 0], .tup [d]])) (.dat (.int (i : Nat))) = some (.dat od) ∧ Sm (L + 1) (n + 1) od := by
      have e1 : Sm (L + 1) (n + 1) (.tup []) := ⟨by simp, fun d hd => nomatch hd⟩
      have e2 : Sm (L + 1) (n + 1) (.tup [.int 0]) := ⟨by simp, fun d hd => by rw [List.mem_singleton.mp hd]; exact sm_int (by decide)⟩
      have e3 : Sm (L + 1) (n + 1) (.tup [d]) := ⟨by simp, fun d' hd' => by rw [List.mem_singleton.mp hd']; exact hd.up (by omega) (Nat.le_refl _)⟩
      rcases (by omega : i = 0 ∨ i = 1 ∨ i = 2 ∨ i = 3 ∨ i = 4 ∨ i = 5 ∨ i = 6) with rfl | rfl | rfl | rfl | rfl | rfl | rfl
      · exact ⟨_, rfl, trivial⟩
      · exact ⟨_, rfl, trivial⟩
      · exact ⟨_, rfl, sm_int (by decide)⟩
      · exact ⟨_, rfl, (by show 1 ≤ 500; decide)⟩
      · exact ⟨_, rfl, e1⟩
      · exact ⟨_, rfl, e2⟩
      · exact ⟨_, rfl, e3⟩
    rw [k2b_, eo]
    simp only [S_var, S_C, S_op1, k1_, S_op2, k2_, k2b_, S_nil, S_cons, kc_, kcb_, S_opN, kN_, S_tup, S_lst, kT_u, kL_u, stoL_nil, stoL_dat, stoL_own, consO_some, SatO_some, S_call, kCall_u, S_if, S_ifS, kI_true, kI_false, S_andV, S_orV, kAndV_true, kAndV_false, kOrV_true, kOrV_false, S_test, kTest_, S_tru, kTru_, S_and, S_or, S_not, kAnd_true, kAnd_false, kOr_true, kOr_false, kNot_, S_seq, kS_nx, kS_rt, kS_bk, kS_ct, S_pass, S_set, kSet_dat, kSet_own, S_par, kP_, kPb_, S_ret', kR_, S_retN, S_break, S_cont, S_for, kF_, S_forNil, kFb_nx, kFb_ct, kFb_bk, kFb_rt, S_items, kItems_tup, kItems_lst, kItems_own, S_lc, kLc_, S_lcNil, S_yes, kD_rt, kD_nx, Rv.ret, gt, st, kVar_dat, kVar_own, o_add, o_sub, o_eq, o_ne, o_lt, o_le, o_gt, o_ge, o_eqB, o_neB, o_is2, o_isnot2, o_abs, o_ix, o_ixO, o_ixB, o_ixL, o_tupO, o_isBool, map_some', wp, tgN_, List.length_cons, List.length_nil, Nat.reduceAdd, Nat.reduceLeDiff, true_and, decide_true, decide_false, Bool.not_true, Bool.not_false, o_mul_u, o_div_u, o_mod_u, o_pow_u, o_eqS, o_neS, o_intB, o_lenS, o_lenO, o_lenB, o_iaddI, S_s1, kS1_, kS1b_, S_lm, kLm_bor, kLm_own, kLmb_, S_tab, o_ixT, o_ixS, S_put, kPut_, kPutK_, S_zip2, kZip_, kZipb_tup, o_sum, o_sumB, o_tupB, o_tupL, o_lenT, S_range1, kRng_3, S_tgtL, kTgtL_, List.nil_append, List.cons_append, Nat.reduceLT, SZ, forall_const, true_implies]
    refine S_drawN (n := 6) (b := b + 3 * n + 1) h1 (by decide) (by decide) fun way s2 hw h2 => ?_
    simp only [S_var, S_C, S_op1, k1_, S_op2, k2_, k2b_, S_nil, S_cons, kc_, kcb_, S_opN, kN_, S_tup, S_lst, kT_u, kL_u, stoL_nil, stoL_dat, stoL_own, consO_some, SatO_some, S_call, kCall_u, S_if, S_ifS, kI_true, kI_false, S_andV, S_orV, kAndV_true, kAndV_false, kOrV_true, kOrV_false, S_test, kTest_, S_tru, kTru_, S_and, S_or, S_not, kAnd_true, kAnd_false, kOr_true, kOr_false, kNot_, S_seq, kS_nx, kS_rt, kS_bk, kS_ct, S_pass, S_set, kSet_dat, kSet_own, S_par, kP_, kPb_, S_ret', kR_, S_retN, S_break, S_cont, S_for, kF_, S_forNil, kFb_nx, kFb_ct, kFb_bk, kFb_rt, S_items, kItems_tup, kItems_lst, kItems_own, S_lc, kLc_, S_lcNil, S_yes, kD_rt, kD_nx, Rv.ret, gt, st, kVar_dat, kVar_own, o_add, o_sub, o_eq, o_ne, o_lt, o_le, o_gt, o_ge, o_eqB, o_neB, o_is2, o_isnot2, o_abs, o_ix, o_ixO, o_ixB, o_ixL, o_tupO, o_isBool, map_some', wp, tgN_, List.length_cons, List.length_nil, Nat.reduceAdd, Nat.reduceLeDiff, true_and, decide_true, decide_false, Bool.not_true, Bool.not_false, o_mul_u, o_div_u, o_mod_u, o_pow_u, o_eqS, o_neS, o_intB, o_lenS, o_lenO, o_lenB, o_iaddI, S_s1, kS1_, kS1b_, S_lm, kLm_bor, kLm_own, kLmb_, S_tab, o_ixT, o_ixS, S_put, kPut_, kPutK_, S_zip2, kZip_, kZipb_tup, o_sum, o_sumB, o_tupB, o_tupL, o_lenT, S_range1, kRng_3, S_tgtL, kTgtL_, List.nil_append, List.cons_append, Nat.reduceLT, SZ, forall_const, true_implies, S_op1, k1_, it]
    by_cases ht : ∃ ds, d = .tup ds
    · obtain ⟨ds, rfl⟩ := ht
      obtain ⟨m, rfl, hl, hm⟩ := hd.tup
      simp only [S_var, S_C, S_op1, k1_, S_op2, k2_, k2b_, S_nil, S_cons, kc_, kcb_, S_opN, kN_, S_tup, S_lst, kT_u, kL_u, stoL_nil, stoL_dat, stoL_own, consO_some, SatO_some, S_call, kCall_u, S_if, S_ifS, kI_true, kI_false, S_andV, S_orV, kAndV_true, kAndV_false, kOrV_true, kOrV_false, S_test, kTest_, S_tru, kTru_, S_and, S_or, S_not, kAnd_true, kAnd_false, kOr_true, kOr_false, kNot_, S_seq, kS_nx, kS_rt, kS_bk, kS_ct, S_pass, S_set, kSet_dat, kSet_own, S_par, kP_, kPb_, S_ret', kR_, S_retN, S_break, S_cont, S_for, kF_, S_forNil, kFb_nx, kFb_ct, kFb_bk, kFb_rt, S_items, kItems_tup, kItems_lst, kItems_own, S_lc, kLc_, S_lcNil, S_yes, kD_rt, kD_nx, Rv.ret, gt, st, kVar_dat, kVar_own, o_add, o_sub, o_eq, o_ne, o_lt, o_le, o_gt, o_ge, o_eqB, o_neB, o_is2, o_isnot2, o_abs, o_ix, o_ixO, o_ixB, o_ixL, o_tupO, o_isBool, map_some', wp, tgN_, List.length_cons, List.length_nil, Nat.reduceAdd, Nat.reduceLeDiff, true_and, decide_true, decide_false, Bool.not_true, Bool.not_false, o_mul_u, o_div_u, o_mod_u, o_pow_u, o_eqS, o_neS, o_intB, o_lenS, o_lenO, o_lenB, o_iaddI, S_s1, kS1_, kS1b_, S_lm, kLm_bor, kLm_own, kLmb_, S_tab, o_ixT, o_ixS, S_put, kPut_, kPutK_, S_zip2, kZip_, kZipb_tup, o_sum, o_sumB, o_tupB, o_tupL, o_lenT, S_range1, kRng_3, S_tgtL, kTgtL_, List.nil_append, List.cons_append, Nat.reduceLT, SZ, forall_const, true_implies, isTy]
      by_cases h0 : ds.length = 0
      · have d0 : decide (((ds.length : Nat) : Int) = 0) = true := decide_eq_true (by omega)
        simp only [S_var, S_C, S_op1, k1_, S_op2, k2_, k2b_, S_nil, S_cons, kc_, kcb_, S_opN, kN_, S_tup, S_lst, kT_u, kL_u, stoL_nil, stoL_dat, stoL_own, consO_some, SatO_some, S_call, kCall_u, S_if, S_ifS, kI_true, kI_false, S_andV, S_orV, kAndV_true, kAndV_false, kOrV_true, kOrV_false, S_test, kTest_, S_tru, kTru_, S_and, S_or, S_not, kAnd_true, kAnd_false, kOr_true, kOr_false, kNot_, S_seq, kS_nx, kS_rt, kS_bk, kS_ct, S_pass, S_set, kSet_dat, kSet_own, S_par, kP_, kPb_, S_ret', kR_, S_retN, S_break, S_cont, S_for, kF_, S_forNil, kFb_nx, kFb_ct, kFb_bk, kFb_rt, S_items, kItems_tup, kItems_lst, kItems_own, S_lc, kLc_, S_lcNil, S_yes, kD_rt, kD_nx, Rv.ret, gt, st, kVar_dat, kVar_own, o_add, o_sub, o_eq, o_ne, o_lt, o_le, o_gt, o_ge, o_eqB, o_neB, o_is2, o_isnot2, o_abs, o_ix, o_ixO, o_ixB, o_ixL, o_tupO, o_isBool, map_some', wp, tgN_, List.length_cons, List.length_nil, Nat.reduceAdd, Nat.reduceLeDiff, true_and, decide_true, decide_false, Bool.not_true, Bool.not_false, o_mul_u, o_div_u, o_mod_u, o_pow_u, o_eqS, o_neS, o_intB, o_lenS, o_lenO, o_lenB, o_iaddI, S_s1, kS1_, kS1b_, S_lm, kLm_bor, kLm_own, kLmb_, S_tab, o_ixT, o_ixS, S_put, kPut_, kPutK_, S_zip2, kZip_, kZipb_tup, o_sum, o_sumB, o_tupB, o_tupL, o_lenT, S_range1, kRng_3, S_tgtL, kTgtL_, List.nil_append, List.cons_append, Nat.reduceLT, SZ, forall_const, true_implies, d0]
        exact q od s2 ho (h2.le (by omega))
      · have d0 : decide (((ds.length : Nat) : Int) = 0) = false := decide_eq_false (by omega)
        simp only [S_var, S_C, S_op1, k1_, S_op2, k2_, k2b_, S_nil, S_cons, kc_, kcb_, S_opN, kN_, S_tup, S_lst, kT_u, kL_u, stoL_nil, stoL_dat, stoL_own, consO_some, SatO_some, S_call, kCall_u, S_if, S_ifS, kI_true, kI_false, S_andV, S_orV, kAndV_true, kAndV_false, kOrV_true, kOrV_false, S_test, kTest_, S_tru, kTru_, S_and, S_or, S_not, kAnd_true, kAnd_false, kOr_true, kOr_false, kNot_, S_seq, kS_nx, kS_rt, kS_bk, kS_ct, S_pass, S_set, kSet_dat, kSet_own, S_par, kP_, kPb_, S_ret', kR_, S_retN, S_break, S_cont, S_for, kF_, S_forNil, kFb_nx, kFb_ct, kFb_bk, kFb_rt, S_items, kItems_tup, kItems_lst, kItems_own, S_lc, kLc_, S_lcNil, S_yes, kD_rt, kD_nx, Rv.ret, gt, st, kVar_dat, kVar_own, o_add, o_sub, o_eq, o_ne, o_lt, o_le, o_gt, o_ge, o_eqB, o_neB, o_is2, o_isnot2, o_abs, o_ix, o_ixO, o_ixB, o_ixL, o_tupO, o_isBool, map_some', wp, tgN_, List.length_cons, List.length_nil, Nat.reduceAdd, Nat.reduceLeDiff, true_and, decide_true, decide_false, Bool.not_true, Bool.not_false, o_mul_u, o_div_u, o_mod_u, o_pow_u, o_eqS, o_neS, o_intB, o_lenS, o_lenO, o_lenB, o_iaddI, S_s1, kS1_, kS1b_, S_lm, kLm_bor, kLm_own, kLmb_, S_tab, o_ixT, o_ixS, S_put, kPut_, kPutK_, S_zip2, kZip_, kZipb_tup, o_sum, o_sumB, o_tupB, o_tupL, o_lenT, S_range1, kRng_3, S_tgtL, kTgtL_, List.nil_append, List.cons_append, Nat.reduceLT, SZ, forall_const, true_implies, d0]
        refine kI_d (fun _ => ?_) (fun hw0 => ?_)
        · simp only [S_var, S_C, S_op1, k1_, S_op2, k2_, k2b_, S_nil, S_cons, kc_, kcb_, S_opN, kN_, S_tup, S_lst, kT_u, kL_u, stoL_nil, stoL_dat, stoL_own, consO_some, SatO_some, S_call, kCall_u, S_if, S_ifS, kI_true, kI_false, S_andV, S_orV, kAndV_true, kAndV_false, kOrV_true, kOrV_false, S_test, kTest_, S_tru, kTru_, S_and, S_or, S_not, kAnd_true, kAnd_false, kOr_true, kOr_false, kNot_, S_seq, kS_nx, kS_rt, kS_bk, kS_ct, S_pass, S_set, kSet_dat, kSet_own, S_par, kP_, kPb_, S_ret', kR_, S_retN, S_break, S_cont, S_for, kF_, S_forNil, kFb_nx, kFb_ct, kFb_bk, kFb_rt, S_items, kItems_tup, kItems_lst, kItems_own, S_lc, kLc_, S_lcNil, S_yes, kD_rt, kD_nx, Rv.ret, gt, st, kVar_dat, kVar_own, o_add, o_sub, o_eq, o_ne, o_lt, o_le, o_gt, o_ge, o_eqB, o_neB, o_is2, o_isnot2, o_abs, o_ix, o_ixO, o_ixB, o_ixL, o_tupO, o_isBool, map_some', wp, tgN_, List.length_cons, List.length_nil, Nat.reduceAdd, Nat.reduceLeDiff, true_and, decide_true, decide_false, Bool.not_true, Bool.not_false, o_mul_u, o_div_u, o_mod_u, o_pow_u, o_eqS, o_neS, o_intB, o_lenS, o_lenO, o_lenB, o_iaddI, S_s1, kS1_, kS1b_, S_lm, kLm_bor, kLm_own, kLmb_, S_tab, o_ixT, o_ixS, S_put, kPut_, kPutK_, S_zip2, kZip_, kZipb_tup, o_sum, o_sumB, o_tupB, o_tupL, o_lenT, S_range1, kRng_3, S_tgtL, kTgtL_, List.nil_append, List.cons_append, Nat.reduceLT, SZ, forall_const, true_implies]
          exact q od s2 ho (h2.le (by omega))
        simp only [S_var, S_C, S_op1, k1_, S_op2, k2_, k2b_, S_nil, S_cons, kc_, kcb_, S_opN, kN_, S_tup, S_lst, kT_u, kL_u, stoL_nil, stoL_dat, stoL_own, consO_some, SatO_some, S_call, kCall_u, S_if, S_ifS, kI_true, kI_false, S_andV, S_orV, kAndV_true, kAndV_false, kOrV_true, kOrV_false, S_test, kTest_, S_tru, kTru_, S_and, S_or, S_not, kAnd_true, kAnd_false, kOr_true, kOr_false, kNot_, S_seq, kS_nx, kS_rt, kS_bk, kS_ct, S_pass, S_set, kSet_dat, kSet_own, S_par, kP_, kPb_, S_ret', kR_, S_retN, S_break, S_cont, S_for, kF_, S_forNil, kFb_nx, kFb_ct, kFb_bk, kFb_rt, S_items, kItems_tup, kItems_lst, kItems_own, S_lc, kLc_, S_lcNil, S_yes, kD_rt, kD_nx, Rv.ret, gt, st, kVar_dat, kVar_own, o_add, o_sub, o_eq, o_ne, o_lt, o_le, o_gt, o_ge, o_eqB, o_neB, o_is2, o_isnot2, o_abs, o_ix, o_ixO, o_ixB, o_ixL, o_tupO, o_isBool, map_some', wp, tgN_, List.length_cons, List.length_nil, Nat.reduceAdd, Nat.reduceLeDiff, true_and, decide_true, decide_false, Bool.not_true, Bool.not_false, o_mul_u, o_div_u, o_mod_u, o_pow_u, o_eqS, o_neS, o_intB, o_lenS, o_lenO, o_lenB, o_iaddI, S_s1, kS1_, kS1b_, S_lm, kLm_bor, kLm_own, kLmb_, S_tab, o_ixT, o_ixS, S_put, kPut_, kPutK_, S_zip2, kZip_, kZipb_tup, o_sum, o_sumB, o_tupB, o_tupL, o_lenT, S_range1, kRng_3, S_tgtL, kTgtL_, List.nil_append, List.cons_append, Nat.reduceLT, SZ, forall_const, true_implies]
        refine S_drawN (n := ds.length) (b := b + 3 * (m + 1)) (h2.le (by omega)) (by omega) (by omega) fun j s3 hj h3 => ?_
        simp only [S_var, S_C, S_op1, k1_, S_op2, k2_, k2b_, S_nil, S_cons, kc_, kcb_, S_opN, kN_, S_tup, S_lst, kT_u, kL_u, stoL_nil, stoL_dat, stoL_own, consO_some, SatO_some, S_call, kCall_u, S_if, S_ifS, kI_true, kI_false, S_andV, S_orV, kAndV_true, kAndV_false, kOrV_true, kOrV_false, S_test, kTest_, S_tru, kTru_, S_and, S_or, S_not, kAnd_true, kAnd_false, kOr_true, kOr_false, kNot_, S_seq, kS_nx, kS_rt, kS_bk, kS_ct, S_pass, S_set, kSet_dat, kSet_own, S_par, kP_, kPb_, S_ret', kR_, S_retN, S_break, S_cont, S_for, kF_, S_forNil, kFb_nx, kFb_ct, kFb_bk, kFb_rt, S_items, kItems_tup, kItems_lst, kItems_own, S_lc, kLc_, S_lcNil, S_yes, kD_rt, kD_nx, Rv.ret, gt, st, kVar_dat, kVar_own, o_add, o_sub, o_eq, o_ne, o_lt, o_le, o_gt, o_ge, o_eqB, o_neB, o_is2, o_isnot2, o_abs, o_ix, o_ixO, o_ixB, o_ixL, o_tupO, o_isBool, map_some', wp, tgN_, List.length_cons, List.length_nil, Nat.reduceAdd, Nat.reduceLeDiff, true_and, decide_true, decide_false, Bool.not_true, Bool.not_false, o_mul_u, o_div_u, o_mod_u, o_pow_u, o_eqS, o_neS, o_intB, o_lenS, o_lenO, o_lenB, o_iaddI, S_s1, kS1_, kS1b_, S_lm, kLm_bor, kLm_own, kLmb_, S_tab, o_ixT, o_ixS, S_put, kPut_, kPutK_, S_zip2, kZip_, kZipb_tup, o_sum, o_sumB, o_tupB, o_tupL, o_lenT, S_range1, kRng_3, S_tgtL, kTgtL_, List.nil_append, List.cons_append, Nat.reduceLT, SZ, forall_const, true_implies]
        refine kI_d (fun _ => ?_) (fun hw1 => ?_)
        · simp only [S_var, S_C, S_op1, k1_, S_op2, k2_, k2b_, S_nil, S_cons, kc_, kcb_, S_opN, kN_, S_tup, S_lst, kT_u, kL_u, stoL_nil, stoL_dat, stoL_own, consO_some, SatO_some, S_call, kCall_u, S_if, S_ifS, kI_true, kI_false, S_andV, S_orV, kAndV_true, kAndV_false, kOrV_true, kOrV_false, S_test, kTest_, S_tru, kTru_, S_and, S_or, S_not, kAnd_true, kAnd_false, kOr_true, kOr_false, kNot_, S_seq, kS_nx, kS_rt, kS_bk, kS_ct, S_pass, S_set, kSet_dat, kSet_own, S_par, kP_, kPb_, S_ret', kR_, S_retN, S_break, S_cont, S_for, kF_, S_forNil, kFb_nx, kFb_ct, kFb_bk, kFb_rt, S_items, kItems_tup, kItems_lst, kItems_own, S_lc, kLc_, S_lcNil, S_yes, kD_rt, kD_nx, Rv.ret, gt, st, kVar_dat, kVar_own, o_add, o_sub, o_eq, o_ne, o_lt, o_le, o_gt, o_ge, o_eqB, o_neB, o_is2, o_isnot2, o_abs, o_ix, o_ixO, o_ixB, o_ixL, o_tupO, o_isBool, map_some', wp, tgN_, List.length_cons, List.length_nil, Nat.reduceAdd, Nat.reduceLeDiff, true_and, decide_true, decide_false, Bool.not_true, Bool.not_false, o_mul_u, o_div_u, o_mod_u, o_pow_u, o_eqS, o_neS, o_intB, o_lenS, o_lenO, o_lenB, o_iaddI, S_s1, kS1_, kS1b_, S_lm, kLm_bor, kLm_own, kLmb_, S_tab, o_ixT, o_ixS, S_put, kPut_, kPutK_, S_zip2, kZip_, kZipb_tup, o_sum, o_sumB, o_tupB, o_tupL, o_lenT, S_range1, kRng_3, S_tgtL, kTgtL_, List.nil_append, List.cons_append, Nat.reduceLT, SZ, forall_const, true_implies, S_cutH, S_cutL, hiT, loT1, addT]
          refine ⟨by ((try simp only [List.length_append, List.length_take, List.length_drop, List.length_cons, List.length_nil, SZ]); omega), ?_⟩
          try simp only [S_var, S_C, S_op1, k1_, S_op2, k2_, k2b_, S_nil, S_cons, kc_, kcb_, S_opN, kN_, S_tup, S_lst, kT_u, kL_u, stoL_nil, stoL_dat, stoL_own, consO_some, SatO_some, S_call, kCall_u, S_if, S_ifS, kI_true, kI_false, S_andV, S_orV, kAndV_true, kAndV_false, kOrV_true, kOrV_false, S_test, kTest_, S_tru, kTru_, S_and, S_or, S_not, kAnd_true, kAnd_false, kOr_true, kOr_false, kNot_, S_seq, kS_nx, kS_rt, kS_bk, kS_ct, S_pass, S_set, kSet_dat, kSet_own, S_par, kP_, kPb_, S_ret', kR_, S_retN, S_break, S_cont, S_for, kF_, S_forNil, kFb_nx, kFb_ct, kFb_bk, kFb_rt, S_items, kItems_tup, kItems_lst, kItems_own, S_lc, kLc_, S_lcNil, S_yes, kD_rt, kD_nx, Rv.ret, gt, st, kVar_dat, kVar_own, o_add, o_sub, o_eq, o_ne, o_lt, o_le, o_gt, o_ge, o_eqB, o_neB, o_is2, o_isnot2, o_abs, o_ix, o_ixO, o_ixB, o_ixL, o_tupO, o_isBool, map_some', wp, tgN_, List.length_cons, List.length_nil, Nat.reduceAdd, Nat.reduceLeDiff, true_and, decide_true, decide_false, Bool.not_true, Bool.not_false, o_mul_u, o_div_u, o_mod_u, o_pow_u, o_eqS, o_neS, o_intB, o_lenS, o_lenO, o_lenB, o_iaddI, S_s1, kS1_, kS1b_, S_lm, kLm_bor, kLm_own, kLmb_, S_tab, o_ixT, o_ixS, S_put, kPut_, kPutK_, S_zip2, kZip_, kZipb_tup, o_sum, o_sumB, o_tupB, o_tupL, o_lenT, S_range1, kRng_3, S_tgtL, kTgtL_, List.nil_append, List.cons_append, Nat.reduceLT, SZ, forall_const, true_implies]
          refine q _ s3 ?_ (h3.le (by omega))
          have := sm_split (L := L + 1) (n := m) (es := []) (k := j) (j := j + 1) (ds := ds) (by omega) (fun d hd => (hm d hd).up (by omega) (Nat.le_refl _)) (fun d hd => nomatch hd) (by simp only [List.length_take, List.length_drop, List.length_nil]; omega)
          rw [List.append_nil] at this
          exact this.up (Nat.le_refl _) (by omega)
        simp only [S_var, S_C, S_op1, k1_, S_op2, k2_, k2b_, S_nil, S_cons, kc_, kcb_, S_opN, kN_, S_tup, S_lst, kT_u, kL_u, stoL_nil, stoL_dat, stoL_own, consO_some, SatO_some, S_call, kCall_u, S_if, S_ifS, kI_true, kI_false, S_andV, S_orV, kAndV_true, kAndV_false, kOrV_true, kOrV_false, S_test, kTest_, S_tru, kTru_, S_and, S_or, S_not, kAnd_true, kAnd_false, kOr_true, kOr_false, kNot_, S_seq, kS_nx, kS_rt, kS_bk, kS_ct, S_pass, S_set, kSet_dat, kSet_own, S_par, kP_, kPb_, S_ret', kR_, S_retN, S_break, S_cont, S_for, kF_, S_forNil, kFb_nx, kFb_ct, kFb_bk, kFb_rt, S_items, kItems_tup, kItems_lst, kItems_own, S_lc, kLc_, S_lcNil, S_yes, kD_rt, kD_nx, Rv.ret, gt, st, kVar_dat, kVar_own, o_add, o_sub, o_eq, o_ne, o_lt, o_le, o_gt, o_ge, o_eqB, o_neB, o_is2, o_isnot2, o_abs, o_ix, o_ixO, o_ixB, o_ixL, o_tupO, o_isBool, map_some', wp, tgN_, List.length_cons, List.length_nil, Nat.reduceAdd, Nat.reduceLeDiff, true_and, decide_true, decide_false, Bool.not_true, Bool.not_false, o_mul_u, o_div_u, o_mod_u, o_pow_u, o_eqS, o_neS, o_intB, o_lenS, o_lenO, o_lenB, o_iaddI, S_s1, kS1_, kS1b_, S_lm, kLm_bor, kLm_own, kLmb_, S_tab, o_ixT, o_ixS, S_put, kPut_, kPutK_, S_zip2, kZip_, kZipb_tup, o_sum, o_sumB, o_tupB, o_tupL, o_lenT, S_range1, kRng_3, S_tgtL, kTgtL_, List.nil_append, List.cons_append, Nat.reduceLT, SZ, forall_const, true_implies]
        refine kI_d (fun _ => ?_) (fun hw2 => ?_)
        · simp only [S_var, S_C, S_op1, k1_, S_op2, k2_, k2b_, S_nil, S_cons, kc_, kcb_, S_opN, kN_, S_tup, S_lst, kT_u, kL_u, stoL_nil, stoL_dat, stoL_own, consO_some, SatO_some, S_call, kCall_u, S_if, S_ifS, kI_true, kI_false, S_andV, S_orV, kAndV_true, kAndV_false, kOrV_true, kOrV_false, S_test, kTest_, S_tru, kTru_, S_and, S_or, S_not, kAnd_true, kAnd_false, kOr_true, kOr_false, kNot_, S_seq, kS_nx, kS_rt, kS_bk, kS_ct, S_pass, S_set, kSet_dat, kSet_own, S_par, kP_, kPb_, S_ret', kR_, S_retN, S_break, S_cont, S_for, kF_, S_forNil, kFb_nx, kFb_ct, kFb_bk, kFb_rt, S_items, kItems_tup, kItems_lst, kItems_own, S_lc, kLc_, S_lcNil, S_yes, kD_rt, kD_nx, Rv.ret, gt, st, kVar_dat, kVar_own, o_add, o_sub, o_eq, o_ne, o_lt, o_le, o_gt, o_ge, o_eqB, o_neB, o_is2, o_isnot2, o_abs, o_ix, o_ixO, o_ixB, o_ixL, o_tupO, o_isBool, map_some', wp, tgN_, List.length_cons, List.length_nil, Nat.reduceAdd, Nat.reduceLeDiff, true_and, decide_true, decide_false, Bool.not_true, Bool.not_false, o_mul_u, o_div_u, o_mod_u, o_pow_u, o_eqS, o_neS, o_intB, o_lenS, o_lenO, o_lenB, o_iaddI, S_s1, kS1_, kS1b_, S_lm, kLm_bor, kLm_own, kLmb_, S_tab, o_ixT, o_ixS, S_put, kPut_, kPutK_, S_zip2, kZip_, kZipb_tup, o_sum, o_sumB, o_tupB, o_tupL, o_lenT, S_range1, kRng_3, S_tgtL, kTgtL_, List.nil_append, List.cons_append, Nat.reduceLT, SZ, forall_const, true_implies, ixT hj, addT]
          refine ⟨by ((try simp only [List.length_append, List.length_take, List.length_drop, List.length_cons, List.length_nil, SZ]); omega), ?_⟩
          try simp only [S_var, S_C, S_op1, k1_, S_op2, k2_, k2b_, S_nil, S_cons, kc_, kcb_, S_opN, kN_, S_tup, S_lst, kT_u, kL_u, stoL_nil, stoL_dat, stoL_own, consO_some, SatO_some, S_call, kCall_u, S_if, S_ifS, kI_true, kI_false, S_andV, S_orV, kAndV_true, kAndV_false, kOrV_true, kOrV_false, S_test, kTest_, S_tru, kTru_, S_and, S_or, S_not, kAnd_true, kAnd_false, kOr_true, kOr_false, kNot_, S_seq, kS_nx, kS_rt, kS_bk, kS_ct, S_pass, S_set, kSet_dat, kSet_own, S_par, kP_, kPb_, S_ret', kR_, S_retN, S_break, S_cont, S_for, kF_, S_forNil, kFb_nx, kFb_ct, kFb_bk, kFb_rt, S_items, kItems_tup, kItems_lst, kItems_own, S_lc, kLc_, S_lcNil, S_yes, kD_rt, kD_nx, Rv.ret, gt, st, kVar_dat, kVar_own, o_add, o_sub, o_eq, o_ne, o_lt, o_le, o_gt, o_ge, o_eqB, o_neB, o_is2, o_isnot2, o_abs, o_ix, o_ixO, o_ixB, o_ixL, o_tupO, o_isBool, map_some', wp, tgN_, List.length_cons, List.length_nil, Nat.reduceAdd, Nat.reduceLeDiff, true_and, decide_true, decide_false, Bool.not_true, Bool.not_false, o_mul_u, o_div_u, o_mod_u, o_pow_u, o_eqS, o_neS, o_intB, o_lenS, o_lenO, o_lenB, o_iaddI, S_s1, kS1_, kS1b_, S_lm, kLm_bor, kLm_own, kLmb_, S_tab, o_ixT, o_ixS, S_put, kPut_, kPutK_, S_zip2, kZip_, kZipb_tup, o_sum, o_sumB, o_tupB, o_tupL, o_lenT, S_range1, kRng_3, S_tgtL, kTgtL_, List.nil_append, List.cons_append, Nat.reduceLT, SZ, forall_const, true_implies]
          refine q _ s3 ⟨by simp; omega, fun d hd => ?_⟩ (h3.le (by omega))
          rcases List.mem_append.mp hd with hd | hd
          · exact (hm d hd).up (by omega) (by omega)
          · rw [List.mem_singleton.mp hd]
            exact (hm _ (List.getElem_mem hj)).up (by omega) (by omega)
        simp only [S_var, S_C, S_op1, k1_, S_op2, k2_, k2b_, S_nil, S_cons, kc_, kcb_, S_opN, kN_, S_tup, S_lst, kT_u, kL_u, stoL_nil, stoL_dat, stoL_own, consO_some, SatO_some, S_call, kCall_u, S_if, S_ifS, kI_true, kI_false, S_andV, S_orV, kAndV_true, kAndV_false, kOrV_true, kOrV_false, S_test, kTest_, S_tru, kTru_, S_and, S_or, S_not, kAnd_true, kAnd_false, kOr_true, kOr_false, kNot_, S_seq, kS_nx, kS_rt, kS_bk, kS_ct, S_pass, S_set, kSet_dat, kSet_own, S_par, kP_, kPb_, S_ret', kR_, S_retN, S_break, S_cont, S_for, kF_, S_forNil, kFb_nx, kFb_ct, kFb_bk, kFb_rt, S_items, kItems_tup, kItems_lst, kItems_own, S_lc, kLc_, S_lcNil, S_yes, kD_rt, kD_nx, Rv.ret, gt, st, kVar_dat, kVar_own, o_add, o_sub, o_eq, o_ne, o_lt, o_le, o_gt, o_ge, o_eqB, o_neB, o_is2, o_isnot2, o_abs, o_ix, o_ixO, o_ixB, o_ixL, o_tupO, o_isBool, map_some', wp, tgN_, List.length_cons, List.length_nil, Nat.reduceAdd, Nat.reduceLeDiff, true_and, decide_true, decide_false, Bool.not_true, Bool.not_false, o_mul_u, o_div_u, o_mod_u, o_pow_u, o_eqS, o_neS, o_intB, o_lenS, o_lenO, o_lenB, o_iaddI, S_s1, kS1_, kS1b_, S_lm, kLm_bor, kLm_own, kLmb_, S_tab, o_ixT, o_ixS, S_put, kPut_, kPutK_, S_zip2, kZip_, kZipb_tup, o_sum, o_sumB, o_tupB, o_tupL, o_lenT, S_range1, kRng_3, S_tgtL, kTgtL_, List.nil_append, List.cons_append, Nat.reduceLT, SZ, forall_const, true_implies, S_cutH, hiT, ixT hj]
        refine S_odd hL hL2 k m b ds[j] s3 _ (hm _ (List.getElem_mem hj)) (by omega) (h3.le (by omega)) fun d' s4 hd' h4 => ?_
        try simp only [S_var, S_C, S_op1, k1_, S_op2, k2_, k2b_, S_nil, S_cons, kc_, kcb_, S_opN, kN_, S_tup, S_lst, kT_u, kL_u, stoL_nil, stoL_dat, stoL_own, consO_some, SatO_some, S_call, kCall_u, S_if, S_ifS, kI_true, kI_false, S_andV, S_orV, kAndV_true, kAndV_false, kOrV_true, kOrV_false, S_test, kTest_, S_tru, kTru_, S_and, S_or, S_not, kAnd_true, kAnd_false, kOr_true, kOr_false, kNot_, S_seq, kS_nx, kS_rt, kS_bk, kS_ct, S_pass, S_set, kSet_dat, kSet_own, S_par, kP_, kPb_, S_ret', kR_, S_retN, S_break, S_cont, S_for, kF_, S_forNil, kFb_nx, kFb_ct, kFb_bk, kFb_rt, S_items, kItems_tup, kItems_lst, kItems_own, S_lc, kLc_, S_lcNil, S_yes, kD_rt, kD_nx, Rv.ret, gt, st, kVar_dat, kVar_own, o_add, o_sub, o_eq, o_ne, o_lt, o_le, o_gt, o_ge, o_eqB, o_neB, o_is2, o_isnot2, o_abs, o_ix, o_ixO, o_ixB, o_ixL, o_tupO, o_isBool, map_some', wp, tgN_, List.length_cons, List.length_nil, Nat.reduceAdd, Nat.reduceLeDiff, true_and, decide_true, decide_false, Bool.not_true, Bool.not_false, o_mul_u, o_div_u, o_mod_u, o_pow_u, o_eqS, o_neS, o_intB, o_lenS, o_lenO, o_lenB, o_iaddI, S_s1, kS1_, kS1b_, S_lm, kLm_bor, kLm_own, kLmb_, S_tab, o_ixT, o_ixS, S_put, kPut_, kPutK_, S_zip2, kZip_, kZipb_tup, o_sum, o_sumB, o_tupB, o_tupL, o_lenT, S_range1, kRng_3, S_tgtL, kTgtL_, List.nil_append, List.cons_append, Nat.reduceLT, SZ, forall_const, true_implies, S_cutL, loT1, addT]
        refine ⟨by ((try simp only [List.length_append, List.length_take, List.length_drop, List.length_cons, List.length_nil, SZ]); omega), ?_⟩
        try simp only [S_var, S_C, S_op1, k1_, S_op2, k2_, k2b_, S_nil, S_cons, kc_, kcb_, S_opN, kN_, S_tup, S_lst, kT_u, kL_u, stoL_nil, stoL_dat, stoL_own, consO_some, SatO_some, S_call, kCall_u, S_if, S_ifS, kI_true, kI_false, S_andV, S_orV, kAndV_true, kAndV_false, kOrV_true, kOrV_false, S_test, kTest_, S_tru, kTru_, S_and, S_or, S_not, kAnd_true, kAnd_false, kOr_true, kOr_false, kNot_, S_seq, kS_nx, kS_rt, kS_bk, kS_ct, S_pass, S_set, kSet_dat, kSet_own, S_par, kP_, kPb_, S_ret', kR_, S_retN, S_break, S_cont, S_for, kF_, S_forNil, kFb_nx, kFb_ct, kFb_bk, kFb_rt, S_items, kItems_tup, kItems_lst, kItems_own, S_lc, kLc_, S_lcNil, S_yes, kD_rt, kD_nx, Rv.ret, gt, st, kVar_dat, kVar_own, o_add, o_sub, o_eq, o_ne, o_lt, o_le, o_gt, o_ge, o_eqB, o_neB, o_is2, o_isnot2, o_abs, o_ix, o_ixO, o_ixB, o_ixL, o_tupO, o_isBool, map_some', wp, tgN_, List.length_cons, List.length_nil, Nat.reduceAdd, Nat.reduceLeDiff, true_and, decide_true, decide_false, Bool.not_true, Bool.not_false, o_mul_u, o_div_u, o_mod_u, o_pow_u, o_eqS, o_neS, o_intB, o_lenS, o_lenO, o_lenB, o_iaddI, S_s1, kS1_, kS1b_, S_lm, kLm_bor, kLm_own, kLmb_, S_tab, o_ixT, o_ixS, S_put, kPut_, kPutK_, S_zip2, kZip_, kZipb_tup, o_sum, o_sumB, o_tupB, o_tupL, o_lenT, S_range1, kRng_3, S_tgtL, kTgtL_, List.nil_append, List.cons_append, Nat.reduceLT, SZ, forall_const, true_implies, S_cutL, loT1, addT]
        refine ⟨by ((try simp only [List.length_append, List.length_take, List.length_drop, List.length_cons, List.length_nil, SZ]); omega), ?_⟩
        try simp only [S_var, S_C, S_op1, k1_, S_op2, k2_, k2b_, S_nil, S_cons, kc_, kcb_, S_opN, kN_, S_tup, S_lst, kT_u, kL_u, stoL_nil, stoL_dat, stoL_own, consO_some, SatO_some, S_call, kCall_u, S_if, S_ifS, kI_true, kI_false, S_andV, S_orV, kAndV_true, kAndV_false, kOrV_true, kOrV_false, S_test, kTest_, S_tru, kTru_, S_and, S_or, S_not, kAnd_true, kAnd_false, kOr_true, kOr_false, kNot_, S_seq, kS_nx, kS_rt, kS_bk, kS_ct, S_pass, S_set, kSet_dat, kSet_own, S_par, kP_, kPb_, S_ret', kR_, S_retN, S_break, S_cont, S_for, kF_, S_forNil, kFb_nx, kFb_ct, kFb_bk, kFb_rt, S_items, kItems_tup, kItems_lst, kItems_own, S_lc, kLc_, S_lcNil, S_yes, kD_rt, kD_nx, Rv.ret, gt, st, kVar_dat, kVar_own, o_add, o_sub, o_eq, o_ne, o_lt, o_le, o_gt, o_ge, o_eqB, o_neB, o_is2, o_isnot2, o_abs, o_ix, o_ixO, o_ixB, o_ixL, o_tupO, o_isBool, map_some', wp, tgN_, List.length_cons, List.length_nil, Nat.reduceAdd, Nat.reduceLeDiff, true_and, decide_true, decide_false, Bool.not_true, Bool.not_false, o_mul_u, o_div_u, o_mod_u, o_pow_u, o_eqS, o_neS, o_intB, o_lenS, o_lenO, o_lenB, o_iaddI, S_s1, kS1_, kS1b_, S_lm, kLm_bor, kLm_own, kLmb_, S_tab, o_ixT, o_ixS, S_put, kPut_, kPutK_, S_zip2, kZip_, kZipb_tup, o_sum, o_sumB, o_tupB, o_tupL, o_lenT, S_range1, kRng_3, S_tgtL, kTgtL_, List.nil_append, List.cons_append, Nat.reduceLT, SZ, forall_const, true_implies]
        refine q _ s4 ?_ h4
        exact sm_split (L := L + 1) (n := m + 1) (es := [d']) (k := j) (j := j + 1) (ds := ds) (by omega) (fun d hd => (hm d hd).up (by omega) (by omega)) (fun d hd => by rw [List.mem_singleton.mp hd]; exact hd') (by simp only [List.length_take, List.length_drop, List.length_cons, List.length_nil]; omega)
    · have tf : isTy .tuple d = false := by
        cases d <;> first
          | rfl
          | exact absurd ⟨_, rfl⟩ ht
      simp only [S_var, S_C, S_op1, k1_, S_op2, k2_, k2b_, S_nil, S_cons, kc_, kcb_, S_opN, kN_, S_tup, S_lst, kT_u, kL_u, stoL_nil, stoL_dat, stoL_own, consO_some, SatO_some, S_call, kCall_u, S_if, S_ifS, kI_true, kI_false, S_andV, S_orV, kAndV_true, kAndV_false, kOrV_true, kOrV_false, S_test, kTest_, S_tru, kTru_, S_and, S_or, S_not, kAnd_true, kAnd_false, kOr_true, kOr_false, kNot_, S_seq, kS_nx, kS_rt, kS_bk, kS_ct, S_pass, S_set, kSet_dat, kSet_own, S_par, kP_, kPb_, S_ret', kR_, S_retN, S_break, S_cont, S_for, kF_, S_forNil, kFb_nx, kFb_ct, kFb_bk, kFb_rt, S_items, kItems_tup, kItems_lst, kItems_own, S_lc, kLc_, S_lcNil, S_yes, kD_rt, kD_nx, Rv.ret, gt, st, kVar_dat, kVar_own, o_add, o_sub, o_eq, o_ne, o_lt, o_le, o_gt, o_ge, o_eqB, o_neB, o_is2, o_isnot2, o_abs, o_ix, o_ixO, o_ixB, o_ixL, o_tupO, o_isBool, map_some', wp, tgN_, List.length_cons, List.length_nil, Nat.reduceAdd, Nat.reduceLeDiff, true_and, decide_true, decide_false, Bool.not_true, Bool.not_false, o_mul_u, o_div_u, o_mod_u, o_pow_u, o_eqS, o_neS, o_intB, o_lenS, o_lenO, o_lenB, o_iaddI, S_s1, kS1_, kS1b_, S_lm, kLm_bor, kLm_own, kLmb_, S_tab, o_ixT, o_ixS, S_put, kPut_, kPutK_, S_zip2, kZip_, kZipb_tup, o_sum, o_sumB, o_tupB, o_tupL, o_lenT, S_range1, kRng_3, S_tgtL, kTgtL_, List.nil_append, List.cons_append, Nat.reduceLT, SZ, forall_const, true_implies, tf]
      exact q od s2 ho (h2.le (by omega))
end PB
set_option Elab.async false
set_option linter.all false
set_option maxRecDepth 100000
set_option maxHeartbeats 0
namespace G_k41
open PB
def m__law_mix : MS LS := (mSeq (mIncC 0)
    (mSeq (mSet 1 (mCnt 0))
    (mSeq (mSet 2 (mC (.int 5)))
    (mSeq (mIfS (mHasC 0) (mSet 2 (mAtC 0 (mOp2 oMod (mVar 1) (mLenC 0)))) mPass)
    (mSeq (mSet 3 (mOp2 oMod (mOp2 oPow (mOp2 oAdd (mOp2 oAdd (mOp2 oAdd (mVar 2) (mOp2 oMul (mOp2 oMul (mC (.int 1009)) (mVar 1)) (mVar 1))) (mOp2 oMul (mC (.int 48611)) (mVar 1))) (mC (.int 17))) (mC (.int 5))) (mC (.int 2147483647))))
    (mRet (mOp2 oMod (mOp2 oAdd (mOp2 oMul (mVar 3) (mC (.int 39373))) (mOp2 oMul (mC (.int 7919)) (mVar 1))) (mC (.int 1000000007)))))))))
def F__law_mix : MF LS := mDef 4 1 (m__law_mix)
def m__law_draw : MS LS := (mSeq (mIfS (mAnd (mTest (mOp2 oEq (mTold 0) (mC (.int 0)))) (mHasG 0)) (mPopG 0) mPass)
    (mSeq (mIfS (mTest (mOp2 oGt (mTold 0) (mC (.int 0)))) (mSeq (mSet 2 (mOp2 oMod (mTold 0) (mVar 1)))
    (mSeq (mSetTold 0 (mOp2 oDiv (mTold 0) (mVar 1)))
    (mRet (mVar 2)))) mPass)
    (mSeq (mSet 2 (mC (.int 0)))
    (mSeq (mSet 3 (mC (.int 1)))
    (mSeq (mWhile (mTest (mOp2 oLt (mVar 3) (mVar 1))) (mSeq (mSet 2 (mOp2 oAdd (mOp2 oMul (mVar 2) (mC (.int 1000000007))) (mCall F__law_mix (mCons (mVar 0) mNil))))
    (mSet 3 (mOp2 oMul (mVar 3) (mC (.int 1000000007))))) 100)
    (mRet (mOp2 oMod (mVar 2) (mVar 1))))))))
def F__law_draw : MF LS := mDef 4 2 (m__law_draw)
def m__law_worth : MS LS := (mRet (mOpN oSum (mCons (mLc (mZip2 (mVar 0) (mVar 1)) (tgT [2, 3]) mYes (mOp2 oMul (mVar 2) (mVar 3)) [2, 3]) mNil)))
def F__law_worth : MF LS := mDef 4 2 (m__law_worth)
def m__law_shared : MS LS := (mSeq (mWhile (mTest (mOp2 oGt (mVar 1) (mC (.int 0)))) (mPar 0 1 (mVar 1) (mOp2 oMod (mVar 0) (mVar 1))) 100000)
    (mRet (mVar 0)))
def F__law_shared : MF LS := mDef 2 2 (m__law_shared)
def m__law_lowest : MS LS := (mSeq (mSet 1 (mC (.int 0)))
    (mSeq (mFor (mItems (mVar 0)) (tgN 2) (mSeq (mFrz 1) (mSet 1 (mCall F__law_shared (mCons (mVar 2) (mCons (mVar 1) mNil))))))
    (mRet (mOpN oTuple (mCons (mLc (mItems (mVar 0)) (tgN 2) mYes (mOp2 oDiv (mVar 2) (mVar 1)) [2]) mNil)))))
def F__law_lowest : MF LS := mDef 3 1 (m__law_lowest)
def m__law_cut : MS LS := (mSeq (mIfS (mNot (mTest (mOpN oAny (mCons (mLc (mItems (mVar 0)) (tgN 9) mYes (mOp2 oGt (mCall F__law_worth (mCons (mVar 1) (mCons (mVar 9) mNil))) (mC (.int 0))) [9]) mNil)))) (mRet (mTup mNil)) mPass)
    (mSeq (mSet 2 (mLst mNil))
    (mSeq (mFor (mRange1 (mOpN oLen (mCons (mVar 0) mNil))) (tgN 3) (mSeq (mPar 4 5 (mOp2 oIx (mVar 0) (mVar 3)) (mOp2 oIx (mVar 0) (mOp2 oMod (mOp2 oAdd (mVar 3) (mC (.int 1))) (mOpN oLen (mCons (mVar 0) mNil)))))
    (mSeq (mTgt (tgT [6, 7]) (mTup (mCons (mCall F__law_worth (mCons (mVar 1) (mCons (mVar 4) mNil))) (mCons (mCall F__law_worth (mCons (mVar 1) (mCons (mVar 5) mNil))) mNil))))
    (mSeq (mIfS (mTest (mOp2 oGe (mVar 6) (mC (.int 0)))) (mApp 2 (mVar 4)) mPass)
    (mIfS (mOr (mTest (mChain oGt oGt (mVar 6) (mC (.int 0)) (mVar 7))) (mTest (mChain oLt oLt (mVar 6) (mC (.int 0)) (mVar 7)))) (mApp 2 (mCall F__law_lowest (mCons (mLc (mZip2 (mVar 4) (mVar 5)) (tgT [10, 11]) mYes (mOp2 oAdd (mOp2 oMul (mOpN oAbs (mCons (mVar 7) mNil)) (mVar 10)) (mOp2 oMul (mOpN oAbs (mCons (mVar 6) mNil)) (mVar 11))) [10, 11]) mNil))) mPass)))))
    (mSeq (mSet 8 (mLm oIndex (mVar 2) (mOpN oMinT (mCons (mVar 2) mNil))))
    (mRet (mOpN oTuple (mCons (mOp2 oAdd (mCut (mVar 2) (some (mVar 8)) none) (mCut (mVar 2) none (some (mVar 8)))) mNil)))))))
def F__law_cut : MF LS := mDef 12 2 (m__law_cut)
def m__law_side : MS LS := (mSeq (mSet 2 (mLc (mRange1 (mC (.int 3))) (tgN 3) mYes (mOp2 oSub (mCall F__law_draw (mCons (mVar 0) (mCons (mOp2 oAdd (mOp2 oMul (mC (.int 2)) (mVar 1)) (mC (.int 1))) mNil))) (mVar 1)) [3]))
    (mSeq (mIfS (mTest (mOp2 oEq (mCall F__law_draw (mCons (mVar 0) (mCons (mC (.int 5)) mNil))) (mC (.int 0)))) (mPut 2 (mCall F__law_draw (mCons (mVar 0) (mCons (mC (.int 3)) mNil))) (mC (.int 0))) mPass)
    (mRet (mOpN oTuple (mCons (mVar 2) mNil)))))
def F__law_side : MF LS := mDef 4 2 (m__law_side)
def m__law_shape : MS LS := (mSeq (mSet 3 (mTup (mCons (mTup (mCons (mC (.int 0)) (mCons (mC (.int 0)) (mCons (mC (.int 1)) mNil)))) (mCons (mTup (mCons (mC (.int 1)) (mCons (mC (.int 0)) (mCons (mC (.int 0)) mNil)))) (mCons (mTup (mCons (mC (.int 0)) (mCons (mC (.int 1)) (mCons (mC (.int 0)) mNil)))) mNil)))))
    (mSeq (mFor (mRange1 (mCall F__law_draw (mCons (mVar 0) (mCons (mOp2 oAdd (mVar 1) (mC (.int 1))) mNil)))) (tgN 4) (mSeq (mSet 5 (mCall F__law_cut (mCons (mVar 3) (mCons (mCall F__law_side (mCons (mVar 0) (mCons (mVar 2) mNil))) mNil))))
    (mIfS (mTest (mOp2 oNe (mVar 5) (mTup mNil))) (mSet 3 (mVar 5)) mPass)))
    (mRet (mVar 3))))
def F__law_shape : MF LS := mDef 6 3 (m__law_shape)
def m__law_ring : MS LS := (mSeq (mSet 1 (mLst mNil))
    (mSeq (mSet 2 (mCall F__law_draw (mCons (mVar 0) (mCons (mC (.int 3)) mNil))))
    (mSeq (mFor (mRange1 (mOp2 oAdd (mC (.int 3)) (mCall F__law_draw (mCons (mVar 0) (mCons (mC (.int 37)) mNil))))) (tgN 3) (mSeq (mApp 1 (mTup (mCons (mC (.int 1)) (mCons (mVar 2) (mCons (mOp2 oMul (mVar 2) (mVar 2)) mNil)))))
    (mAug 2 oIAdd (mOp2 oAdd (mC (.int 1)) (mCall F__law_draw (mCons (mVar 0) (mCons (mC (.int 3)) mNil)))))))
    (mRet (mOpN oTuple (mCons (mVar 1) mNil))))))
def F__law_ring : MF LS := mDef 4 1 (m__law_ring)
def m__law_odd (F : MF LS) : MS LS := (mSeq (mSet 2 (mOp2 oIx (mTup (mCons (mC .non) (mCons (mC (.bl false)) (mCons (mC (.int 1)) (mCons (mC (.str [97])) (mCons (mTup mNil) (mCons (mTup (mCons (mC (.int 0)) mNil)) (mCons (mTup (mCons (mVar 1) mNil)) mNil)))))))) (mCall F__law_draw (mCons (mVar 0) (mCons (mC (.int 7)) mNil)))))
    (mSeq (mSet 3 (mCall F__law_draw (mCons (mVar 0) (mCons (mC (.int 6)) mNil))))
    (mSeq (mIfS (mOr (mNot (mTest (mOp1 (oIs .tuple) (mVar 1)))) (mOr (mTest (mOp2 oEq (mOpN oLen (mCons (mVar 1) mNil)) (mC (.int 0)))) (mTest (mOp2 oEq (mVar 3) (mC (.int 0)))))) (mRet (mVar 2)) mPass)
    (mSeq (mSet 4 (mCall F__law_draw (mCons (mVar 0) (mCons (mOpN oLen (mCons (mVar 1) mNil)) mNil))))
    (mSeq (mIfS (mTest (mOp2 oEq (mVar 3) (mC (.int 1)))) (mRet (mOp2 oAdd (mCut (mVar 1) none (some (mVar 4))) (mCut (mVar 1) (some (mOp2 oAdd (mVar 4) (mC (.int 1)))) none))) mPass)
    (mSeq (mIfS (mTest (mOp2 oEq (mVar 3) (mC (.int 2)))) (mRet (mOp2 oAdd (mVar 1) (mTup (mCons (mOp2 oIx (mVar 1) (mVar 4)) mNil)))) mPass)
    (mRet (mOp2 oAdd (mOp2 oAdd (mCut (mVar 1) none (some (mVar 4))) (mTup (mCons (mCall F (mCons (mVar 0) (mCons (mOp2 oIx (mVar 1) (mVar 4)) mNil))) mNil))) (mCut (mVar 1) (some (mOp2 oAdd (mVar 4) (mC (.int 1)))) none)))))))))
def F__law_odd : Nat → MF LS
  | 0 => fun _ _ => .no
  | n + 1 => mDef 5 2 (m__law_odd (F__law_odd n))
def m__law_number_amiss : MS LS := (mSeq (mSet 2 (mCall F__law_draw (mCons (mVar 0) (mCons (mC (.int 3)) mNil))))
    (mSeq (mSet 3 (mOp2 oIx (mVar 1) (mVar 2)))
    (mSeq (mSet 4 (mOp2 oIx (mLst (mCons (mOp2 oAdd (mVar 3) (mC (.int 1))) (mCons (mOp2 oSub (mVar 3) (mC (.int 1))) (mCons (mOp2 oSub (mC (.int 0)) (mC (.int 2))) (mCons (mOp2 oSub (mC (.int 0)) (mC (.int 2))) (mCons (mOp2 oEq (mVar 3) (mC (.int 1))) (mCons (mOp2 oEq (mVar 3) (mC (.int 1))) (mCons (mC .non) (mCons (mC (.str [49])) mNil))))))))) (mCall F__law_draw (mCons (mVar 0) (mCons (mC (.int 8)) mNil)))))
    (mRet (mOp2 oAdd (mOp2 oAdd (mCut (mVar 1) none (some (mVar 2))) (mTup (mCons (mVar 4) mNil))) (mCut (mVar 1) (some (mOp2 oAdd (mVar 2) (mC (.int 1)))) none))))))
def F__law_number_amiss : MF LS := mDef 5 2 (m__law_number_amiss)
def m__law_corner_amiss : MS LS := (mSeq (mSet 3 (mCall F__law_draw (mCons (mVar 0) (mCons (mOpN oLen (mCons (mVar 1) mNil)) mNil))))
    (mSeq (mSet 4 (mOp2 oIx (mVar 1) (mVar 3)))
    (mSeq (mIfS (mTest (mOp2 oEq (mVar 2) (mC (.int 5)))) (mSeq (mSet 5 (mOp2 oAdd (mC (.int 2)) (mCall F__law_draw (mCons (mVar 0) (mCons (mC (.int 8)) mNil)))))
    (mRet (mOp2 oAdd (mOp2 oAdd (mCut (mVar 1) none (some (mVar 3))) (mTup (mCons (mOpN oTuple (mCons (mLc (mItems (mVar 4)) (tgN 9) mYes (mOp2 oMul (mVar 5) (mVar 9)) [9]) mNil)) mNil))) (mCut (mVar 1) (some (mOp2 oAdd (mVar 3) (mC (.int 1)))) none)))) mPass)
    (mSeq (mIfS (mTest (mOp2 oEq (mVar 2) (mC (.int 6)))) (mRet (mOp2 oAdd (mCut (mVar 1) none (some (mVar 3))) (mCut (mVar 1) (some (mOp2 oAdd (mVar 3) (mC (.int 1)))) none))) mPass)
    (mSeq (mIfS (mTest (mOp2 oEq (mVar 2) (mC (.int 7)))) (mSeq (mSet 6 (mOpN oList (mCons (mVar 1) mNil)))
    (mSeq (mIns 6 (mCons (mCall F__law_draw (mCons (mVar 0) (mCons (mOp2 oAdd (mOpN oLen (mCons (mVar 1) mNil)) (mC (.int 1))) mNil))) (mCons (mVar 4) mNil)))
    (mRet (mOpN oTuple (mCons (mVar 6) mNil))))) mPass)
    (mSeq (mIfS (mTest (mOp2 oEq (mVar 2) (mC (.int 8)))) (mSeq (mSet 5 (mOp2 oAdd (mC (.int 1)) (mCall F__law_draw (mCons (mVar 0) (mCons (mC (.int 3)) mNil)))))
    (mSeq (mSet 7 (mCall F__law_lowest (mCons (mLc (mZip2 (mOp2 oIx (mVar 1) (mOp2 oSub (mVar 3) (mC (.int 1)))) (mVar 4)) (tgT [10, 11]) mYes (mOp2 oAdd (mOp2 oMul (mVar 5) (mVar 10)) (mVar 11)) [10, 11]) mNil)))
    (mSeq (mIfS (mTest (mOp2 oEq (mVar 3) (mC (.int 0)))) (mRet (mOp2 oAdd (mVar 1) (mTup (mCons (mVar 7) mNil)))) mPass)
    (mRet (mOp2 oAdd (mOp2 oAdd (mCut (mVar 1) none (some (mVar 3))) (mTup (mCons (mVar 7) mNil))) (mCut (mVar 1) (some (mVar 3)) none)))))) mPass)
    (mSeq (mIfS (mTest (mOp2 oEq (mVar 2) (mC (.int 9)))) (mRet (mOp2 oAdd (mOp2 oAdd (mCut (mVar 1) none (some (mVar 3))) (mTup (mCons (mCall F__law_number_amiss (mCons (mVar 0) (mCons (mVar 4) mNil))) mNil))) (mCut (mVar 1) (some (mOp2 oAdd (mVar 3) (mC (.int 1)))) none))) mPass)
    (mSeq (mSet 8 (mOp2 oIx (mLst (mCons (mC .non) (mCons (mC (.int 7)) (mCons (mC (.str [99, 111, 114, 110, 101, 114])) (mCons (mC (.bl true)) (mCons (mTup (mCons (mC (.int 0)) (mCons (mC (.int 0)) (mCons (mC (.int 0)) mNil)))) (mCons (mCut (mVar 4) none (some (mC (.int 2)))) (mCons (mOp2 oAdd (mVar 4) (mTup (mCons (mC (.int 0)) mNil))) (mCons (mTup (mCons (mVar 4) mNil)) mNil))))))))) (mCall F__law_draw (mCons (mVar 0) (mCons (mC (.int 8)) mNil)))))
    (mRet (mOp2 oAdd (mOp2 oAdd (mCut (mVar 1) none (some (mVar 3))) (mTup (mCons (mVar 8) mNil))) (mCut (mVar 1) (some (mOp2 oAdd (mVar 3) (mC (.int 1)))) none)))))))))))
def F__law_corner_amiss : MF LS := mDef 12 3 (m__law_corner_amiss)
def m__law_amiss : MS LS := (mSeq (mIfS (mTest (mOp2 oEq (mVar 2) (mC (.int 1)))) (mSeq (mSet 3 (mCall F__law_draw (mCons (mVar 0) (mCons (mOpN oLen (mCons (mVar 1) mNil)) mNil))))
    (mSeq (mSet 4 (mCall F__law_draw (mCons (mVar 0) (mCons (mOpN oLen (mCons (mVar 1) mNil)) mNil))))
    (mSeq (mSet 5 (mOpN oList (mCons (mVar 1) mNil)))
    (mSeq (mAsgN [tkPut 5 (mVar 3), tkPut 5 (mVar 4)] (mTup (mCons (mOp2 oIx (mVar 1) (mVar 4)) (mCons (mOp2 oIx (mVar 1) (mVar 3)) mNil))))
    (mRet (mOpN oTuple (mCons (mVar 5) mNil))))))) mPass)
    (mSeq (mIfS (mTest (mOp2 oEq (mVar 2) (mC (.int 2)))) (mSeq (mSet 3 (mCall F__law_draw (mCons (mVar 0) (mCons (mOpN oLen (mCons (mVar 1) mNil)) mNil))))
    (mRet (mOp2 oAdd (mCut (mVar 1) (some (mVar 3)) none) (mCut (mVar 1) none (some (mVar 3)))))) mPass)
    (mSeq (mIfS (mTest (mOp2 oEq (mVar 2) (mC (.int 3)))) (mRet (mOp2 oAdd (mCut (mVar 1) none (some (mC (.int 1)))) (mOp1 oRev1 (mVar 1)))) mPass)
    (mSeq (mIfS (mTest (mOp2 oEq (mVar 2) (mC (.int 4)))) (mRet (mOp2 oAdd (mCut (mVar 1) none (some (mC (.int 20)))) (mCut (mVar 1) none (some (mC (.int 20)))))) mPass)
    (mSeq (mIfS (mTest (mOp2 oLt (mVar 2) (mC (.int 11)))) (mRet (mCall F__law_corner_amiss (mCons (mVar 0) (mCons (mVar 1) (mCons (mVar 2) mNil))))) mPass)
    (mSeq (mSet 6 (mTup (mCons (mTup (mCons (mC (.int 1)) (mCons (mC (.int 20)) (mCons (mC (.int 20)) mNil)))) (mCons (mTup (mCons (mC (.int 2)) (mCons (mC (.int 61)) (mCons (mC (.int 40)) mNil)))) (mCons (mTup (mCons (mC (.int 2)) (mCons (mC (.int 40)) (mCons (mC (.int 61)) mNil)))) (mCons (mTup (mCons (mC (.int 2)) (mCons (mC (.int 19)) (mCons (mC (.int 40)) mNil)))) (mCons (mTup (mCons (mC (.int 2)) (mCons (mC (.int 40)) (mCons (mC (.int 19)) mNil)))) (mCons (mTup (mCons (mC (.int 2)) (mCons (mC (.int 63)) (mCons (mC (.int 38)) mNil)))) (mCons (mTup (mCons (mC (.int 2)) (mCons (mC (.int 65)) (mCons (mC (.int 56)) mNil)))) mNil)))))))))
    (mRet (mOp2 oIx (mLst (mCons (mVar 6) (mCons (mVar 6) (mCons (mC (.int 7)) (mCons (mCut (mVar 1) none (some (mC (.int 2)))) (mCons (mTup mNil) (mCons (mC .non) (mCons (mC (.str [115, 104, 97, 112, 101])) (mCons (mTup (mCons (mVar 1) mNil)) mNil))))))))) (mCall F__law_draw (mCons (mVar 0) (mCons (mC (.int 8)) mNil)))))))))))
def F__law_amiss : MF LS := mDef 7 3 (m__law_amiss)
def m_is_whole : MS LS := (mRet (mAndV (mOp1 (oIs .int) (mVar 0)) (mNotV (mOp1 (oIs .bool) (mVar 0)))))
def F_is_whole : MF LS := mDef 1 1 (m_is_whole)
def m_shared : MS LS := (mSeq (mSet 0 (mOpN oAbs (mCons (mVar 0) mNil)))
    (mSeq (mSet 1 (mOpN oAbs (mCons (mVar 1) mNil)))
    (mSeq (mWhile (mTest (mOp2 oGt (mVar 1) (mC (.int 0)))) (mPar 0 1 (mVar 1) (mOp2 oMod (mVar 0) (mVar 1))) 100000)
    (mRet (mVar 0)))))
def F_shared : MF LS := mDef 2 2 (m_shared)
def m_lowest : MS LS := (mSeq (mSet 1 (mC (.int 0)))
    (mSeq (mFor (mItems (mVar 0)) (tgN 2) (mSeq (mFrz 1) (mSet 1 (mCall F_shared (mCons (mVar 1) (mCons (mVar 2) mNil))))))
    (mRet (mOpN oTuple (mCons (mLc (mItems (mVar 0)) (tgN 2) mYes (mOp2 oDiv (mVar 2) (mVar 1)) [2]) mNil)))))
def F_lowest : MF LS := mDef 3 1 (m_lowest)
def m_is_corner : MS LS := (mSeq (mIfS (mOr (mNot (mTest (mOp1 (oIs .tuple) (mVar 0)))) (mTest (mOp2 oNe (mOpN oLen (mCons (mVar 0) mNil)) (mC (.int 3))))) (mRet (mC (.bl false))) mPass)
    (mSeq (mIfS (mOr (mNot (mTest (mOpN oAll (mCons (mLc (mItems (mVar 0)) (tgN 1) mYes (mAndV (mCall F_is_whole (mCons (mVar 1) mNil)) (mOp2 oGe (mVar 1) (mC (.int 0)))) [1]) mNil)))) (mTest (mOp2 oEq (mOpN oSumA (mCons (mVar 0) mNil)) (mC (.int 0))))) (mRet (mC (.bl false))) mPass)
    (mRet (mOp2 oEq (mCall F_lowest (mCons (mVar 0) mNil)) (mVar 0)))))
def F_is_corner : MF LS := mDef 2 1 (m_is_corner)
def m_turn_of : MS LS := (mSeq (mSet 3 (mOp2 oSub (mOp2 oMul (mOp2 oIx (mVar 1) (mC (.int 1))) (mOp2 oIx (mVar 2) (mC (.int 2)))) (mOp2 oMul (mOp2 oIx (mVar 1) (mC (.int 2))) (mOp2 oIx (mVar 2) (mC (.int 1))))))
    (mSeq (mSet 4 (mOp2 oSub (mOp2 oMul (mOp2 oIx (mVar 1) (mC (.int 2))) (mOp2 oIx (mVar 2) (mC (.int 0)))) (mOp2 oMul (mOp2 oIx (mVar 1) (mC (.int 0))) (mOp2 oIx (mVar 2) (mC (.int 2))))))
    (mSeq (mSet 5 (mOp2 oSub (mOp2 oMul (mOp2 oIx (mVar 1) (mC (.int 0))) (mOp2 oIx (mVar 2) (mC (.int 1)))) (mOp2 oMul (mOp2 oIx (mVar 1) (mC (.int 1))) (mOp2 oIx (mVar 2) (mC (.int 0))))))
    (mRet (mOp2 oAdd (mOp2 oAdd (mOp2 oMul (mOp2 oIx (mVar 0) (mC (.int 0))) (mVar 3)) (mOp2 oMul (mOp2 oIx (mVar 0) (mC (.int 1))) (mVar 4))) (mOp2 oMul (mOp2 oIx (mVar 0) (mC (.int 2))) (mVar 5)))))))
def F_turn_of : MF LS := mDef 6 3 (m_turn_of)
def m_goes_round : MS LS := (mSeq (mSet 1 (mOpN oLen (mCons (mVar 0) mNil)))
    (mSeq (mFor (mRange1 (mVar 1)) (tgN 2) (mFor (mRangeA (mCons (mOp2 oAdd (mVar 2) (mC (.int 1))) (mCons (mOp2 oSub (mOp2 oAdd (mVar 2) (mVar 1)) (mC (.int 1))) mNil))) (tgN 3) (mIfS (mTest (mOp2 oLe (mCall F_turn_of (mCons (mOp2 oIx (mVar 0) (mOp2 oSub (mVar 2) (mC (.int 1)))) (mCons (mOp2 oIx (mVar 0) (mVar 2)) (mCons (mOp2 oIx (mVar 0) (mOp2 oMod (mVar 3) (mVar 1))) mNil)))) (mC (.int 0)))) (mRet (mC (.bl false))) mPass)))
    (mRet (mC (.bl true)))))
def F_goes_round : MF LS := mDef 4 1 (m_goes_round)
def m_is_shape : MS LS := (mSeq (mIfS (mOr (mNot (mTest (mOp1 (oIs .tuple) (mVar 0)))) (mOr (mTest (mOp2 oLt (mOpN oLen (mCons (mVar 0) mNil)) (mC (.int 3)))) (mNot (mTest (mOpN oAll (mCons (mLc (mItems (mVar 0)) (tgN 1) mYes (mCall F_is_corner (mCons (mVar 1) mNil)) [1]) mNil)))))) (mRet (mC (.bl false))) mPass)
    (mRet (mAndV (mCall F_goes_round (mCons (mVar 0) mNil)) (mOpN oAll (mCons (mLc (mItems (mCut (mVar 0) (some (mC (.int 1))) none)) (tgN 2) mYes (mOp2 oLtD (mOp2 oIx (mVar 0) (mC (.int 0))) (mVar 2)) [2]) mNil)))))
def F_is_shape : MF LS := mDef 3 1 (m_is_shape)
def m__law_whole : MS LS := (mRet (mAndV (mOp1 (oIs .int) (mVar 0)) (mNotV (mOp1 (oIs .bool) (mVar 0)))))
def F__law_whole : MF LS := mDef 1 1 (m__law_whole)
def m__law_is_price : MS LS := (mSeq (mIfS (mOr (mNot (mTest (mOp1 (oIs .tuple) (mVar 0)))) (mTest (mOp2 oNe (mOpN oLen (mCons (mVar 0) mNil)) (mC (.int 3))))) (mRet (mC (.bl false))) mPass)
    (mSeq (mIfS (mOr (mNot (mTest (mOpN oAll (mCons (mLc (mItems (mVar 0)) (tgN 1) mYes (mAndV (mCall F__law_whole (mCons (mVar 1) mNil)) (mOp2 oGe (mVar 1) (mC (.int 0)))) [1]) mNil)))) (mTest (mOp2 oEq (mOpN oMaxA (mCons (mVar 0) mNil)) (mC (.int 0))))) (mRet (mC (.bl false))) mPass)
    (mRet (mOp2 oEq (mCall F__law_lowest (mCons (mVar 0) mNil)) (mVar 0)))))
def F__law_is_price : MF LS := mDef 2 1 (m__law_is_price)
def m__law_turn : MS LS := (mSeq (mSet 3 (mOp2 oMul (mOp2 oIx (mVar 2) (mC (.int 0))) (mOp2 oSub (mOp2 oMul (mOp2 oIx (mVar 0) (mC (.int 1))) (mOp2 oIx (mVar 1) (mC (.int 2)))) (mOp2 oMul (mOp2 oIx (mVar 0) (mC (.int 2))) (mOp2 oIx (mVar 1) (mC (.int 1)))))))
    (mSeq (mSet 3 (mOp2 oSub (mVar 3) (mOp2 oMul (mOp2 oIx (mVar 2) (mC (.int 1))) (mOp2 oSub (mOp2 oMul (mOp2 oIx (mVar 0) (mC (.int 0))) (mOp2 oIx (mVar 1) (mC (.int 2)))) (mOp2 oMul (mOp2 oIx (mVar 0) (mC (.int 2))) (mOp2 oIx (mVar 1) (mC (.int 0))))))))
    (mRet (mOp2 oAdd (mVar 3) (mOp2 oMul (mOp2 oIx (mVar 2) (mC (.int 2))) (mOp2 oSub (mOp2 oMul (mOp2 oIx (mVar 0) (mC (.int 0))) (mOp2 oIx (mVar 1) (mC (.int 1)))) (mOp2 oMul (mOp2 oIx (mVar 0) (mC (.int 1))) (mOp2 oIx (mVar 1) (mC (.int 0))))))))))
def F__law_turn : MF LS := mDef 4 3 (m__law_turn)
def m__law_is_shape : MS LS := (mSeq (mIfS (mOr (mNot (mTest (mOp1 (oIs .tuple) (mVar 0)))) (mOr (mTest (mOp2 oLt (mOpN oLen (mCons (mVar 0) mNil)) (mC (.int 3)))) (mNot (mTest (mOpN oAll (mCons (mLc (mItems (mVar 0)) (tgN 5) mYes (mCall F__law_is_price (mCons (mVar 5) mNil)) [5]) mNil)))))) (mRet (mC (.bl false))) mPass)
    (mSeq (mIfS (mNot (mTest (mOpN oAll (mCons (mLc (mItems (mCut (mVar 0) (some (mC (.int 1))) none)) (tgN 6) mYes (mOp2 oLtD (mOp2 oIx (mVar 0) (mC (.int 0))) (mVar 6)) [6]) mNil)))) (mRet (mC (.bl false))) mPass)
    (mSeq (mFor (mRange1 (mOpN oLen (mCons (mVar 0) mNil))) (tgN 1) (mSeq (mPar 2 3 (mOp2 oIx (mVar 0) (mOp2 oSub (mVar 1) (mC (.int 1)))) (mOp2 oIx (mVar 0) (mVar 1)))
    (mFor (mRange1 (mOpN oLen (mCons (mVar 0) mNil))) (tgN 4) (mIfS (mAnd (mTest (mOp2 oNe (mVar 4) (mVar 1))) (mAnd (mTest (mOp2 oNe (mVar 4) (mOp2 oMod (mOp2 oSub (mVar 1) (mC (.int 1))) (mOpN oLen (mCons (mVar 0) mNil))))) (mTest (mOp2 oLe (mCall F__law_turn (mCons (mVar 2) (mCons (mVar 3) (mCons (mOp2 oIx (mVar 0) (mVar 4)) mNil)))) (mC (.int 0)))))) (mRet (mC (.bl false))) mPass))))
    (mRet (mC (.bl true))))))
def F__law_is_shape : MF LS := mDef 7 1 (m__law_is_shape)
def m_law : MS LS := (mSeq (mFrz 1) (mSeq (mSet 2 (mCall F__law_draw (mCons (mVar 1) (mCons (mC (.int 13)) mNil))))
    (mSeq (mFrz 1) (mSeq (mSet 3 (mCall F__law_shape (mCons (mVar 1) (mCons (mC (.int 4)) (mCons (mOp2 oIx (mLst (mCons (mC (.int 2)) (mCons (mC (.int 9)) (mCons (mOp2 oPow (mC (.int 10)) (mC (.int 6))) mNil)))) (mCall F__law_draw (mCons (mVar 1) (mCons (mC (.int 3)) mNil)))) mNil)))))
    (mSeq (mFrz 1) (mSeq (mIfS (mTest (mOp2 oEq (mCall F__law_draw (mCons (mVar 1) (mCons (mC (.int 8)) mNil))) (mC (.int 1)))) (mSeq (mFrz 1) (mSet 3 (mCall F__law_ring (mCons (mVar 1) mNil)))) mPass)
    (mSeq (mSet 4 (mVar 3))
    (mSeq (mIfS (mTest (mOp2 oEq (mVar 2) (mC (.int 12)))) (mSeq (mFrz 3) (mSeq (mFrz 1) (mSet 4 (mCall (F__law_odd 10) (mCons (mVar 1) (mCons (mVar 3) mNil)))))) (mIfS (mTest (mOp2 oGt (mVar 2) (mC (.int 0)))) (mSeq (mFrz 2) (mSeq (mFrz 3) (mSeq (mFrz 1) (mSet 4 (mCall F__law_amiss (mCons (mVar 1) (mCons (mVar 3) (mCons (mVar 2) mNil)))))))) mPass))
    (mSeq (mFrz 4) (mSeq (mSet 5 (mCall F_is_shape (mCons (mVar 4) mNil)))
    (mSeq (mFrz 4) (mSeq (mIfS (mOr (mNot (mTest (mOp1 (oIs .bool) (mVar 5)))) (mTest (mOp2 oNe (mVar 5) (mCall F__law_is_shape (mCons (mVar 4) mNil))))) (mRet (mC (.bl false))) mPass)
    (mSeq (mFrz 3) (mRet (mAndV (mOp2 oIs2 (mCall F_is_shape (mCons (mVar 3) mNil)) (mC (.bl true))) (mAndV (mOp2 oIs2 (mCall F_is_shape (mCons (mC (.tup [(.tup [(.int 0), (.int 0), (.int 1)]), (.tup [(.int 1), (.int 0), (.int 0)]), (.tup [(.int 0), (.int 1), (.int 0)])])) mNil)) (mC (.bl true))) (mOp2 oEq (mC (.tup [(.tup [(.int 0), (.int 0), (.int 1)]), (.tup [(.int 1), (.int 0), (.int 0)]), (.tup [(.int 0), (.int 1), (.int 0)])])) (mTup (mCons (mTup (mCons (mC (.int 0)) (mCons (mC (.int 0)) (mCons (mC (.int 1)) mNil)))) (mCons (mTup (mCons (mC (.int 1)) (mCons (mC (.int 0)) (mCons (mC (.int 0)) mNil)))) (mCons (mTup (mCons (mC (.int 0)) (mCons (mC (.int 1)) (mCons (mC (.int 0)) mNil)))) mNil)))))))))))))))))))))
end G_k41
set_option Elab.async false
set_option linter.all false
set_option maxRecDepth 10000
set_option maxHeartbeats 4000000
set_option exponentiation.threshold 20000
namespace G_k41
open PB
theorem e_draw : F__law_draw = drawF := rfl
theorem e_shape : F__law_shape = l_shapeF := rfl
theorem e_ring : F__law_ring = l_ringF := rfl
theorem e_isShape : F_is_shape = is_shapeF := rfl
theorem e_lisShape : F__law_is_shape = l_is_shapeF := rfl
theorem e_low : F__law_lowest = l_lowestF := rfl
theorem e_odd : ∀ k, F__law_odd k = oddF k
  | 0 => rfl
  | k + 1 => by
    show mDef 5 2 (m__law_odd (F__law_odd k)) = mDef 5 2 (oddM (oddF k))
    rw [e_odd k]
    rfl
theorem S_numAmiss {a b : Nat} {v : V3} {s : LS} {Q : Rv → LS → Prop} (hv : Lt3 400 v) (hb : Bud a (b + 2) s) (q : ∀ d s', Sm 60 1 d → Bud a b s' → Q (.dat d) s') : Sat (F__law_number_amiss [.ref a, vd v] s) Q := by
  unfold F__law_number_amiss
  rw [S_def (k := 2) (ds := [.ref a, vd v]) rfl]
  show Sat (m__law_number_amiss [.dat (.ref a), .dat (vd v), .un, .un, .un] s) _
  unfold m__law_number_amiss
  rw [e_draw]
  simp only [S_var, S_C, S_op1, k1_, S_op2, k2_, k2b_, S_nil, S_cons, kc_, kcb_, S_opN, kN_, S_tup, S_lst, kT_u, kL_u, stoL_nil, stoL_dat, stoL_own, consO_some, SatO_some, S_call, kCall_u, S_if, S_ifS, kI_true, kI_false, S_andV, S_orV, kAndV_true, kAndV_false, kOrV_true, kOrV_false, S_test, kTest_, S_tru, kTru_, S_and, S_or, S_not, kAnd_true, kAnd_false, kOr_true, kOr_false, kNot_, S_seq, kS_nx, kS_rt, kS_bk, kS_ct, S_pass, S_set, kSet_dat, kSet_own, S_par, kP_, kPb_, S_ret', kR_, S_retN, S_break, S_cont, S_for, kF_, S_forNil, kFb_nx, kFb_ct, kFb_bk, kFb_rt, S_items, kItems_tup, kItems_lst, kItems_own, S_lc, kLc_, S_lcNil, S_yes, kD_rt, kD_nx, Rv.ret, gt, st, kVar_dat, kVar_own, o_add, o_sub, o_eq, o_ne, o_lt, o_le, o_gt, o_ge, o_eqB, o_neB, o_is2, o_isnot2, o_abs, o_ix, o_ixO, o_ixB, o_ixL, o_tupO, o_isBool, map_some', wp, tgN_, List.length_cons, List.length_nil, Nat.reduceAdd, Nat.reduceLeDiff, true_and, decide_true, decide_false, Bool.not_true, Bool.not_false, o_mul_u, o_div_u, o_mod_u, o_pow_u, o_eqS, o_neS, o_intB, o_lenS, o_lenO, o_lenB, o_iaddI, S_s1, kS1_, kS1b_, S_lm, kLm_bor, kLm_own, kLmb_, S_tab, o_ixT, o_ixS, S_put, kPut_, kPutK_, S_zip2, kZip_, kZipb_tup, o_sum, o_sumB, o_tupB, o_tupL, o_lenT, S_range1, kRng_3, S_tgtL, kTgtL_, List.nil_append, List.cons_append, Nat.reduceLT, SZ, forall_const, true_implies]
  refine S_drawN (n := 3) (b := b + 1) hb (by decide) (by decide) fun i s1 hi h1 => ?_
  obtain ⟨x, hx, bx⟩ : ∃ x : Int, oIx (.dat (vd v)) (.dat (.int (i : Nat))) = some (.dat (.int x)) ∧ x.natAbs < 2 ^ 400 := by
    rcases (by omega : i = 0 ∨ i = 1 ∨ i = 2) with rfl | rfl | rfl
    · exact ⟨_, rfl, hv.x⟩
    · exact ⟨_, rfl, hv.y⟩
    · exact ⟨_, rfl, hv.z⟩
  simp only [S_var, S_C, S_op1, k1_, S_op2, k2_, k2b_, S_nil, S_cons, kc_, kcb_, S_opN, kN_, S_tup, S_lst, kT_u, kL_u, stoL_nil, stoL_dat, stoL_own, consO_some, SatO_some, S_call, kCall_u, S_if, S_ifS, kI_true, kI_false, S_andV, S_orV, kAndV_true, kAndV_false, kOrV_true, kOrV_false, S_test, kTest_, S_tru, kTru_, S_and, S_or, S_not, kAnd_true, kAnd_false, kOr_true, kOr_false, kNot_, S_seq, kS_nx, kS_rt, kS_bk, kS_ct, S_pass, S_set, kSet_dat, kSet_own, S_par, kP_, kPb_, S_ret', kR_, S_retN, S_break, S_cont, S_for, kF_, S_forNil, kFb_nx, kFb_ct, kFb_bk, kFb_rt, S_items, kItems_tup, kItems_lst, kItems_own, S_lc, kLc_, S_lcNil, S_yes, kD_rt, kD_nx, Rv.ret, gt, st, kVar_dat, kVar_own, o_add, o_sub, o_eq, o_ne, o_lt, o_le, o_gt, o_ge, o_eqB, o_neB, o_is2, o_isnot2, o_abs, o_ix, o_ixO, o_ixB, o_ixL, o_tupO, o_isBool, map_some', wp, tgN_, List.length_cons, List.length_nil, Nat.reduceAdd, Nat.reduceLeDiff, true_and, decide_true, decide_false, Bool.not_true, Bool.not_false, o_mul_u, o_div_u, o_mod_u, o_pow_u, o_eqS, o_neS, o_intB, o_lenS, o_lenO, o_lenB, o_iaddI, S_s1, kS1_, kS1b_, S_lm, kLm_bor, kLm_own, kLmb_, S_tab, o_ixT, o_ixS, S_put, kPut_, kPutK_, S_zip2, kZip_, kZipb_tup, o_sum, o_sumB, o_tupB, o_tupL, o_lenT, S_range1, kRng_3, S_tgtL, kTgtL_, List.nil_append, List.cons_append, Nat.reduceLT, SZ, forall_const, true_implies, hx]
  refine S_drawN (n := 8) (b := b) h1 (by decide) (by decide) fun j s2 hj h2 => ?_
  have big : (2 : Nat) ^ 400 + 10 < 2 ^ 900 := by decide
  obtain ⟨y, hy, sy⟩ : ∃ y, oIx (.own [.int (x + 1), .int (x - 1), .int (0 - 2), .int (0 - 2), .bl (decide (x = 1)), .bl (decide (x = 1)), .non, .str [49]]) (.dat (.int (j : Nat))) = some (.dat y) ∧ Sm 60 0 y := by
    rcases (by omega : j = 0 ∨ j = 1 ∨ j = 2 ∨ j = 3 ∨ j = 4 ∨ j = 5 ∨ j = 6 ∨ j = 7) with rfl | rfl | rfl | rfl | rfl | rfl | rfl | rfl
    · exact ⟨_, rfl, sm_int (by omega)⟩
    · exact ⟨_, rfl, sm_int (by omega)⟩
    · exact ⟨_, rfl, sm_int (by decide)⟩
    · exact ⟨_, rfl, sm_int (by decide)⟩
    · exact ⟨_, rfl, trivial⟩
    · exact ⟨_, rfl, trivial⟩
    · exact ⟨_, rfl, trivial⟩
    · exact ⟨_, rfl, (by show 1 ≤ 500; decide)⟩
  rw [k2b_, hy]
  have ev : vd v = .tup [.int v.1, .int v.2.1, .int v.2.2] := rfl
  simp only [S_var, S_C, S_op1, k1_, S_op2, k2_, k2b_, S_nil, S_cons, kc_, kcb_, S_opN, kN_, S_tup, S_lst, kT_u, kL_u, stoL_nil, stoL_dat, stoL_own, consO_some, SatO_some, S_call, kCall_u, S_if, S_ifS, kI_true, kI_false, S_andV, S_orV, kAndV_true, kAndV_false, kOrV_true, kOrV_false, S_test, kTest_, S_tru, kTru_, S_and, S_or, S_not, kAnd_true, kAnd_false, kOr_true, kOr_false, kNot_, S_seq, kS_nx, kS_rt, kS_bk, kS_ct, S_pass, S_set, kSet_dat, kSet_own, S_par, kP_, kPb_, S_ret', kR_, S_retN, S_break, S_cont, S_for, kF_, S_forNil, kFb_nx, kFb_ct, kFb_bk, kFb_rt, S_items, kItems_tup, kItems_lst, kItems_own, S_lc, kLc_, S_lcNil, S_yes, kD_rt, kD_nx, Rv.ret, gt, st, kVar_dat, kVar_own, o_add, o_sub, o_eq, o_ne, o_lt, o_le, o_gt, o_ge, o_eqB, o_neB, o_is2, o_isnot2, o_abs, o_ix, o_ixO, o_ixB, o_ixL, o_tupO, o_isBool, map_some', wp, tgN_, List.length_cons, List.length_nil, Nat.reduceAdd, Nat.reduceLeDiff, true_and, decide_true, decide_false, Bool.not_true, Bool.not_false, o_mul_u, o_div_u, o_mod_u, o_pow_u, o_eqS, o_neS, o_intB, o_lenS, o_lenO, o_lenB, o_iaddI, S_s1, kS1_, kS1b_, S_lm, kLm_bor, kLm_own, kLmb_, S_tab, o_ixT, o_ixS, S_put, kPut_, kPutK_, S_zip2, kZip_, kZipb_tup, o_sum, o_sumB, o_tupB, o_tupL, o_lenT, S_range1, kRng_3, S_tgtL, kTgtL_, List.nil_append, List.cons_append, Nat.reduceLT, SZ, forall_const, true_implies, ev, S_cutH, S_cutL, hiT, loT1, addT]
  refine ⟨by ((try simp only [List.length_append, List.length_take, List.length_drop, List.length_cons, List.length_nil, SZ]); omega), ?_⟩
  try simp only [S_var, S_C, S_op1, k1_, S_op2, k2_, k2b_, S_nil, S_cons, kc_, kcb_, S_opN, kN_, S_tup, S_lst, kT_u, kL_u, stoL_nil, stoL_dat, stoL_own, consO_some, SatO_some, S_call, kCall_u, S_if, S_ifS, kI_true, kI_false, S_andV, S_orV, kAndV_true, kAndV_false, kOrV_true, kOrV_false, S_test, kTest_, S_tru, kTru_, S_and, S_or, S_not, kAnd_true, kAnd_false, kOr_true, kOr_false, kNot_, S_seq, kS_nx, kS_rt, kS_bk, kS_ct, S_pass, S_set, kSet_dat, kSet_own, S_par, kP_, kPb_, S_ret', kR_, S_retN, S_break, S_cont, S_for, kF_, S_forNil, kFb_nx, kFb_ct, kFb_bk, kFb_rt, S_items, kItems_tup, kItems_lst, kItems_own, S_lc, kLc_, S_lcNil, S_yes, kD_rt, kD_nx, Rv.ret, gt, st, kVar_dat, kVar_own, o_add, o_sub, o_eq, o_ne, o_lt, o_le, o_gt, o_ge, o_eqB, o_neB, o_is2, o_isnot2, o_abs, o_ix, o_ixO, o_ixB, o_ixL, o_tupO, o_isBool, map_some', wp, tgN_, List.length_cons, List.length_nil, Nat.reduceAdd, Nat.reduceLeDiff, true_and, decide_true, decide_false, Bool.not_true, Bool.not_false, o_mul_u, o_div_u, o_mod_u, o_pow_u, o_eqS, o_neS, o_intB, o_lenS, o_lenO, o_lenB, o_iaddI, S_s1, kS1_, kS1b_, S_lm, kLm_bor, kLm_own, kLmb_, S_tab, o_ixT, o_ixS, S_put, kPut_, kPutK_, S_zip2, kZip_, kZipb_tup, o_sum, o_sumB, o_tupB, o_tupL, o_lenT, S_range1, kRng_3, S_tgtL, kTgtL_, List.nil_append, List.cons_append, Nat.reduceLT, SZ, forall_const, true_implies, ev, S_cutH, S_cutL, hiT, loT1, addT]
  refine ⟨by ((try simp only [List.length_append, List.length_take, List.length_drop, List.length_cons, List.length_nil, SZ]); omega), ?_⟩
  try simp only [S_var, S_C, S_op1, k1_, S_op2, k2_, k2b_, S_nil, S_cons, kc_, kcb_, S_opN, kN_, S_tup, S_lst, kT_u, kL_u, stoL_nil, stoL_dat, stoL_own, consO_some, SatO_some, S_call, kCall_u, S_if, S_ifS, kI_true, kI_false, S_andV, S_orV, kAndV_true, kAndV_false, kOrV_true, kOrV_false, S_test, kTest_, S_tru, kTru_, S_and, S_or, S_not, kAnd_true, kAnd_false, kOr_true, kOr_false, kNot_, S_seq, kS_nx, kS_rt, kS_bk, kS_ct, S_pass, S_set, kSet_dat, kSet_own, S_par, kP_, kPb_, S_ret', kR_, S_retN, S_break, S_cont, S_for, kF_, S_forNil, kFb_nx, kFb_ct, kFb_bk, kFb_rt, S_items, kItems_tup, kItems_lst, kItems_own, S_lc, kLc_, S_lcNil, S_yes, kD_rt, kD_nx, Rv.ret, gt, st, kVar_dat, kVar_own, o_add, o_sub, o_eq, o_ne, o_lt, o_le, o_gt, o_ge, o_eqB, o_neB, o_is2, o_isnot2, o_abs, o_ix, o_ixO, o_ixB, o_ixL, o_tupO, o_isBool, map_some', wp, tgN_, List.length_cons, List.length_nil, Nat.reduceAdd, Nat.reduceLeDiff, true_and, decide_true, decide_false, Bool.not_true, Bool.not_false, o_mul_u, o_div_u, o_mod_u, o_pow_u, o_eqS, o_neS, o_intB, o_lenS, o_lenO, o_lenB, o_iaddI, S_s1, kS1_, kS1b_, S_lm, kLm_bor, kLm_own, kLmb_, S_tab, o_ixT, o_ixS, S_put, kPut_, kPutK_, S_zip2, kZip_, kZipb_tup, o_sum, o_sumB, o_tupB, o_tupL, o_lenT, S_range1, kRng_3, S_tgtL, kTgtL_, List.nil_append, List.cons_append, Nat.reduceLT, SZ, forall_const, true_implies]
  refine q _ s2 (sm_split (L := 60) (n := 0) (es := [y]) (k := i) (j := i + 1) (ds := [.int v.1, .int v.2.1, .int v.2.2]) (by simp) (fun d hd => ?_) (fun d hd => by rw [List.mem_singleton.mp hd]; exact sy) (by ((try simp only [List.length_append, List.length_take, List.length_drop, List.length_cons, List.length_nil, SZ]); omega))) h2
  exact (sm_vd (n := 400) (L := 60) (m := 0) (v := v) hv (by decide) (by decide)).2 d hd
theorem zip_vd {QI : List D → LS → Prop} {u v : V3} {g : LS} : kZipb QI (.dat (vd u)) (.dat (vd v)) g = QI [.tup [.int u.1, .int v.1], .tup [.int u.2.1, .int v.2.1], .tup [.int u.2.2, .int v.2.2]] g := rfl
theorem ixShp {vs : List V3} {j : Nat} (h : j < vs.length) : oIx (.dat (shp vs)) (.dat (.int (j : Nat))) = some (.dat (vd (vs.getD j (0, 0, 0)))) := ix_shp h
theorem sm_shp {vs : List V3} (h : ShpS 400 48 vs) : ∀ d ∈ vs.map vd, Sm 60 1 d := fun d hd => by
  obtain ⟨v, hv, rfl⟩ := List.mem_map.mp hd
  exact sm_vd (h.pr v hv).2 (by decide) (by omega)
theorem nine {m : Nat} {v : V3} (hv : Lt3 400 v) (hm : m < 16) : Lt3 410 ((m : Int) * v.1, (m : Int) * v.2.1, (m : Int) * v.2.2) := by
  have one : ∀ x : Int, x.natAbs < 2 ^ 400 → ((m : Int) * x).natAbs < 2 ^ 410 := fun x hx => by
    have : (m : Int).natAbs < 2 ^ 4 := by
      rw [Int.natAbs_natCast]
      exact hm
    exact ltUp (mulLt this hx) (by decide)
  exact ⟨one _ hv.x, one _ hv.y, one _ hv.z⟩
theorem S_cornerAmiss {a b way : Nat} {vs : List V3} {s : LS} {Q : Rv → LS → Prop} (hS : ShpS 400 48 vs) (hb : Bud a (b + 4) s) (q : ∀ d s', Sm 60 5 d → Bud a b s' → Q (.dat d) s') : Sat (F__law_corner_amiss [.ref a, shp vs, .int (way : Nat)] s) Q := by
  have hle := hS.le
  have hge := hS.ge
  unfold F__law_corner_amiss
  rw [S_def (k := 3) (ds := [.ref a, shp vs, .int (way : Nat)]) rfl]
  show Sat (m__law_corner_amiss [.dat (.ref a), .dat (shp vs), .dat (.int (way : Nat)), .un, .un, .un, .un, .un, .un, .un, .un, .un] s) _
  unfold m__law_corner_amiss
  rw [e_draw, e_low]
  have es : shp vs = .tup (vs.map vd) := rfl
  have hml : (vs.map vd).length = vs.length := List.length_map ..
  have hsm := sm_shp hS
  have put : ∀ (k j : Nat) (ys : List D), k ≤ vs.length → j ≤ vs.length → (∀ d ∈ ys, Sm 60 4 d) → ys.length ≤ 1 → vs.length ≤ 48 → k ≤ j → Sm 60 5 (.tup ((vs.map vd).take k ++ ys ++ (vs.map vd).drop j)) := fun k j ys hk hj h1 h2 _ h4 =>
    sm_split (by omega) (fun d hd => (hsm d hd).up (Nat.le_refl _) (by omega)) h1 (by rw [List.length_take, List.length_drop, hml]; omega)
  simp only [S_var, S_C, S_op1, k1_, S_op2, k2_, k2b_, S_nil, S_cons, kc_, kcb_, S_opN, kN_, S_tup, S_lst, kT_u, kL_u, stoL_nil, stoL_dat, stoL_own, consO_some, SatO_some, S_call, kCall_u, S_if, S_ifS, kI_true, kI_false, S_andV, S_orV, kAndV_true, kAndV_false, kOrV_true, kOrV_false, S_test, kTest_, S_tru, kTru_, S_and, S_or, S_not, kAnd_true, kAnd_false, kOr_true, kOr_false, kNot_, S_seq, kS_nx, kS_rt, kS_bk, kS_ct, S_pass, S_set, kSet_dat, kSet_own, S_par, kP_, kPb_, S_ret', kR_, S_retN, S_break, S_cont, S_for, kF_, S_forNil, kFb_nx, kFb_ct, kFb_bk, kFb_rt, S_items, kItems_tup, kItems_lst, kItems_own, S_lc, kLc_, S_lcNil, S_yes, kD_rt, kD_nx, Rv.ret, gt, st, kVar_dat, kVar_own, o_add, o_sub, o_eq, o_ne, o_lt, o_le, o_gt, o_ge, o_eqB, o_neB, o_is2, o_isnot2, o_abs, o_ix, o_ixO, o_ixB, o_ixL, o_tupO, o_isBool, map_some', wp, tgN_, List.length_cons, List.length_nil, Nat.reduceAdd, Nat.reduceLeDiff, true_and, decide_true, decide_false, Bool.not_true, Bool.not_false, o_mul_u, o_div_u, o_mod_u, o_pow_u, o_eqS, o_neS, o_intB, o_lenS, o_lenO, o_lenB, o_iaddI, S_s1, kS1_, kS1b_, S_lm, kLm_bor, kLm_own, kLmb_, S_tab, o_ixT, o_ixS, S_put, kPut_, kPutK_, S_zip2, kZip_, kZipb_tup, o_sum, o_sumB, o_tupB, o_tupL, o_lenT, S_range1, kRng_3, S_tgtL, kTgtL_, List.nil_append, List.cons_append, Nat.reduceLT, SZ, forall_const, true_implies, len_shp]
  refine S_drawN (n := vs.length) (b := b + 3) hb (by omega) (by omega) fun i s1 hi h1 => ?_
  have hv := (hS.pr _ (getD_memV hi))
  have ix := ixShp hi
  generalize hvv : vs.getD i (0, 0, 0) = v at *
  simp only [S_var, S_C, S_op1, k1_, S_op2, k2_, k2b_, S_nil, S_cons, kc_, kcb_, S_opN, kN_, S_tup, S_lst, kT_u, kL_u, stoL_nil, stoL_dat, stoL_own, consO_some, SatO_some, S_call, kCall_u, S_if, S_ifS, kI_true, kI_false, S_andV, S_orV, kAndV_true, kAndV_false, kOrV_true, kOrV_false, S_test, kTest_, S_tru, kTru_, S_and, S_or, S_not, kAnd_true, kAnd_false, kOr_true, kOr_false, kNot_, S_seq, kS_nx, kS_rt, kS_bk, kS_ct, S_pass, S_set, kSet_dat, kSet_own, S_par, kP_, kPb_, S_ret', kR_, S_retN, S_break, S_cont, S_for, kF_, S_forNil, kFb_nx, kFb_ct, kFb_bk, kFb_rt, S_items, kItems_tup, kItems_lst, kItems_own, S_lc, kLc_, S_lcNil, S_yes, kD_rt, kD_nx, Rv.ret, gt, st, kVar_dat, kVar_own, o_add, o_sub, o_eq, o_ne, o_lt, o_le, o_gt, o_ge, o_eqB, o_neB, o_is2, o_isnot2, o_abs, o_ix, o_ixO, o_ixB, o_ixL, o_tupO, o_isBool, map_some', wp, tgN_, List.length_cons, List.length_nil, Nat.reduceAdd, Nat.reduceLeDiff, true_and, decide_true, decide_false, Bool.not_true, Bool.not_false, o_mul_u, o_div_u, o_mod_u, o_pow_u, o_eqS, o_neS, o_intB, o_lenS, o_lenO, o_lenB, o_iaddI, S_s1, kS1_, kS1b_, S_lm, kLm_bor, kLm_own, kLmb_, S_tab, o_ixT, o_ixS, S_put, kPut_, kPutK_, S_zip2, kZip_, kZipb_tup, o_sum, o_sumB, o_tupB, o_tupL, o_lenT, S_range1, kRng_3, S_tgtL, kTgtL_, List.nil_append, List.cons_append, Nat.reduceLT, SZ, forall_const, true_implies, ix]
  refine kI_d (fun _ => ?_) (fun _ => ?_)
  · simp only [S_var, S_C, S_op1, k1_, S_op2, k2_, k2b_, S_nil, S_cons, kc_, kcb_, S_opN, kN_, S_tup, S_lst, kT_u, kL_u, stoL_nil, stoL_dat, stoL_own, consO_some, SatO_some, S_call, kCall_u, S_if, S_ifS, kI_true, kI_false, S_andV, S_orV, kAndV_true, kAndV_false, kOrV_true, kOrV_false, S_test, kTest_, S_tru, kTru_, S_and, S_or, S_not, kAnd_true, kAnd_false, kOr_true, kOr_false, kNot_, S_seq, kS_nx, kS_rt, kS_bk, kS_ct, S_pass, S_set, kSet_dat, kSet_own, S_par, kP_, kPb_, S_ret', kR_, S_retN, S_break, S_cont, S_for, kF_, S_forNil, kFb_nx, kFb_ct, kFb_bk, kFb_rt, S_items, kItems_tup, kItems_lst, kItems_own, S_lc, kLc_, S_lcNil, S_yes, kD_rt, kD_nx, Rv.ret, gt, st, kVar_dat, kVar_own, o_add, o_sub, o_eq, o_ne, o_lt, o_le, o_gt, o_ge, o_eqB, o_neB, o_is2, o_isnot2, o_abs, o_ix, o_ixO, o_ixB, o_ixL, o_tupO, o_isBool, map_some', wp, tgN_, List.length_cons, List.length_nil, Nat.reduceAdd, Nat.reduceLeDiff, true_and, decide_true, decide_false, Bool.not_true, Bool.not_false, o_mul_u, o_div_u, o_mod_u, o_pow_u, o_eqS, o_neS, o_intB, o_lenS, o_lenO, o_lenB, o_iaddI, S_s1, kS1_, kS1b_, S_lm, kLm_bor, kLm_own, kLmb_, S_tab, o_ixT, o_ixS, S_put, kPut_, kPutK_, S_zip2, kZip_, kZipb_tup, o_sum, o_sumB, o_tupB, o_tupL, o_lenT, S_range1, kRng_3, S_tgtL, kTgtL_, List.nil_append, List.cons_append, Nat.reduceLT, SZ, forall_const, true_implies]
    refine S_drawN (n := 8) (b := b + 2) h1 (by decide) (by decide) fun j s2 hj h2 => ?_
    have hn := nine (m := 2 + j) hv.2 (by omega)
    have ec : (2 : Int) + ((j : Nat) : Int) = ((2 + j : Nat) : Int) := by omega
    have ev : vd v = .tup [.int v.1, .int v.2.1, .int v.2.2] := rfl
    simp only [S_var, S_C, S_op1, k1_, S_op2, k2_, k2b_, S_nil, S_cons, kc_, kcb_, S_opN, kN_, S_tup, S_lst, kT_u, kL_u, stoL_nil, stoL_dat, stoL_own, consO_some, SatO_some, S_call, kCall_u, S_if, S_ifS, kI_true, kI_false, S_andV, S_orV, kAndV_true, kAndV_false, kOrV_true, kOrV_false, S_test, kTest_, S_tru, kTru_, S_and, S_or, S_not, kAnd_true, kAnd_false, kOr_true, kOr_false, kNot_, S_seq, kS_nx, kS_rt, kS_bk, kS_ct, S_pass, S_set, kSet_dat, kSet_own, S_par, kP_, kPb_, S_ret', kR_, S_retN, S_break, S_cont, S_for, kF_, S_forNil, kFb_nx, kFb_ct, kFb_bk, kFb_rt, S_items, kItems_tup, kItems_lst, kItems_own, S_lc, kLc_, S_lcNil, S_yes, kD_rt, kD_nx, Rv.ret, gt, st, kVar_dat, kVar_own, o_add, o_sub, o_eq, o_ne, o_lt, o_le, o_gt, o_ge, o_eqB, o_neB, o_is2, o_isnot2, o_abs, o_ix, o_ixO, o_ixB, o_ixL, o_tupO, o_isBool, map_some', wp, tgN_, List.length_cons, List.length_nil, Nat.reduceAdd, Nat.reduceLeDiff, true_and, decide_true, decide_false, Bool.not_true, Bool.not_false, o_mul_u, o_div_u, o_mod_u, o_pow_u, o_eqS, o_neS, o_intB, o_lenS, o_lenO, o_lenB, o_iaddI, S_s1, kS1_, kS1b_, S_lm, kLm_bor, kLm_own, kLmb_, S_tab, o_ixT, o_ixS, S_put, kPut_, kPutK_, S_zip2, kZip_, kZipb_tup, o_sum, o_sumB, o_tupB, o_tupL, o_lenT, S_range1, kRng_3, S_tgtL, kTgtL_, List.nil_append, List.cons_append, Nat.reduceLT, SZ, forall_const, true_implies, S_cutH, es, hiT, ev, ec]
    refine S_lcA [v.1, v.2.1, v.2.2] (fun x => .int x) (fun x => .int (((2 + j : Nat) : Int) * x)) (by simp [SZ]) (fun x hx => ⟨_, rfl, ?_⟩) ?_
    · simp only [S_var, S_C, S_op1, k1_, S_op2, k2_, k2b_, S_nil, S_cons, kc_, kcb_, S_opN, kN_, S_tup, S_lst, kT_u, kL_u, stoL_nil, stoL_dat, stoL_own, consO_some, SatO_some, S_call, kCall_u, S_if, S_ifS, kI_true, kI_false, S_andV, S_orV, kAndV_true, kAndV_false, kOrV_true, kOrV_false, S_test, kTest_, S_tru, kTru_, S_and, S_or, S_not, kAnd_true, kAnd_false, kOr_true, kOr_false, kNot_, S_seq, kS_nx, kS_rt, kS_bk, kS_ct, S_pass, S_set, kSet_dat, kSet_own, S_par, kP_, kPb_, S_ret', kR_, S_retN, S_break, S_cont, S_for, kF_, S_forNil, kFb_nx, kFb_ct, kFb_bk, kFb_rt, S_items, kItems_tup, kItems_lst, kItems_own, S_lc, kLc_, S_lcNil, S_yes, kD_rt, kD_nx, Rv.ret, gt, st, kVar_dat, kVar_own, o_add, o_sub, o_eq, o_ne, o_lt, o_le, o_gt, o_ge, o_eqB, o_neB, o_is2, o_isnot2, o_abs, o_ix, o_ixO, o_ixB, o_ixL, o_tupO, o_isBool, map_some', wp, tgN_, List.length_cons, List.length_nil, Nat.reduceAdd, Nat.reduceLeDiff, true_and, decide_true, decide_false, Bool.not_true, Bool.not_false, o_mul_u, o_div_u, o_mod_u, o_pow_u, o_eqS, o_neS, o_intB, o_lenS, o_lenO, o_lenB, o_iaddI, S_s1, kS1_, kS1b_, S_lm, kLm_bor, kLm_own, kLmb_, S_tab, o_ixT, o_ixS, S_put, kPut_, kPutK_, S_zip2, kZip_, kZipb_tup, o_sum, o_sumB, o_tupB, o_tupL, o_lenT, S_range1, kRng_3, S_tgtL, kTgtL_, List.nil_append, List.cons_append, Nat.reduceLT, SZ, forall_const, true_implies]
      have hx : x.natAbs < 2 ^ 400 := by
        rcases List.mem_cons.mp hx with rfl | hx
        · exact hv.2.x
        · rcases List.mem_cons.mp hx with rfl | hx
          · exact hv.2.y
          · rw [List.mem_singleton.mp hx]
            exact hv.2.z
      refine ⟨mulOkP (a := 4) (b := 400) (by rw [Int.natAbs_natCast]; show 2 + j < 16; omega) hx (by decide), rfl, trivial⟩
    · simp only [S_var, S_C, S_op1, k1_, S_op2, k2_, k2b_, S_nil, S_cons, kc_, kcb_, S_opN, kN_, S_tup, S_lst, kT_u, kL_u, stoL_nil, stoL_dat, stoL_own, consO_some, SatO_some, S_call, kCall_u, S_if, S_ifS, kI_true, kI_false, S_andV, S_orV, kAndV_true, kAndV_false, kOrV_true, kOrV_false, S_test, kTest_, S_tru, kTru_, S_and, S_or, S_not, kAnd_true, kAnd_false, kOr_true, kOr_false, kNot_, S_seq, kS_nx, kS_rt, kS_bk, kS_ct, S_pass, S_set, kSet_dat, kSet_own, S_par, kP_, kPb_, S_ret', kR_, S_retN, S_break, S_cont, S_for, kF_, S_forNil, kFb_nx, kFb_ct, kFb_bk, kFb_rt, S_items, kItems_tup, kItems_lst, kItems_own, S_lc, kLc_, S_lcNil, S_yes, kD_rt, kD_nx, Rv.ret, gt, st, kVar_dat, kVar_own, o_add, o_sub, o_eq, o_ne, o_lt, o_le, o_gt, o_ge, o_eqB, o_neB, o_is2, o_isnot2, o_abs, o_ix, o_ixO, o_ixB, o_ixL, o_tupO, o_isBool, map_some', wp, tgN_, List.length_cons, List.length_nil, Nat.reduceAdd, Nat.reduceLeDiff, true_and, decide_true, decide_false, Bool.not_true, Bool.not_false, o_mul_u, o_div_u, o_mod_u, o_pow_u, o_eqS, o_neS, o_intB, o_lenS, o_lenO, o_lenB, o_iaddI, S_s1, kS1_, kS1b_, S_lm, kLm_bor, kLm_own, kLmb_, S_tab, o_ixT, o_ixS, S_put, kPut_, kPutK_, S_zip2, kZip_, kZipb_tup, o_sum, o_sumB, o_tupB, o_tupL, o_lenT, S_range1, kRng_3, S_tgtL, kTgtL_, List.nil_append, List.cons_append, Nat.reduceLT, SZ, forall_const, true_implies, addT]
      refine ⟨by rw [List.length_take, hml]; ((try simp only [List.length_append, List.length_take, List.length_drop, List.length_cons, List.length_nil, SZ]); omega), ?_⟩
      try simp only [S_var, S_C, S_op1, k1_, S_op2, k2_, k2b_, S_nil, S_cons, kc_, kcb_, S_opN, kN_, S_tup, S_lst, kT_u, kL_u, stoL_nil, stoL_dat, stoL_own, consO_some, SatO_some, S_call, kCall_u, S_if, S_ifS, kI_true, kI_false, S_andV, S_orV, kAndV_true, kAndV_false, kOrV_true, kOrV_false, S_test, kTest_, S_tru, kTru_, S_and, S_or, S_not, kAnd_true, kAnd_false, kOr_true, kOr_false, kNot_, S_seq, kS_nx, kS_rt, kS_bk, kS_ct, S_pass, S_set, kSet_dat, kSet_own, S_par, kP_, kPb_, S_ret', kR_, S_retN, S_break, S_cont, S_for, kF_, S_forNil, kFb_nx, kFb_ct, kFb_bk, kFb_rt, S_items, kItems_tup, kItems_lst, kItems_own, S_lc, kLc_, S_lcNil, S_yes, kD_rt, kD_nx, Rv.ret, gt, st, kVar_dat, kVar_own, o_add, o_sub, o_eq, o_ne, o_lt, o_le, o_gt, o_ge, o_eqB, o_neB, o_is2, o_isnot2, o_abs, o_ix, o_ixO, o_ixB, o_ixL, o_tupO, o_isBool, map_some', wp, tgN_, List.length_cons, List.length_nil, Nat.reduceAdd, Nat.reduceLeDiff, true_and, decide_true, decide_false, Bool.not_true, Bool.not_false, o_mul_u, o_div_u, o_mod_u, o_pow_u, o_eqS, o_neS, o_intB, o_lenS, o_lenO, o_lenB, o_iaddI, S_s1, kS1_, kS1b_, S_lm, kLm_bor, kLm_own, kLmb_, S_tab, o_ixT, o_ixS, S_put, kPut_, kPutK_, S_zip2, kZip_, kZipb_tup, o_sum, o_sumB, o_tupB, o_tupL, o_lenT, S_range1, kRng_3, S_tgtL, kTgtL_, List.nil_append, List.cons_append, Nat.reduceLT, SZ, forall_const, true_implies, S_cutL, loT1, addT]
      refine ⟨by simp only [List.length_append, List.length_take, List.length_drop, hml, SZ, List.length_cons, List.length_nil]; omega, ?_⟩
      try simp only [S_var, S_C, S_op1, k1_, S_op2, k2_, k2b_, S_nil, S_cons, kc_, kcb_, S_opN, kN_, S_tup, S_lst, kT_u, kL_u, stoL_nil, stoL_dat, stoL_own, consO_some, SatO_some, S_call, kCall_u, S_if, S_ifS, kI_true, kI_false, S_andV, S_orV, kAndV_true, kAndV_false, kOrV_true, kOrV_false, S_test, kTest_, S_tru, kTru_, S_and, S_or, S_not, kAnd_true, kAnd_false, kOr_true, kOr_false, kNot_, S_seq, kS_nx, kS_rt, kS_bk, kS_ct, S_pass, S_set, kSet_dat, kSet_own, S_par, kP_, kPb_, S_ret', kR_, S_retN, S_break, S_cont, S_for, kF_, S_forNil, kFb_nx, kFb_ct, kFb_bk, kFb_rt, S_items, kItems_tup, kItems_lst, kItems_own, S_lc, kLc_, S_lcNil, S_yes, kD_rt, kD_nx, Rv.ret, gt, st, kVar_dat, kVar_own, o_add, o_sub, o_eq, o_ne, o_lt, o_le, o_gt, o_ge, o_eqB, o_neB, o_is2, o_isnot2, o_abs, o_ix, o_ixO, o_ixB, o_ixL, o_tupO, o_isBool, map_some', wp, tgN_, List.length_cons, List.length_nil, Nat.reduceAdd, Nat.reduceLeDiff, true_and, decide_true, decide_false, Bool.not_true, Bool.not_false, o_mul_u, o_div_u, o_mod_u, o_pow_u, o_eqS, o_neS, o_intB, o_lenS, o_lenO, o_lenB, o_iaddI, S_s1, kS1_, kS1b_, S_lm, kLm_bor, kLm_own, kLmb_, S_tab, o_ixT, o_ixS, S_put, kPut_, kPutK_, S_zip2, kZip_, kZipb_tup, o_sum, o_sumB, o_tupB, o_tupL, o_lenT, S_range1, kRng_3, S_tgtL, kTgtL_, List.nil_append, List.cons_append, Nat.reduceLT, SZ, forall_const, true_implies]
      refine q _ s2 (put i (i + 1) _ (by omega) (by omega) (fun d hd => ?_) (by simp) (by omega) (by omega)) (h2.le (by omega))
      rw [List.mem_singleton.mp hd]
      exact (sm_vd (L := 60) (m := 0) (v := (((2 + j : Nat) : Int) * v.1, ((2 + j : Nat) : Int) * v.2.1, ((2 + j : Nat) : Int) * v.2.2)) hn (by decide) (by decide)).up (Nat.le_refl _) (by omega)
  simp only [S_var, S_C, S_op1, k1_, S_op2, k2_, k2b_, S_nil, S_cons, kc_, kcb_, S_opN, kN_, S_tup, S_lst, kT_u, kL_u, stoL_nil, stoL_dat, stoL_own, consO_some, SatO_some, S_call, kCall_u, S_if, S_ifS, kI_true, kI_false, S_andV, S_orV, kAndV_true, kAndV_false, kOrV_true, kOrV_false, S_test, kTest_, S_tru, kTru_, S_and, S_or, S_not, kAnd_true, kAnd_false, kOr_true, kOr_false, kNot_, S_seq, kS_nx, kS_rt, kS_bk, kS_ct, S_pass, S_set, kSet_dat, kSet_own, S_par, kP_, kPb_, S_ret', kR_, S_retN, S_break, S_cont, S_for, kF_, S_forNil, kFb_nx, kFb_ct, kFb_bk, kFb_rt, S_items, kItems_tup, kItems_lst, kItems_own, S_lc, kLc_, S_lcNil, S_yes, kD_rt, kD_nx, Rv.ret, gt, st, kVar_dat, kVar_own, o_add, o_sub, o_eq, o_ne, o_lt, o_le, o_gt, o_ge, o_eqB, o_neB, o_is2, o_isnot2, o_abs, o_ix, o_ixO, o_ixB, o_ixL, o_tupO, o_isBool, map_some', wp, tgN_, List.length_cons, List.length_nil, Nat.reduceAdd, Nat.reduceLeDiff, true_and, decide_true, decide_false, Bool.not_true, Bool.not_false, o_mul_u, o_div_u, o_mod_u, o_pow_u, o_eqS, o_neS, o_intB, o_lenS, o_lenO, o_lenB, o_iaddI, S_s1, kS1_, kS1b_, S_lm, kLm_bor, kLm_own, kLmb_, S_tab, o_ixT, o_ixS, S_put, kPut_, kPutK_, S_zip2, kZip_, kZipb_tup, o_sum, o_sumB, o_tupB, o_tupL, o_lenT, S_range1, kRng_3, S_tgtL, kTgtL_, List.nil_append, List.cons_append, Nat.reduceLT, SZ, forall_const, true_implies]
  refine kI_d (fun _ => ?_) (fun _ => ?_)
  · simp only [S_var, S_C, S_op1, k1_, S_op2, k2_, k2b_, S_nil, S_cons, kc_, kcb_, S_opN, kN_, S_tup, S_lst, kT_u, kL_u, stoL_nil, stoL_dat, stoL_own, consO_some, SatO_some, S_call, kCall_u, S_if, S_ifS, kI_true, kI_false, S_andV, S_orV, kAndV_true, kAndV_false, kOrV_true, kOrV_false, S_test, kTest_, S_tru, kTru_, S_and, S_or, S_not, kAnd_true, kAnd_false, kOr_true, kOr_false, kNot_, S_seq, kS_nx, kS_rt, kS_bk, kS_ct, S_pass, S_set, kSet_dat, kSet_own, S_par, kP_, kPb_, S_ret', kR_, S_retN, S_break, S_cont, S_for, kF_, S_forNil, kFb_nx, kFb_ct, kFb_bk, kFb_rt, S_items, kItems_tup, kItems_lst, kItems_own, S_lc, kLc_, S_lcNil, S_yes, kD_rt, kD_nx, Rv.ret, gt, st, kVar_dat, kVar_own, o_add, o_sub, o_eq, o_ne, o_lt, o_le, o_gt, o_ge, o_eqB, o_neB, o_is2, o_isnot2, o_abs, o_ix, o_ixO, o_ixB, o_ixL, o_tupO, o_isBool, map_some', wp, tgN_, List.length_cons, List.length_nil, Nat.reduceAdd, Nat.reduceLeDiff, true_and, decide_true, decide_false, Bool.not_true, Bool.not_false, o_mul_u, o_div_u, o_mod_u, o_pow_u, o_eqS, o_neS, o_intB, o_lenS, o_lenO, o_lenB, o_iaddI, S_s1, kS1_, kS1b_, S_lm, kLm_bor, kLm_own, kLmb_, S_tab, o_ixT, o_ixS, S_put, kPut_, kPutK_, S_zip2, kZip_, kZipb_tup, o_sum, o_sumB, o_tupB, o_tupL, o_lenT, S_range1, kRng_3, S_tgtL, kTgtL_, List.nil_append, List.cons_append, Nat.reduceLT, SZ, forall_const, true_implies, S_cutH, S_cutL, es, hiT, loT1, addT]
    refine ⟨by simp only [List.length_take, List.length_drop, hml, SZ]; omega, ?_⟩
    try simp only [S_var, S_C, S_op1, k1_, S_op2, k2_, k2b_, S_nil, S_cons, kc_, kcb_, S_opN, kN_, S_tup, S_lst, kT_u, kL_u, stoL_nil, stoL_dat, stoL_own, consO_some, SatO_some, S_call, kCall_u, S_if, S_ifS, kI_true, kI_false, S_andV, S_orV, kAndV_true, kAndV_false, kOrV_true, kOrV_false, S_test, kTest_, S_tru, kTru_, S_and, S_or, S_not, kAnd_true, kAnd_false, kOr_true, kOr_false, kNot_, S_seq, kS_nx, kS_rt, kS_bk, kS_ct, S_pass, S_set, kSet_dat, kSet_own, S_par, kP_, kPb_, S_ret', kR_, S_retN, S_break, S_cont, S_for, kF_, S_forNil, kFb_nx, kFb_ct, kFb_bk, kFb_rt, S_items, kItems_tup, kItems_lst, kItems_own, S_lc, kLc_, S_lcNil, S_yes, kD_rt, kD_nx, Rv.ret, gt, st, kVar_dat, kVar_own, o_add, o_sub, o_eq, o_ne, o_lt, o_le, o_gt, o_ge, o_eqB, o_neB, o_is2, o_isnot2, o_abs, o_ix, o_ixO, o_ixB, o_ixL, o_tupO, o_isBool, map_some', wp, tgN_, List.length_cons, List.length_nil, Nat.reduceAdd, Nat.reduceLeDiff, true_and, decide_true, decide_false, Bool.not_true, Bool.not_false, o_mul_u, o_div_u, o_mod_u, o_pow_u, o_eqS, o_neS, o_intB, o_lenS, o_lenO, o_lenB, o_iaddI, S_s1, kS1_, kS1b_, S_lm, kLm_bor, kLm_own, kLmb_, S_tab, o_ixT, o_ixS, S_put, kPut_, kPutK_, S_zip2, kZip_, kZipb_tup, o_sum, o_sumB, o_tupB, o_tupL, o_lenT, S_range1, kRng_3, S_tgtL, kTgtL_, List.nil_append, List.cons_append, Nat.reduceLT, SZ, forall_const, true_implies]
    have := put i (i + 1) [] (by omega) (by omega) (fun d hd => nomatch hd) (by simp) (by omega) (by omega)
    rw [List.append_nil] at this
    exact q _ s1 this (h1.le (by omega))
  simp only [S_var, S_C, S_op1, k1_, S_op2, k2_, k2b_, S_nil, S_cons, kc_, kcb_, S_opN, kN_, S_tup, S_lst, kT_u, kL_u, stoL_nil, stoL_dat, stoL_own, consO_some, SatO_some, S_call, kCall_u, S_if, S_ifS, kI_true, kI_false, S_andV, S_orV, kAndV_true, kAndV_false, kOrV_true, kOrV_false, S_test, kTest_, S_tru, kTru_, S_and, S_or, S_not, kAnd_true, kAnd_false, kOr_true, kOr_false, kNot_, S_seq, kS_nx, kS_rt, kS_bk, kS_ct, S_pass, S_set, kSet_dat, kSet_own, S_par, kP_, kPb_, S_ret', kR_, S_retN, S_break, S_cont, S_for, kF_, S_forNil, kFb_nx, kFb_ct, kFb_bk, kFb_rt, S_items, kItems_tup, kItems_lst, kItems_own, S_lc, kLc_, S_lcNil, S_yes, kD_rt, kD_nx, Rv.ret, gt, st, kVar_dat, kVar_own, o_add, o_sub, o_eq, o_ne, o_lt, o_le, o_gt, o_ge, o_eqB, o_neB, o_is2, o_isnot2, o_abs, o_ix, o_ixO, o_ixB, o_ixL, o_tupO, o_isBool, map_some', wp, tgN_, List.length_cons, List.length_nil, Nat.reduceAdd, Nat.reduceLeDiff, true_and, decide_true, decide_false, Bool.not_true, Bool.not_false, o_mul_u, o_div_u, o_mod_u, o_pow_u, o_eqS, o_neS, o_intB, o_lenS, o_lenO, o_lenB, o_iaddI, S_s1, kS1_, kS1b_, S_lm, kLm_bor, kLm_own, kLmb_, S_tab, o_ixT, o_ixS, S_put, kPut_, kPutK_, S_zip2, kZip_, kZipb_tup, o_sum, o_sumB, o_tupB, o_tupL, o_lenT, S_range1, kRng_3, S_tgtL, kTgtL_, List.nil_append, List.cons_append, Nat.reduceLT, SZ, forall_const, true_implies]
  refine kI_d (fun _ => ?_) (fun _ => ?_)
  · have el : oList [.dat (shp vs)] = some (.own (vs.map vd)) := rfl
    simp only [S_var, S_C, S_op1, k1_, S_op2, k2_, k2b_, S_nil, S_cons, kc_, kcb_, S_opN, kN_, S_tup, S_lst, kT_u, kL_u, stoL_nil, stoL_dat, stoL_own, consO_some, SatO_some, S_call, kCall_u, S_if, S_ifS, kI_true, kI_false, S_andV, S_orV, kAndV_true, kAndV_false, kOrV_true, kOrV_false, S_test, kTest_, S_tru, kTru_, S_and, S_or, S_not, kAnd_true, kAnd_false, kOr_true, kOr_false, kNot_, S_seq, kS_nx, kS_rt, kS_bk, kS_ct, S_pass, S_set, kSet_dat, kSet_own, S_par, kP_, kPb_, S_ret', kR_, S_retN, S_break, S_cont, S_for, kF_, S_forNil, kFb_nx, kFb_ct, kFb_bk, kFb_rt, S_items, kItems_tup, kItems_lst, kItems_own, S_lc, kLc_, S_lcNil, S_yes, kD_rt, kD_nx, Rv.ret, gt, st, kVar_dat, kVar_own, o_add, o_sub, o_eq, o_ne, o_lt, o_le, o_gt, o_ge, o_eqB, o_neB, o_is2, o_isnot2, o_abs, o_ix, o_ixO, o_ixB, o_ixL, o_tupO, o_isBool, map_some', wp, tgN_, List.length_cons, List.length_nil, Nat.reduceAdd, Nat.reduceLeDiff, true_and, decide_true, decide_false, Bool.not_true, Bool.not_false, o_mul_u, o_div_u, o_mod_u, o_pow_u, o_eqS, o_neS, o_intB, o_lenS, o_lenO, o_lenB, o_iaddI, S_s1, kS1_, kS1b_, S_lm, kLm_bor, kLm_own, kLmb_, S_tab, o_ixT, o_ixS, S_put, kPut_, kPutK_, S_zip2, kZip_, kZipb_tup, o_sum, o_sumB, o_tupB, o_tupL, o_lenT, S_range1, kRng_3, S_tgtL, kTgtL_, List.nil_append, List.cons_append, Nat.reduceLT, SZ, forall_const, true_implies, el]
    refine S_insA rfl ?_
    have e1 : ((vs.length : Nat) : Int) + 1 = ((vs.length + 1 : Nat) : Int) := rfl
    simp only [S_var, S_C, S_op1, k1_, S_op2, k2_, k2b_, S_nil, S_cons, kc_, kcb_, S_opN, kN_, S_tup, S_lst, kT_u, kL_u, stoL_nil, stoL_dat, stoL_own, consO_some, SatO_some, S_call, kCall_u, S_if, S_ifS, kI_true, kI_false, S_andV, S_orV, kAndV_true, kAndV_false, kOrV_true, kOrV_false, S_test, kTest_, S_tru, kTru_, S_and, S_or, S_not, kAnd_true, kAnd_false, kOr_true, kOr_false, kNot_, S_seq, kS_nx, kS_rt, kS_bk, kS_ct, S_pass, S_set, kSet_dat, kSet_own, S_par, kP_, kPb_, S_ret', kR_, S_retN, S_break, S_cont, S_for, kF_, S_forNil, kFb_nx, kFb_ct, kFb_bk, kFb_rt, S_items, kItems_tup, kItems_lst, kItems_own, S_lc, kLc_, S_lcNil, S_yes, kD_rt, kD_nx, Rv.ret, gt, st, kVar_dat, kVar_own, o_add, o_sub, o_eq, o_ne, o_lt, o_le, o_gt, o_ge, o_eqB, o_neB, o_is2, o_isnot2, o_abs, o_ix, o_ixO, o_ixB, o_ixL, o_tupO, o_isBool, map_some', wp, tgN_, List.length_cons, List.length_nil, Nat.reduceAdd, Nat.reduceLeDiff, true_and, decide_true, decide_false, Bool.not_true, Bool.not_false, o_mul_u, o_div_u, o_mod_u, o_pow_u, o_eqS, o_neS, o_intB, o_lenS, o_lenO, o_lenB, o_iaddI, S_s1, kS1_, kS1b_, S_lm, kLm_bor, kLm_own, kLmb_, S_tab, o_ixT, o_ixS, S_put, kPut_, kPutK_, S_zip2, kZip_, kZipb_tup, o_sum, o_sumB, o_tupB, o_tupL, o_lenT, S_range1, kRng_3, S_tgtL, kTgtL_, List.nil_append, List.cons_append, Nat.reduceLT, SZ, forall_const, true_implies, len_shp, e1]
    refine S_drawN (n := vs.length + 1) (b := b + 2) h1 (by omega) (by omega) fun j s2 hj h2 => ?_
    simp only [S_var, S_C, S_op1, k1_, S_op2, k2_, k2b_, S_nil, S_cons, kc_, kcb_, S_opN, kN_, S_tup, S_lst, kT_u, kL_u, stoL_nil, stoL_dat, stoL_own, consO_some, SatO_some, S_call, kCall_u, S_if, S_ifS, kI_true, kI_false, S_andV, S_orV, kAndV_true, kAndV_false, kOrV_true, kOrV_false, S_test, kTest_, S_tru, kTru_, S_and, S_or, S_not, kAnd_true, kAnd_false, kOr_true, kOr_false, kNot_, S_seq, kS_nx, kS_rt, kS_bk, kS_ct, S_pass, S_set, kSet_dat, kSet_own, S_par, kP_, kPb_, S_ret', kR_, S_retN, S_break, S_cont, S_for, kF_, S_forNil, kFb_nx, kFb_ct, kFb_bk, kFb_rt, S_items, kItems_tup, kItems_lst, kItems_own, S_lc, kLc_, S_lcNil, S_yes, kD_rt, kD_nx, Rv.ret, gt, st, kVar_dat, kVar_own, o_add, o_sub, o_eq, o_ne, o_lt, o_le, o_gt, o_ge, o_eqB, o_neB, o_is2, o_isnot2, o_abs, o_ix, o_ixO, o_ixB, o_ixL, o_tupO, o_isBool, map_some', wp, tgN_, List.length_cons, List.length_nil, Nat.reduceAdd, Nat.reduceLeDiff, true_and, decide_true, decide_false, Bool.not_true, Bool.not_false, o_mul_u, o_div_u, o_mod_u, o_pow_u, o_eqS, o_neS, o_intB, o_lenS, o_lenO, o_lenB, o_iaddI, S_s1, kS1_, kS1b_, S_lm, kLm_bor, kLm_own, kLmb_, S_tab, o_ixT, o_ixS, S_put, kPut_, kPutK_, S_zip2, kZip_, kZipb_tup, o_sum, o_sumB, o_tupB, o_tupL, o_lenT, S_range1, kRng_3, S_tgtL, kTgtL_, List.nil_append, List.cons_append, Nat.reduceLT, SZ, forall_const, true_implies, kInsA_]
    refine ⟨by rw [hml]; omega, by omega, by omega, ?_⟩
    simp only [S_var, S_C, S_op1, k1_, S_op2, k2_, k2b_, S_nil, S_cons, kc_, kcb_, S_opN, kN_, S_tup, S_lst, kT_u, kL_u, stoL_nil, stoL_dat, stoL_own, consO_some, SatO_some, S_call, kCall_u, S_if, S_ifS, kI_true, kI_false, S_andV, S_orV, kAndV_true, kAndV_false, kOrV_true, kOrV_false, S_test, kTest_, S_tru, kTru_, S_and, S_or, S_not, kAnd_true, kAnd_false, kOr_true, kOr_false, kNot_, S_seq, kS_nx, kS_rt, kS_bk, kS_ct, S_pass, S_set, kSet_dat, kSet_own, S_par, kP_, kPb_, S_ret', kR_, S_retN, S_break, S_cont, S_for, kF_, S_forNil, kFb_nx, kFb_ct, kFb_bk, kFb_rt, S_items, kItems_tup, kItems_lst, kItems_own, S_lc, kLc_, S_lcNil, S_yes, kD_rt, kD_nx, Rv.ret, gt, st, kVar_dat, kVar_own, o_add, o_sub, o_eq, o_ne, o_lt, o_le, o_gt, o_ge, o_eqB, o_neB, o_is2, o_isnot2, o_abs, o_ix, o_ixO, o_ixB, o_ixL, o_tupO, o_isBool, map_some', wp, tgN_, List.length_cons, List.length_nil, Nat.reduceAdd, Nat.reduceLeDiff, true_and, decide_true, decide_false, Bool.not_true, Bool.not_false, o_mul_u, o_div_u, o_mod_u, o_pow_u, o_eqS, o_neS, o_intB, o_lenS, o_lenO, o_lenB, o_iaddI, S_s1, kS1_, kS1b_, S_lm, kLm_bor, kLm_own, kLmb_, S_tab, o_ixT, o_ixS, S_put, kPut_, kPutK_, S_zip2, kZip_, kZipb_tup, o_sum, o_sumB, o_tupB, o_tupL, o_lenT, S_range1, kRng_3, S_tgtL, kTgtL_, List.nil_append, List.cons_append, Nat.reduceLT, SZ, forall_const, true_implies, Int.toNat_natCast]
    refine q _ s2 (put j j [vd v] (by omega) (by omega) (fun d hd => ?_) (by simp) (by omega) (by omega)) (h2.le (by omega))
    rw [List.mem_singleton.mp hd]
    exact sm_vd hv.2 (by decide) (by decide)
  simp only [S_var, S_C, S_op1, k1_, S_op2, k2_, k2b_, S_nil, S_cons, kc_, kcb_, S_opN, kN_, S_tup, S_lst, kT_u, kL_u, stoL_nil, stoL_dat, stoL_own, consO_some, SatO_some, S_call, kCall_u, S_if, S_ifS, kI_true, kI_false, S_andV, S_orV, kAndV_true, kAndV_false, kOrV_true, kOrV_false, S_test, kTest_, S_tru, kTru_, S_and, S_or, S_not, kAnd_true, kAnd_false, kOr_true, kOr_false, kNot_, S_seq, kS_nx, kS_rt, kS_bk, kS_ct, S_pass, S_set, kSet_dat, kSet_own, S_par, kP_, kPb_, S_ret', kR_, S_retN, S_break, S_cont, S_for, kF_, S_forNil, kFb_nx, kFb_ct, kFb_bk, kFb_rt, S_items, kItems_tup, kItems_lst, kItems_own, S_lc, kLc_, S_lcNil, S_yes, kD_rt, kD_nx, Rv.ret, gt, st, kVar_dat, kVar_own, o_add, o_sub, o_eq, o_ne, o_lt, o_le, o_gt, o_ge, o_eqB, o_neB, o_is2, o_isnot2, o_abs, o_ix, o_ixO, o_ixB, o_ixL, o_tupO, o_isBool, map_some', wp, tgN_, List.length_cons, List.length_nil, Nat.reduceAdd, Nat.reduceLeDiff, true_and, decide_true, decide_false, Bool.not_true, Bool.not_false, o_mul_u, o_div_u, o_mod_u, o_pow_u, o_eqS, o_neS, o_intB, o_lenS, o_lenO, o_lenB, o_iaddI, S_s1, kS1_, kS1b_, S_lm, kLm_bor, kLm_own, kLmb_, S_tab, o_ixT, o_ixS, S_put, kPut_, kPutK_, S_zip2, kZip_, kZipb_tup, o_sum, o_sumB, o_tupB, o_tupL, o_lenT, S_range1, kRng_3, S_tgtL, kTgtL_, List.nil_append, List.cons_append, Nat.reduceLT, SZ, forall_const, true_implies]
  refine kI_d (fun _ => ?_) (fun _ => ?_)
  · simp only [S_var, S_C, S_op1, k1_, S_op2, k2_, k2b_, S_nil, S_cons, kc_, kcb_, S_opN, kN_, S_tup, S_lst, kT_u, kL_u, stoL_nil, stoL_dat, stoL_own, consO_some, SatO_some, S_call, kCall_u, S_if, S_ifS, kI_true, kI_false, S_andV, S_orV, kAndV_true, kAndV_false, kOrV_true, kOrV_false, S_test, kTest_, S_tru, kTru_, S_and, S_or, S_not, kAnd_true, kAnd_false, kOr_true, kOr_false, kNot_, S_seq, kS_nx, kS_rt, kS_bk, kS_ct, S_pass, S_set, kSet_dat, kSet_own, S_par, kP_, kPb_, S_ret', kR_, S_retN, S_break, S_cont, S_for, kF_, S_forNil, kFb_nx, kFb_ct, kFb_bk, kFb_rt, S_items, kItems_tup, kItems_lst, kItems_own, S_lc, kLc_, S_lcNil, S_yes, kD_rt, kD_nx, Rv.ret, gt, st, kVar_dat, kVar_own, o_add, o_sub, o_eq, o_ne, o_lt, o_le, o_gt, o_ge, o_eqB, o_neB, o_is2, o_isnot2, o_abs, o_ix, o_ixO, o_ixB, o_ixL, o_tupO, o_isBool, map_some', wp, tgN_, List.length_cons, List.length_nil, Nat.reduceAdd, Nat.reduceLeDiff, true_and, decide_true, decide_false, Bool.not_true, Bool.not_false, o_mul_u, o_div_u, o_mod_u, o_pow_u, o_eqS, o_neS, o_intB, o_lenS, o_lenO, o_lenB, o_iaddI, S_s1, kS1_, kS1b_, S_lm, kLm_bor, kLm_own, kLmb_, S_tab, o_ixT, o_ixS, S_put, kPut_, kPutK_, S_zip2, kZip_, kZipb_tup, o_sum, o_sumB, o_tupB, o_tupL, o_lenT, S_range1, kRng_3, S_tgtL, kTgtL_, List.nil_append, List.cons_append, Nat.reduceLT, SZ, forall_const, true_implies]
    refine S_drawN (n := 3) (b := b + 2) h1 (by decide) (by decide) fun j s2 hj h2 => ?_
    have hu := hS.pr _ (prev_mem hi)
    have ixp := ix_shp1 hi
    generalize prevV vs i = u at *
    have ec : (1 : Int) + ((j : Nat) : Int) = ((1 + j : Nat) : Int) := by omega
    have hn := nine (m := 1 + j) hu.2 (by omega)
    have hprc : Prc (((1 + j : Nat) : Int) * u.1 + v.1, ((1 + j : Nat) : Int) * u.2.1 + v.2.1, ((1 + j : Nat) : Int) * u.2.2 + v.2.2) := by
      have m0 : (0 : Int) ≤ ((1 + j : Nat) : Int) := by omega
      have a1 := Int.mul_nonneg m0 hu.1.x
      have a2 := Int.mul_nonneg m0 hu.1.y
      have a3 := Int.mul_nonneg m0 hu.1.z
      have b1 := hv.1.x
      have b2 := hv.1.y
      have b3 := hv.1.z
      have b4 := hv.1.n
      refine ⟨by show 0 ≤ ((1 + j : Nat) : Int) * u.1 + v.1; omega, by show 0 ≤ ((1 + j : Nat) : Int) * u.2.1 + v.2.1; omega, by show 0 ≤ ((1 + j : Nat) : Int) * u.2.2 + v.2.2; omega, ?_⟩
      show ((1 + j : Nat) : Int) * u.1 + v.1 ≠ 0 ∨ ((1 + j : Nat) : Int) * u.2.1 + v.2.1 ≠ 0 ∨ ((1 + j : Nat) : Int) * u.2.2 + v.2.2 ≠ 0
      omega
    have add1 : ∀ x y : Int, x.natAbs < 2 ^ 410 → y.natAbs < 2 ^ 400 → (x + y).natAbs < 2 ^ 411 := fun x y hx hy => by
      have e1 : (2 : Nat) ^ 411 = 2 ^ 410 + 2 ^ 410 := by decide
      have e2 : (2 : Nat) ^ 400 ≤ 2 ^ 410 := Nat.pow_le_pow_right (by decide) (by decide)
      omega
    have hlt : Lt3 411 (((1 + j : Nat) : Int) * u.1 + v.1, ((1 + j : Nat) : Int) * u.2.1 + v.2.1, ((1 + j : Nat) : Int) * u.2.2 + v.2.2) := ⟨add1 _ _ hn.x hv.2.x, add1 _ _ hn.y hv.2.y, add1 _ _ hn.z hv.2.z⟩
    simp only [S_var, S_C, S_op1, k1_, S_op2, k2_, k2b_, S_nil, S_cons, kc_, kcb_, S_opN, kN_, S_tup, S_lst, kT_u, kL_u, stoL_nil, stoL_dat, stoL_own, consO_some, SatO_some, S_call, kCall_u, S_if, S_ifS, kI_true, kI_false, S_andV, S_orV, kAndV_true, kAndV_false, kOrV_true, kOrV_false, S_test, kTest_, S_tru, kTru_, S_and, S_or, S_not, kAnd_true, kAnd_false, kOr_true, kOr_false, kNot_, S_seq, kS_nx, kS_rt, kS_bk, kS_ct, S_pass, S_set, kSet_dat, kSet_own, S_par, kP_, kPb_, S_ret', kR_, S_retN, S_break, S_cont, S_for, kF_, S_forNil, kFb_nx, kFb_ct, kFb_bk, kFb_rt, S_items, kItems_tup, kItems_lst, kItems_own, S_lc, kLc_, S_lcNil, S_yes, kD_rt, kD_nx, Rv.ret, gt, st, kVar_dat, kVar_own, o_add, o_sub, o_eq, o_ne, o_lt, o_le, o_gt, o_ge, o_eqB, o_neB, o_is2, o_isnot2, o_abs, o_ix, o_ixO, o_ixB, o_ixL, o_tupO, o_isBool, map_some', wp, tgN_, List.length_cons, List.length_nil, Nat.reduceAdd, Nat.reduceLeDiff, true_and, decide_true, decide_false, Bool.not_true, Bool.not_false, o_mul_u, o_div_u, o_mod_u, o_pow_u, o_eqS, o_neS, o_intB, o_lenS, o_lenO, o_lenB, o_iaddI, S_s1, kS1_, kS1b_, S_lm, kLm_bor, kLm_own, kLmb_, S_tab, o_ixT, o_ixS, S_put, kPut_, kPutK_, S_zip2, kZip_, kZipb_tup, o_sum, o_sumB, o_tupB, o_tupL, o_lenT, S_range1, kRng_3, S_tgtL, kTgtL_, List.nil_append, List.cons_append, Nat.reduceLT, SZ, forall_const, true_implies, ixp, ec, zip_vd]
    refine S_lcA [(u.1, v.1), (u.2.1, v.2.1), (u.2.2, v.2.2)] (fun x => .tup [.int x.1, .int x.2]) (fun x => .int (((1 + j : Nat) : Int) * x.1 + x.2)) (by simp [SZ]) (fun x hx => ⟨_, rfl, ?_⟩) ?_
    · simp only [S_var, S_C, S_op1, k1_, S_op2, k2_, k2b_, S_nil, S_cons, kc_, kcb_, S_opN, kN_, S_tup, S_lst, kT_u, kL_u, stoL_nil, stoL_dat, stoL_own, consO_some, SatO_some, S_call, kCall_u, S_if, S_ifS, kI_true, kI_false, S_andV, S_orV, kAndV_true, kAndV_false, kOrV_true, kOrV_false, S_test, kTest_, S_tru, kTru_, S_and, S_or, S_not, kAnd_true, kAnd_false, kOr_true, kOr_false, kNot_, S_seq, kS_nx, kS_rt, kS_bk, kS_ct, S_pass, S_set, kSet_dat, kSet_own, S_par, kP_, kPb_, S_ret', kR_, S_retN, S_break, S_cont, S_for, kF_, S_forNil, kFb_nx, kFb_ct, kFb_bk, kFb_rt, S_items, kItems_tup, kItems_lst, kItems_own, S_lc, kLc_, S_lcNil, S_yes, kD_rt, kD_nx, Rv.ret, gt, st, kVar_dat, kVar_own, o_add, o_sub, o_eq, o_ne, o_lt, o_le, o_gt, o_ge, o_eqB, o_neB, o_is2, o_isnot2, o_abs, o_ix, o_ixO, o_ixB, o_ixL, o_tupO, o_isBool, map_some', wp, tgN_, List.length_cons, List.length_nil, Nat.reduceAdd, Nat.reduceLeDiff, true_and, decide_true, decide_false, Bool.not_true, Bool.not_false, o_mul_u, o_div_u, o_mod_u, o_pow_u, o_eqS, o_neS, o_intB, o_lenS, o_lenO, o_lenB, o_iaddI, S_s1, kS1_, kS1b_, S_lm, kLm_bor, kLm_own, kLmb_, S_tab, o_ixT, o_ixS, S_put, kPut_, kPutK_, S_zip2, kZip_, kZipb_tup, o_sum, o_sumB, o_tupB, o_tupL, o_lenT, S_range1, kRng_3, S_tgtL, kTgtL_, List.nil_append, List.cons_append, Nat.reduceLT, SZ, forall_const, true_implies]
      have hx : x.1.natAbs < 2 ^ 400 := by
        rcases List.mem_cons.mp hx with rfl | hx
        · exact hu.2.x
        · rcases List.mem_cons.mp hx with rfl | hx
          · exact hu.2.y
          · rw [List.mem_singleton.mp hx]
            exact hu.2.z
      refine ⟨mulOkP (a := 4) (b := 400) (by rw [Int.natAbs_natCast]; show 1 + j < 16; omega) hx (by decide), rfl, trivial⟩
    · obtain ⟨w0, hw0⟩ : ∃ w0 : V3, w0 = (((1 + j : Nat) : Int) * u.1 + v.1, ((1 + j : Nat) : Int) * u.2.1 + v.2.1, ((1 + j : Nat) : Int) * u.2.2 + v.2.2) := ⟨_, rfl⟩
      rw [← hw0] at hprc hlt
      have el : ([(u.1, v.1), (u.2.1, v.2.1), (u.2.2, v.2.2)].map fun x : Int × Int => D.int (((1 + j : Nat) : Int) * x.1 + x.2)) = [.int w0.1, .int w0.2.1, .int w0.2.2] := by
        rw [hw0]
        rfl
      rw [el]
      simp only [S_var, S_C, S_op1, k1_, S_op2, k2_, k2b_, S_nil, S_cons, kc_, kcb_, S_opN, kN_, S_tup, S_lst, kT_u, kL_u, stoL_nil, stoL_dat, stoL_own, consO_some, SatO_some, S_call, kCall_u, S_if, S_ifS, kI_true, kI_false, S_andV, S_orV, kAndV_true, kAndV_false, kOrV_true, kOrV_false, S_test, kTest_, S_tru, kTru_, S_and, S_or, S_not, kAnd_true, kAnd_false, kOr_true, kOr_false, kNot_, S_seq, kS_nx, kS_rt, kS_bk, kS_ct, S_pass, S_set, kSet_dat, kSet_own, S_par, kP_, kPb_, S_ret', kR_, S_retN, S_break, S_cont, S_for, kF_, S_forNil, kFb_nx, kFb_ct, kFb_bk, kFb_rt, S_items, kItems_tup, kItems_lst, kItems_own, S_lc, kLc_, S_lcNil, S_yes, kD_rt, kD_nx, Rv.ret, gt, st, kVar_dat, kVar_own, o_add, o_sub, o_eq, o_ne, o_lt, o_le, o_gt, o_ge, o_eqB, o_neB, o_is2, o_isnot2, o_abs, o_ix, o_ixO, o_ixB, o_ixL, o_tupO, o_isBool, map_some', wp, tgN_, List.length_cons, List.length_nil, Nat.reduceAdd, Nat.reduceLeDiff, true_and, decide_true, decide_false, Bool.not_true, Bool.not_false, o_mul_u, o_div_u, o_mod_u, o_pow_u, o_eqS, o_neS, o_intB, o_lenS, o_lenO, o_lenB, o_iaddI, S_s1, kS1_, kS1b_, S_lm, kLm_bor, kLm_own, kLmb_, S_tab, o_ixT, o_ixS, S_put, kPut_, kPutK_, S_zip2, kZip_, kZipb_tup, o_sum, o_sumB, o_tupB, o_tupL, o_lenT, S_range1, kRng_3, S_tgtL, kTgtL_, List.nil_append, List.cons_append, Nat.reduceLT, SZ, forall_const, true_implies]
      refine S_llow hprc hlt (by decide) ?_
      have hlow := lowV_lt hlt
      generalize lowV _ = w at hlow ⊢
      have smw : ∀ d ∈ [vd w], Sm 60 4 d := fun d hd => by
        rw [List.mem_singleton.mp hd]
        exact sm_vd hlow (by decide) (by decide)
      simp only [S_var, S_C, S_op1, k1_, S_op2, k2_, k2b_, S_nil, S_cons, kc_, kcb_, S_opN, kN_, S_tup, S_lst, kT_u, kL_u, stoL_nil, stoL_dat, stoL_own, consO_some, SatO_some, S_call, kCall_u, S_if, S_ifS, kI_true, kI_false, S_andV, S_orV, kAndV_true, kAndV_false, kOrV_true, kOrV_false, S_test, kTest_, S_tru, kTru_, S_and, S_or, S_not, kAnd_true, kAnd_false, kOr_true, kOr_false, kNot_, S_seq, kS_nx, kS_rt, kS_bk, kS_ct, S_pass, S_set, kSet_dat, kSet_own, S_par, kP_, kPb_, S_ret', kR_, S_retN, S_break, S_cont, S_for, kF_, S_forNil, kFb_nx, kFb_ct, kFb_bk, kFb_rt, S_items, kItems_tup, kItems_lst, kItems_own, S_lc, kLc_, S_lcNil, S_yes, kD_rt, kD_nx, Rv.ret, gt, st, kVar_dat, kVar_own, o_add, o_sub, o_eq, o_ne, o_lt, o_le, o_gt, o_ge, o_eqB, o_neB, o_is2, o_isnot2, o_abs, o_ix, o_ixO, o_ixB, o_ixL, o_tupO, o_isBool, map_some', wp, tgN_, List.length_cons, List.length_nil, Nat.reduceAdd, Nat.reduceLeDiff, true_and, decide_true, decide_false, Bool.not_true, Bool.not_false, o_mul_u, o_div_u, o_mod_u, o_pow_u, o_eqS, o_neS, o_intB, o_lenS, o_lenO, o_lenB, o_iaddI, S_s1, kS1_, kS1b_, S_lm, kLm_bor, kLm_own, kLmb_, S_tab, o_ixT, o_ixS, S_put, kPut_, kPutK_, S_zip2, kZip_, kZipb_tup, o_sum, o_sumB, o_tupB, o_tupL, o_lenT, S_range1, kRng_3, S_tgtL, kTgtL_, List.nil_append, List.cons_append, Nat.reduceLT, SZ, forall_const, true_implies]
      refine kI_d (fun _ => ?_) (fun _ => ?_)
      · simp only [S_var, S_C, S_op1, k1_, S_op2, k2_, k2b_, S_nil, S_cons, kc_, kcb_, S_opN, kN_, S_tup, S_lst, kT_u, kL_u, stoL_nil, stoL_dat, stoL_own, consO_some, SatO_some, S_call, kCall_u, S_if, S_ifS, kI_true, kI_false, S_andV, S_orV, kAndV_true, kAndV_false, kOrV_true, kOrV_false, S_test, kTest_, S_tru, kTru_, S_and, S_or, S_not, kAnd_true, kAnd_false, kOr_true, kOr_false, kNot_, S_seq, kS_nx, kS_rt, kS_bk, kS_ct, S_pass, S_set, kSet_dat, kSet_own, S_par, kP_, kPb_, S_ret', kR_, S_retN, S_break, S_cont, S_for, kF_, S_forNil, kFb_nx, kFb_ct, kFb_bk, kFb_rt, S_items, kItems_tup, kItems_lst, kItems_own, S_lc, kLc_, S_lcNil, S_yes, kD_rt, kD_nx, Rv.ret, gt, st, kVar_dat, kVar_own, o_add, o_sub, o_eq, o_ne, o_lt, o_le, o_gt, o_ge, o_eqB, o_neB, o_is2, o_isnot2, o_abs, o_ix, o_ixO, o_ixB, o_ixL, o_tupO, o_isBool, map_some', wp, tgN_, List.length_cons, List.length_nil, Nat.reduceAdd, Nat.reduceLeDiff, true_and, decide_true, decide_false, Bool.not_true, Bool.not_false, o_mul_u, o_div_u, o_mod_u, o_pow_u, o_eqS, o_neS, o_intB, o_lenS, o_lenO, o_lenB, o_iaddI, S_s1, kS1_, kS1b_, S_lm, kLm_bor, kLm_own, kLmb_, S_tab, o_ixT, o_ixS, S_put, kPut_, kPutK_, S_zip2, kZip_, kZipb_tup, o_sum, o_sumB, o_tupB, o_tupL, o_lenT, S_range1, kRng_3, S_tgtL, kTgtL_, List.nil_append, List.cons_append, Nat.reduceLT, SZ, forall_const, true_implies, es, addT]
        refine ⟨by simp only [hml, SZ, List.length_cons, List.length_nil]; omega, ?_⟩
        try simp only [S_var, S_C, S_op1, k1_, S_op2, k2_, k2b_, S_nil, S_cons, kc_, kcb_, S_opN, kN_, S_tup, S_lst, kT_u, kL_u, stoL_nil, stoL_dat, stoL_own, consO_some, SatO_some, S_call, kCall_u, S_if, S_ifS, kI_true, kI_false, S_andV, S_orV, kAndV_true, kAndV_false, kOrV_true, kOrV_false, S_test, kTest_, S_tru, kTru_, S_and, S_or, S_not, kAnd_true, kAnd_false, kOr_true, kOr_false, kNot_, S_seq, kS_nx, kS_rt, kS_bk, kS_ct, S_pass, S_set, kSet_dat, kSet_own, S_par, kP_, kPb_, S_ret', kR_, S_retN, S_break, S_cont, S_for, kF_, S_forNil, kFb_nx, kFb_ct, kFb_bk, kFb_rt, S_items, kItems_tup, kItems_lst, kItems_own, S_lc, kLc_, S_lcNil, S_yes, kD_rt, kD_nx, Rv.ret, gt, st, kVar_dat, kVar_own, o_add, o_sub, o_eq, o_ne, o_lt, o_le, o_gt, o_ge, o_eqB, o_neB, o_is2, o_isnot2, o_abs, o_ix, o_ixO, o_ixB, o_ixL, o_tupO, o_isBool, map_some', wp, tgN_, List.length_cons, List.length_nil, Nat.reduceAdd, Nat.reduceLeDiff, true_and, decide_true, decide_false, Bool.not_true, Bool.not_false, o_mul_u, o_div_u, o_mod_u, o_pow_u, o_eqS, o_neS, o_intB, o_lenS, o_lenO, o_lenB, o_iaddI, S_s1, kS1_, kS1b_, S_lm, kLm_bor, kLm_own, kLmb_, S_tab, o_ixT, o_ixS, S_put, kPut_, kPutK_, S_zip2, kZip_, kZipb_tup, o_sum, o_sumB, o_tupB, o_tupL, o_lenT, S_range1, kRng_3, S_tgtL, kTgtL_, List.nil_append, List.cons_append, Nat.reduceLT, SZ, forall_const, true_implies]
        have := put vs.length vs.length [vd w] (by omega) (by omega) smw (by simp) (by omega) (by omega)
        rw [List.take_of_length_le (by rw [hml]; exact Nat.le_refl _), List.drop_of_length_le (by rw [hml]; exact Nat.le_refl _), List.append_nil] at this
        exact q _ s2 this (h2.le (by omega))
      · simp only [S_var, S_C, S_op1, k1_, S_op2, k2_, k2b_, S_nil, S_cons, kc_, kcb_, S_opN, kN_, S_tup, S_lst, kT_u, kL_u, stoL_nil, stoL_dat, stoL_own, consO_some, SatO_some, S_call, kCall_u, S_if, S_ifS, kI_true, kI_false, S_andV, S_orV, kAndV_true, kAndV_false, kOrV_true, kOrV_false, S_test, kTest_, S_tru, kTru_, S_and, S_or, S_not, kAnd_true, kAnd_false, kOr_true, kOr_false, kNot_, S_seq, kS_nx, kS_rt, kS_bk, kS_ct, S_pass, S_set, kSet_dat, kSet_own, S_par, kP_, kPb_, S_ret', kR_, S_retN, S_break, S_cont, S_for, kF_, S_forNil, kFb_nx, kFb_ct, kFb_bk, kFb_rt, S_items, kItems_tup, kItems_lst, kItems_own, S_lc, kLc_, S_lcNil, S_yes, kD_rt, kD_nx, Rv.ret, gt, st, kVar_dat, kVar_own, o_add, o_sub, o_eq, o_ne, o_lt, o_le, o_gt, o_ge, o_eqB, o_neB, o_is2, o_isnot2, o_abs, o_ix, o_ixO, o_ixB, o_ixL, o_tupO, o_isBool, map_some', wp, tgN_, List.length_cons, List.length_nil, Nat.reduceAdd, Nat.reduceLeDiff, true_and, decide_true, decide_false, Bool.not_true, Bool.not_false, o_mul_u, o_div_u, o_mod_u, o_pow_u, o_eqS, o_neS, o_intB, o_lenS, o_lenO, o_lenB, o_iaddI, S_s1, kS1_, kS1b_, S_lm, kLm_bor, kLm_own, kLmb_, S_tab, o_ixT, o_ixS, S_put, kPut_, kPutK_, S_zip2, kZip_, kZipb_tup, o_sum, o_sumB, o_tupB, o_tupL, o_lenT, S_range1, kRng_3, S_tgtL, kTgtL_, List.nil_append, List.cons_append, Nat.reduceLT, SZ, forall_const, true_implies, S_cutH, S_cutL, es, hiT, loT, addT]
        refine ⟨by rw [List.length_take, hml]; ((try simp only [List.length_append, List.length_take, List.length_drop, List.length_cons, List.length_nil, SZ]); omega), ?_⟩
        try simp only [S_var, S_C, S_op1, k1_, S_op2, k2_, k2b_, S_nil, S_cons, kc_, kcb_, S_opN, kN_, S_tup, S_lst, kT_u, kL_u, stoL_nil, stoL_dat, stoL_own, consO_some, SatO_some, S_call, kCall_u, S_if, S_ifS, kI_true, kI_false, S_andV, S_orV, kAndV_true, kAndV_false, kOrV_true, kOrV_false, S_test, kTest_, S_tru, kTru_, S_and, S_or, S_not, kAnd_true, kAnd_false, kOr_true, kOr_false, kNot_, S_seq, kS_nx, kS_rt, kS_bk, kS_ct, S_pass, S_set, kSet_dat, kSet_own, S_par, kP_, kPb_, S_ret', kR_, S_retN, S_break, S_cont, S_for, kF_, S_forNil, kFb_nx, kFb_ct, kFb_bk, kFb_rt, S_items, kItems_tup, kItems_lst, kItems_own, S_lc, kLc_, S_lcNil, S_yes, kD_rt, kD_nx, Rv.ret, gt, st, kVar_dat, kVar_own, o_add, o_sub, o_eq, o_ne, o_lt, o_le, o_gt, o_ge, o_eqB, o_neB, o_is2, o_isnot2, o_abs, o_ix, o_ixO, o_ixB, o_ixL, o_tupO, o_isBool, map_some', wp, tgN_, List.length_cons, List.length_nil, Nat.reduceAdd, Nat.reduceLeDiff, true_and, decide_true, decide_false, Bool.not_true, Bool.not_false, o_mul_u, o_div_u, o_mod_u, o_pow_u, o_eqS, o_neS, o_intB, o_lenS, o_lenO, o_lenB, o_iaddI, S_s1, kS1_, kS1b_, S_lm, kLm_bor, kLm_own, kLmb_, S_tab, o_ixT, o_ixS, S_put, kPut_, kPutK_, S_zip2, kZip_, kZipb_tup, o_sum, o_sumB, o_tupB, o_tupL, o_lenT, S_range1, kRng_3, S_tgtL, kTgtL_, List.nil_append, List.cons_append, Nat.reduceLT, SZ, forall_const, true_implies, S_cutL, loT, addT]
        refine ⟨by simp only [List.length_append, List.length_take, List.length_drop, hml, SZ, List.length_cons, List.length_nil]; omega, ?_⟩
        try simp only [S_var, S_C, S_op1, k1_, S_op2, k2_, k2b_, S_nil, S_cons, kc_, kcb_, S_opN, kN_, S_tup, S_lst, kT_u, kL_u, stoL_nil, stoL_dat, stoL_own, consO_some, SatO_some, S_call, kCall_u, S_if, S_ifS, kI_true, kI_false, S_andV, S_orV, kAndV_true, kAndV_false, kOrV_true, kOrV_false, S_test, kTest_, S_tru, kTru_, S_and, S_or, S_not, kAnd_true, kAnd_false, kOr_true, kOr_false, kNot_, S_seq, kS_nx, kS_rt, kS_bk, kS_ct, S_pass, S_set, kSet_dat, kSet_own, S_par, kP_, kPb_, S_ret', kR_, S_retN, S_break, S_cont, S_for, kF_, S_forNil, kFb_nx, kFb_ct, kFb_bk, kFb_rt, S_items, kItems_tup, kItems_lst, kItems_own, S_lc, kLc_, S_lcNil, S_yes, kD_rt, kD_nx, Rv.ret, gt, st, kVar_dat, kVar_own, o_add, o_sub, o_eq, o_ne, o_lt, o_le, o_gt, o_ge, o_eqB, o_neB, o_is2, o_isnot2, o_abs, o_ix, o_ixO, o_ixB, o_ixL, o_tupO, o_isBool, map_some', wp, tgN_, List.length_cons, List.length_nil, Nat.reduceAdd, Nat.reduceLeDiff, true_and, decide_true, decide_false, Bool.not_true, Bool.not_false, o_mul_u, o_div_u, o_mod_u, o_pow_u, o_eqS, o_neS, o_intB, o_lenS, o_lenO, o_lenB, o_iaddI, S_s1, kS1_, kS1b_, S_lm, kLm_bor, kLm_own, kLmb_, S_tab, o_ixT, o_ixS, S_put, kPut_, kPutK_, S_zip2, kZip_, kZipb_tup, o_sum, o_sumB, o_tupB, o_tupL, o_lenT, S_range1, kRng_3, S_tgtL, kTgtL_, List.nil_append, List.cons_append, Nat.reduceLT, SZ, forall_const, true_implies]
        exact q _ s2 (put i i _ (by omega) (by omega) smw (by simp) (by omega) (by omega)) (h2.le (by omega))
  simp only [S_var, S_C, S_op1, k1_, S_op2, k2_, k2b_, S_nil, S_cons, kc_, kcb_, S_opN, kN_, S_tup, S_lst, kT_u, kL_u, stoL_nil, stoL_dat, stoL_own, consO_some, SatO_some, S_call, kCall_u, S_if, S_ifS, kI_true, kI_false, S_andV, S_orV, kAndV_true, kAndV_false, kOrV_true, kOrV_false, S_test, kTest_, S_tru, kTru_, S_and, S_or, S_not, kAnd_true, kAnd_false, kOr_true, kOr_false, kNot_, S_seq, kS_nx, kS_rt, kS_bk, kS_ct, S_pass, S_set, kSet_dat, kSet_own, S_par, kP_, kPb_, S_ret', kR_, S_retN, S_break, S_cont, S_for, kF_, S_forNil, kFb_nx, kFb_ct, kFb_bk, kFb_rt, S_items, kItems_tup, kItems_lst, kItems_own, S_lc, kLc_, S_lcNil, S_yes, kD_rt, kD_nx, Rv.ret, gt, st, kVar_dat, kVar_own, o_add, o_sub, o_eq, o_ne, o_lt, o_le, o_gt, o_ge, o_eqB, o_neB, o_is2, o_isnot2, o_abs, o_ix, o_ixO, o_ixB, o_ixL, o_tupO, o_isBool, map_some', wp, tgN_, List.length_cons, List.length_nil, Nat.reduceAdd, Nat.reduceLeDiff, true_and, decide_true, decide_false, Bool.not_true, Bool.not_false, o_mul_u, o_div_u, o_mod_u, o_pow_u, o_eqS, o_neS, o_intB, o_lenS, o_lenO, o_lenB, o_iaddI, S_s1, kS1_, kS1b_, S_lm, kLm_bor, kLm_own, kLmb_, S_tab, o_ixT, o_ixS, S_put, kPut_, kPutK_, S_zip2, kZip_, kZipb_tup, o_sum, o_sumB, o_tupB, o_tupL, o_lenT, S_range1, kRng_3, S_tgtL, kTgtL_, List.nil_append, List.cons_append, Nat.reduceLT, SZ, forall_const, true_implies]
  refine kI_d (fun _ => ?_) (fun _ => ?_)
  · simp only [S_var, S_C, S_op1, k1_, S_op2, k2_, k2b_, S_nil, S_cons, kc_, kcb_, S_opN, kN_, S_tup, S_lst, kT_u, kL_u, stoL_nil, stoL_dat, stoL_own, consO_some, SatO_some, S_call, kCall_u, S_if, S_ifS, kI_true, kI_false, S_andV, S_orV, kAndV_true, kAndV_false, kOrV_true, kOrV_false, S_test, kTest_, S_tru, kTru_, S_and, S_or, S_not, kAnd_true, kAnd_false, kOr_true, kOr_false, kNot_, S_seq, kS_nx, kS_rt, kS_bk, kS_ct, S_pass, S_set, kSet_dat, kSet_own, S_par, kP_, kPb_, S_ret', kR_, S_retN, S_break, S_cont, S_for, kF_, S_forNil, kFb_nx, kFb_ct, kFb_bk, kFb_rt, S_items, kItems_tup, kItems_lst, kItems_own, S_lc, kLc_, S_lcNil, S_yes, kD_rt, kD_nx, Rv.ret, gt, st, kVar_dat, kVar_own, o_add, o_sub, o_eq, o_ne, o_lt, o_le, o_gt, o_ge, o_eqB, o_neB, o_is2, o_isnot2, o_abs, o_ix, o_ixO, o_ixB, o_ixL, o_tupO, o_isBool, map_some', wp, tgN_, List.length_cons, List.length_nil, Nat.reduceAdd, Nat.reduceLeDiff, true_and, decide_true, decide_false, Bool.not_true, Bool.not_false, o_mul_u, o_div_u, o_mod_u, o_pow_u, o_eqS, o_neS, o_intB, o_lenS, o_lenO, o_lenB, o_iaddI, S_s1, kS1_, kS1b_, S_lm, kLm_bor, kLm_own, kLmb_, S_tab, o_ixT, o_ixS, S_put, kPut_, kPutK_, S_zip2, kZip_, kZipb_tup, o_sum, o_sumB, o_tupB, o_tupL, o_lenT, S_range1, kRng_3, S_tgtL, kTgtL_, List.nil_append, List.cons_append, Nat.reduceLT, SZ, forall_const, true_implies, S_cutH, S_cutL, es, hiT, loT1, addT]
    refine S_numAmiss hv.2 (b := b + 1) h1 fun d s2 hd h2 => ?_
    simp only [S_var, S_C, S_op1, k1_, S_op2, k2_, k2b_, S_nil, S_cons, kc_, kcb_, S_opN, kN_, S_tup, S_lst, kT_u, kL_u, stoL_nil, stoL_dat, stoL_own, consO_some, SatO_some, S_call, kCall_u, S_if, S_ifS, kI_true, kI_false, S_andV, S_orV, kAndV_true, kAndV_false, kOrV_true, kOrV_false, S_test, kTest_, S_tru, kTru_, S_and, S_or, S_not, kAnd_true, kAnd_false, kOr_true, kOr_false, kNot_, S_seq, kS_nx, kS_rt, kS_bk, kS_ct, S_pass, S_set, kSet_dat, kSet_own, S_par, kP_, kPb_, S_ret', kR_, S_retN, S_break, S_cont, S_for, kF_, S_forNil, kFb_nx, kFb_ct, kFb_bk, kFb_rt, S_items, kItems_tup, kItems_lst, kItems_own, S_lc, kLc_, S_lcNil, S_yes, kD_rt, kD_nx, Rv.ret, gt, st, kVar_dat, kVar_own, o_add, o_sub, o_eq, o_ne, o_lt, o_le, o_gt, o_ge, o_eqB, o_neB, o_is2, o_isnot2, o_abs, o_ix, o_ixO, o_ixB, o_ixL, o_tupO, o_isBool, map_some', wp, tgN_, List.length_cons, List.length_nil, Nat.reduceAdd, Nat.reduceLeDiff, true_and, decide_true, decide_false, Bool.not_true, Bool.not_false, o_mul_u, o_div_u, o_mod_u, o_pow_u, o_eqS, o_neS, o_intB, o_lenS, o_lenO, o_lenB, o_iaddI, S_s1, kS1_, kS1b_, S_lm, kLm_bor, kLm_own, kLmb_, S_tab, o_ixT, o_ixS, S_put, kPut_, kPutK_, S_zip2, kZip_, kZipb_tup, o_sum, o_sumB, o_tupB, o_tupL, o_lenT, S_range1, kRng_3, S_tgtL, kTgtL_, List.nil_append, List.cons_append, Nat.reduceLT, SZ, forall_const, true_implies, addT]
    refine ⟨by rw [List.length_take, hml]; ((try simp only [List.length_append, List.length_take, List.length_drop, List.length_cons, List.length_nil, SZ]); omega), ?_⟩
    try simp only [S_var, S_C, S_op1, k1_, S_op2, k2_, k2b_, S_nil, S_cons, kc_, kcb_, S_opN, kN_, S_tup, S_lst, kT_u, kL_u, stoL_nil, stoL_dat, stoL_own, consO_some, SatO_some, S_call, kCall_u, S_if, S_ifS, kI_true, kI_false, S_andV, S_orV, kAndV_true, kAndV_false, kOrV_true, kOrV_false, S_test, kTest_, S_tru, kTru_, S_and, S_or, S_not, kAnd_true, kAnd_false, kOr_true, kOr_false, kNot_, S_seq, kS_nx, kS_rt, kS_bk, kS_ct, S_pass, S_set, kSet_dat, kSet_own, S_par, kP_, kPb_, S_ret', kR_, S_retN, S_break, S_cont, S_for, kF_, S_forNil, kFb_nx, kFb_ct, kFb_bk, kFb_rt, S_items, kItems_tup, kItems_lst, kItems_own, S_lc, kLc_, S_lcNil, S_yes, kD_rt, kD_nx, Rv.ret, gt, st, kVar_dat, kVar_own, o_add, o_sub, o_eq, o_ne, o_lt, o_le, o_gt, o_ge, o_eqB, o_neB, o_is2, o_isnot2, o_abs, o_ix, o_ixO, o_ixB, o_ixL, o_tupO, o_isBool, map_some', wp, tgN_, List.length_cons, List.length_nil, Nat.reduceAdd, Nat.reduceLeDiff, true_and, decide_true, decide_false, Bool.not_true, Bool.not_false, o_mul_u, o_div_u, o_mod_u, o_pow_u, o_eqS, o_neS, o_intB, o_lenS, o_lenO, o_lenB, o_iaddI, S_s1, kS1_, kS1b_, S_lm, kLm_bor, kLm_own, kLmb_, S_tab, o_ixT, o_ixS, S_put, kPut_, kPutK_, S_zip2, kZip_, kZipb_tup, o_sum, o_sumB, o_tupB, o_tupL, o_lenT, S_range1, kRng_3, S_tgtL, kTgtL_, List.nil_append, List.cons_append, Nat.reduceLT, SZ, forall_const, true_implies, S_cutL, loT1, addT]
    refine ⟨by simp only [List.length_append, List.length_take, List.length_drop, hml, SZ, List.length_cons, List.length_nil]; omega, ?_⟩
    try simp only [S_var, S_C, S_op1, k1_, S_op2, k2_, k2b_, S_nil, S_cons, kc_, kcb_, S_opN, kN_, S_tup, S_lst, kT_u, kL_u, stoL_nil, stoL_dat, stoL_own, consO_some, SatO_some, S_call, kCall_u, S_if, S_ifS, kI_true, kI_false, S_andV, S_orV, kAndV_true, kAndV_false, kOrV_true, kOrV_false, S_test, kTest_, S_tru, kTru_, S_and, S_or, S_not, kAnd_true, kAnd_false, kOr_true, kOr_false, kNot_, S_seq, kS_nx, kS_rt, kS_bk, kS_ct, S_pass, S_set, kSet_dat, kSet_own, S_par, kP_, kPb_, S_ret', kR_, S_retN, S_break, S_cont, S_for, kF_, S_forNil, kFb_nx, kFb_ct, kFb_bk, kFb_rt, S_items, kItems_tup, kItems_lst, kItems_own, S_lc, kLc_, S_lcNil, S_yes, kD_rt, kD_nx, Rv.ret, gt, st, kVar_dat, kVar_own, o_add, o_sub, o_eq, o_ne, o_lt, o_le, o_gt, o_ge, o_eqB, o_neB, o_is2, o_isnot2, o_abs, o_ix, o_ixO, o_ixB, o_ixL, o_tupO, o_isBool, map_some', wp, tgN_, List.length_cons, List.length_nil, Nat.reduceAdd, Nat.reduceLeDiff, true_and, decide_true, decide_false, Bool.not_true, Bool.not_false, o_mul_u, o_div_u, o_mod_u, o_pow_u, o_eqS, o_neS, o_intB, o_lenS, o_lenO, o_lenB, o_iaddI, S_s1, kS1_, kS1b_, S_lm, kLm_bor, kLm_own, kLmb_, S_tab, o_ixT, o_ixS, S_put, kPut_, kPutK_, S_zip2, kZip_, kZipb_tup, o_sum, o_sumB, o_tupB, o_tupL, o_lenT, S_range1, kRng_3, S_tgtL, kTgtL_, List.nil_append, List.cons_append, Nat.reduceLT, SZ, forall_const, true_implies]
    exact q _ s2 (put i (i + 1) _ (by omega) (by omega) (fun d' hd' => by rw [List.mem_singleton.mp hd']; exact hd.up (Nat.le_refl _) (by omega)) (by simp) (by omega) (by omega)) (h2.le (by omega))
  have ev : vd v = .tup [.int v.1, .int v.2.1, .int v.2.2] := rfl
  have c2 : oCut (.dat (.tup [.int v.1, .int v.2.1, .int v.2.2])) none (some 2) = some (.dat (.tup [.int v.1, .int v.2.1])) := rfl
  have a2 : oAdd (.dat (.tup [.int v.1, .int v.2.1, .int v.2.2])) (.dat (.tup [.int 0])) = some (.dat (.tup [.int v.1, .int v.2.1, .int v.2.2, .int 0])) := rfl
  simp only [S_var, S_C, S_op1, k1_, S_op2, k2_, k2b_, S_nil, S_cons, kc_, kcb_, S_opN, kN_, S_tup, S_lst, kT_u, kL_u, stoL_nil, stoL_dat, stoL_own, consO_some, SatO_some, S_call, kCall_u, S_if, S_ifS, kI_true, kI_false, S_andV, S_orV, kAndV_true, kAndV_false, kOrV_true, kOrV_false, S_test, kTest_, S_tru, kTru_, S_and, S_or, S_not, kAnd_true, kAnd_false, kOr_true, kOr_false, kNot_, S_seq, kS_nx, kS_rt, kS_bk, kS_ct, S_pass, S_set, kSet_dat, kSet_own, S_par, kP_, kPb_, S_ret', kR_, S_retN, S_break, S_cont, S_for, kF_, S_forNil, kFb_nx, kFb_ct, kFb_bk, kFb_rt, S_items, kItems_tup, kItems_lst, kItems_own, S_lc, kLc_, S_lcNil, S_yes, kD_rt, kD_nx, Rv.ret, gt, st, kVar_dat, kVar_own, o_add, o_sub, o_eq, o_ne, o_lt, o_le, o_gt, o_ge, o_eqB, o_neB, o_is2, o_isnot2, o_abs, o_ix, o_ixO, o_ixB, o_ixL, o_tupO, o_isBool, map_some', wp, tgN_, List.length_cons, List.length_nil, Nat.reduceAdd, Nat.reduceLeDiff, true_and, decide_true, decide_false, Bool.not_true, Bool.not_false, o_mul_u, o_div_u, o_mod_u, o_pow_u, o_eqS, o_neS, o_intB, o_lenS, o_lenO, o_lenB, o_iaddI, S_s1, kS1_, kS1b_, S_lm, kLm_bor, kLm_own, kLmb_, S_tab, o_ixT, o_ixS, S_put, kPut_, kPutK_, S_zip2, kZip_, kZipb_tup, o_sum, o_sumB, o_tupB, o_tupL, o_lenT, S_range1, kRng_3, S_tgtL, kTgtL_, List.nil_append, List.cons_append, Nat.reduceLT, SZ, forall_const, true_implies, S_cutH, kHi, ev, c2, a2]
  refine S_drawN (n := 8) (b := b + 2) h1 (by decide) (by decide) fun j s2 hj h2 => ?_
  have big : (2 : Nat) ^ 400 ≤ 2 ^ 900 := Nat.pow_le_pow_right (by decide) (by decide)
  have si : ∀ (m : Nat) (x : Int), x.natAbs < 2 ^ 400 → Sm 60 m (.int x) := fun m x hx => sm_int (by omega)
  have sv := sm_vd (n := 400) (L := 60) (m := 2) (v := v) hv.2 (by decide) (by decide)
  obtain ⟨y, hy, sy⟩ : ∃ y, oIx (.own [.non, .int 7, .str [99, 111, 114, 110, 101, 114], .bl true, .tup [.int 0, .int 0, .int 0], .tup [.int v.1, .int v.2.1], .tup [.int v.1, .int v.2.1, .int v.2.2, .int 0], .tup [.tup [.int v.1, .int v.2.1, .int v.2.2]]]) (.dat (.int (j : Nat))) = some (.dat y) ∧ Sm 60 4 y := by
    rcases (by omega : j = 0 ∨ j = 1 ∨ j = 2 ∨ j = 3 ∨ j = 4 ∨ j = 5 ∨ j = 6 ∨ j = 7) with rfl | rfl | rfl | rfl | rfl | rfl | rfl | rfl
    · exact ⟨_, rfl, trivial⟩
    · exact ⟨_, rfl, sm_int (by decide)⟩
    · exact ⟨_, rfl, (by show 6 ≤ 500; decide)⟩
    · exact ⟨_, rfl, trivial⟩
    · exact ⟨_, rfl, ⟨by simp, fun d hd => by
        simp only [List.mem_cons, List.not_mem_nil, or_false, or_self] at hd
        rw [hd]
        exact sm_int (by decide)⟩⟩
    · exact ⟨_, rfl, ⟨by simp, fun d hd => by
        simp only [List.mem_cons, List.not_mem_nil, or_false] at hd
        rcases hd with rfl | rfl
        · exact si _ _ hv.2.x
        · exact si _ _ hv.2.y⟩⟩
    · exact ⟨_, rfl, ⟨by simp, fun d hd => by
        simp only [List.mem_cons, List.not_mem_nil, or_false] at hd
        rcases hd with rfl | rfl | rfl | rfl
        · exact si _ _ hv.2.x
        · exact si _ _ hv.2.y
        · exact si _ _ hv.2.z
        · exact sm_int (by decide)⟩⟩
    · exact ⟨_, rfl, ⟨by simp, fun d hd => by
        rw [List.mem_singleton.mp hd]
        exact sv⟩⟩
  rw [k2b_, hy]
  simp only [S_var, S_C, S_op1, k1_, S_op2, k2_, k2b_, S_nil, S_cons, kc_, kcb_, S_opN, kN_, S_tup, S_lst, kT_u, kL_u, stoL_nil, stoL_dat, stoL_own, consO_some, SatO_some, S_call, kCall_u, S_if, S_ifS, kI_true, kI_false, S_andV, S_orV, kAndV_true, kAndV_false, kOrV_true, kOrV_false, S_test, kTest_, S_tru, kTru_, S_and, S_or, S_not, kAnd_true, kAnd_false, kOr_true, kOr_false, kNot_, S_seq, kS_nx, kS_rt, kS_bk, kS_ct, S_pass, S_set, kSet_dat, kSet_own, S_par, kP_, kPb_, S_ret', kR_, S_retN, S_break, S_cont, S_for, kF_, S_forNil, kFb_nx, kFb_ct, kFb_bk, kFb_rt, S_items, kItems_tup, kItems_lst, kItems_own, S_lc, kLc_, S_lcNil, S_yes, kD_rt, kD_nx, Rv.ret, gt, st, kVar_dat, kVar_own, o_add, o_sub, o_eq, o_ne, o_lt, o_le, o_gt, o_ge, o_eqB, o_neB, o_is2, o_isnot2, o_abs, o_ix, o_ixO, o_ixB, o_ixL, o_tupO, o_isBool, map_some', wp, tgN_, List.length_cons, List.length_nil, Nat.reduceAdd, Nat.reduceLeDiff, true_and, decide_true, decide_false, Bool.not_true, Bool.not_false, o_mul_u, o_div_u, o_mod_u, o_pow_u, o_eqS, o_neS, o_intB, o_lenS, o_lenO, o_lenB, o_iaddI, S_s1, kS1_, kS1b_, S_lm, kLm_bor, kLm_own, kLmb_, S_tab, o_ixT, o_ixS, S_put, kPut_, kPutK_, S_zip2, kZip_, kZipb_tup, o_sum, o_sumB, o_tupB, o_tupL, o_lenT, S_range1, kRng_3, S_tgtL, kTgtL_, List.nil_append, List.cons_append, Nat.reduceLT, SZ, forall_const, true_implies, S_cutH, es, hiT, addT]
  refine ⟨by rw [List.length_take, hml]; ((try simp only [List.length_append, List.length_take, List.length_drop, List.length_cons, List.length_nil, SZ]); omega), ?_⟩
  try simp only [S_var, S_C, S_op1, k1_, S_op2, k2_, k2b_, S_nil, S_cons, kc_, kcb_, S_opN, kN_, S_tup, S_lst, kT_u, kL_u, stoL_nil, stoL_dat, stoL_own, consO_some, SatO_some, S_call, kCall_u, S_if, S_ifS, kI_true, kI_false, S_andV, S_orV, kAndV_true, kAndV_false, kOrV_true, kOrV_false, S_test, kTest_, S_tru, kTru_, S_and, S_or, S_not, kAnd_true, kAnd_false, kOr_true, kOr_false, kNot_, S_seq, kS_nx, kS_rt, kS_bk, kS_ct, S_pass, S_set, kSet_dat, kSet_own, S_par, kP_, kPb_, S_ret', kR_, S_retN, S_break, S_cont, S_for, kF_, S_forNil, kFb_nx, kFb_ct, kFb_bk, kFb_rt, S_items, kItems_tup, kItems_lst, kItems_own, S_lc, kLc_, S_lcNil, S_yes, kD_rt, kD_nx, Rv.ret, gt, st, kVar_dat, kVar_own, o_add, o_sub, o_eq, o_ne, o_lt, o_le, o_gt, o_ge, o_eqB, o_neB, o_is2, o_isnot2, o_abs, o_ix, o_ixO, o_ixB, o_ixL, o_tupO, o_isBool, map_some', wp, tgN_, List.length_cons, List.length_nil, Nat.reduceAdd, Nat.reduceLeDiff, true_and, decide_true, decide_false, Bool.not_true, Bool.not_false, o_mul_u, o_div_u, o_mod_u, o_pow_u, o_eqS, o_neS, o_intB, o_lenS, o_lenO, o_lenB, o_iaddI, S_s1, kS1_, kS1b_, S_lm, kLm_bor, kLm_own, kLmb_, S_tab, o_ixT, o_ixS, S_put, kPut_, kPutK_, S_zip2, kZip_, kZipb_tup, o_sum, o_sumB, o_tupB, o_tupL, o_lenT, S_range1, kRng_3, S_tgtL, kTgtL_, List.nil_append, List.cons_append, Nat.reduceLT, SZ, forall_const, true_implies, S_cutL, loT1, addT]
  refine ⟨by simp only [List.length_append, List.length_take, List.length_drop, hml, SZ, List.length_cons, List.length_nil]; omega, ?_⟩
  try simp only [S_var, S_C, S_op1, k1_, S_op2, k2_, k2b_, S_nil, S_cons, kc_, kcb_, S_opN, kN_, S_tup, S_lst, kT_u, kL_u, stoL_nil, stoL_dat, stoL_own, consO_some, SatO_some, S_call, kCall_u, S_if, S_ifS, kI_true, kI_false, S_andV, S_orV, kAndV_true, kAndV_false, kOrV_true, kOrV_false, S_test, kTest_, S_tru, kTru_, S_and, S_or, S_not, kAnd_true, kAnd_false, kOr_true, kOr_false, kNot_, S_seq, kS_nx, kS_rt, kS_bk, kS_ct, S_pass, S_set, kSet_dat, kSet_own, S_par, kP_, kPb_, S_ret', kR_, S_retN, S_break, S_cont, S_for, kF_, S_forNil, kFb_nx, kFb_ct, kFb_bk, kFb_rt, S_items, kItems_tup, kItems_lst, kItems_own, S_lc, kLc_, S_lcNil, S_yes, kD_rt, kD_nx, Rv.ret, gt, st, kVar_dat, kVar_own, o_add, o_sub, o_eq, o_ne, o_lt, o_le, o_gt, o_ge, o_eqB, o_neB, o_is2, o_isnot2, o_abs, o_ix, o_ixO, o_ixB, o_ixL, o_tupO, o_isBool, map_some', wp, tgN_, List.length_cons, List.length_nil, Nat.reduceAdd, Nat.reduceLeDiff, true_and, decide_true, decide_false, Bool.not_true, Bool.not_false, o_mul_u, o_div_u, o_mod_u, o_pow_u, o_eqS, o_neS, o_intB, o_lenS, o_lenO, o_lenB, o_iaddI, S_s1, kS1_, kS1b_, S_lm, kLm_bor, kLm_own, kLmb_, S_tab, o_ixT, o_ixS, S_put, kPut_, kPutK_, S_zip2, kZip_, kZipb_tup, o_sum, o_sumB, o_tupB, o_tupL, o_lenT, S_range1, kRng_3, S_tgtL, kTgtL_, List.nil_append, List.cons_append, Nat.reduceLT, SZ, forall_const, true_implies]
  exact q _ s2 (put i (i + 1) _ (by omega) (by omega) (fun d' hd' => by rw [List.mem_singleton.mp hd']; exact sy) (by simp) (by omega) (by omega)) (h2.le (by omega))
theorem S_amiss {a b way : Nat} {vs : List V3} {s : LS} {Q : Rv → LS → Prop} (hS : ShpS 400 48 vs) (hb : Bud a (b + 4) s) (q : ∀ d s', Sm 100 5 d → Bud a b s' → Q (.dat d) s') : Sat (F__law_amiss [.ref a, shp vs, .int (way : Nat)] s) Q := by
  have hle := hS.le
  have hge := hS.ge
  unfold F__law_amiss
  rw [S_def (k := 3) (ds := [.ref a, shp vs, .int (way : Nat)]) rfl]
  show Sat (m__law_amiss [.dat (.ref a), .dat (shp vs), .dat (.int (way : Nat)), .un, .un, .un, .un] s) _
  unfold m__law_amiss
  rw [e_draw]
  have es : shp vs = .tup (vs.map vd) := rfl
  have hml : (vs.map vd).length = vs.length := List.length_map ..
  have hsm : ∀ d ∈ vs.map vd, Sm 100 4 d := fun d hd => (sm_shp hS d hd).up (by decide) (by decide)
  have all : ∀ ds : List D, ds.length ≤ 100 → (∀ d ∈ ds, d ∈ vs.map vd) → Sm 100 5 (.tup ds) := fun ds h1 h2 => ⟨h1, fun d hd => hsm d (h2 d hd)⟩
  simp only [S_var, S_C, S_op1, k1_, S_op2, k2_, k2b_, S_nil, S_cons, kc_, kcb_, S_opN, kN_, S_tup, S_lst, kT_u, kL_u, stoL_nil, stoL_dat, stoL_own, consO_some, SatO_some, S_call, kCall_u, S_if, S_ifS, kI_true, kI_false, S_andV, S_orV, kAndV_true, kAndV_false, kOrV_true, kOrV_false, S_test, kTest_, S_tru, kTru_, S_and, S_or, S_not, kAnd_true, kAnd_false, kOr_true, kOr_false, kNot_, S_seq, kS_nx, kS_rt, kS_bk, kS_ct, S_pass, S_set, kSet_dat, kSet_own, S_par, kP_, kPb_, S_ret', kR_, S_retN, S_break, S_cont, S_for, kF_, S_forNil, kFb_nx, kFb_ct, kFb_bk, kFb_rt, S_items, kItems_tup, kItems_lst, kItems_own, S_lc, kLc_, S_lcNil, S_yes, kD_rt, kD_nx, Rv.ret, gt, st, kVar_dat, kVar_own, o_add, o_sub, o_eq, o_ne, o_lt, o_le, o_gt, o_ge, o_eqB, o_neB, o_is2, o_isnot2, o_abs, o_ix, o_ixO, o_ixB, o_ixL, o_tupO, o_isBool, map_some', wp, tgN_, List.length_cons, List.length_nil, Nat.reduceAdd, Nat.reduceLeDiff, true_and, decide_true, decide_false, Bool.not_true, Bool.not_false, o_mul_u, o_div_u, o_mod_u, o_pow_u, o_eqS, o_neS, o_intB, o_lenS, o_lenO, o_lenB, o_iaddI, S_s1, kS1_, kS1b_, S_lm, kLm_bor, kLm_own, kLmb_, S_tab, o_ixT, o_ixS, S_put, kPut_, kPutK_, S_zip2, kZip_, kZipb_tup, o_sum, o_sumB, o_tupB, o_tupL, o_lenT, S_range1, kRng_3, S_tgtL, kTgtL_, List.nil_append, List.cons_append, Nat.reduceLT, SZ, forall_const, true_implies]
  refine kI_d (fun _ => ?_) (fun _ => ?_)
  · simp only [S_var, S_C, S_op1, k1_, S_op2, k2_, k2b_, S_nil, S_cons, kc_, kcb_, S_opN, kN_, S_tup, S_lst, kT_u, kL_u, stoL_nil, stoL_dat, stoL_own, consO_some, SatO_some, S_call, kCall_u, S_if, S_ifS, kI_true, kI_false, S_andV, S_orV, kAndV_true, kAndV_false, kOrV_true, kOrV_false, S_test, kTest_, S_tru, kTru_, S_and, S_or, S_not, kAnd_true, kAnd_false, kOr_true, kOr_false, kNot_, S_seq, kS_nx, kS_rt, kS_bk, kS_ct, S_pass, S_set, kSet_dat, kSet_own, S_par, kP_, kPb_, S_ret', kR_, S_retN, S_break, S_cont, S_for, kF_, S_forNil, kFb_nx, kFb_ct, kFb_bk, kFb_rt, S_items, kItems_tup, kItems_lst, kItems_own, S_lc, kLc_, S_lcNil, S_yes, kD_rt, kD_nx, Rv.ret, gt, st, kVar_dat, kVar_own, o_add, o_sub, o_eq, o_ne, o_lt, o_le, o_gt, o_ge, o_eqB, o_neB, o_is2, o_isnot2, o_abs, o_ix, o_ixO, o_ixB, o_ixL, o_tupO, o_isBool, map_some', wp, tgN_, List.length_cons, List.length_nil, Nat.reduceAdd, Nat.reduceLeDiff, true_and, decide_true, decide_false, Bool.not_true, Bool.not_false, o_mul_u, o_div_u, o_mod_u, o_pow_u, o_eqS, o_neS, o_intB, o_lenS, o_lenO, o_lenB, o_iaddI, S_s1, kS1_, kS1b_, S_lm, kLm_bor, kLm_own, kLmb_, S_tab, o_ixT, o_ixS, S_put, kPut_, kPutK_, S_zip2, kZip_, kZipb_tup, o_sum, o_sumB, o_tupB, o_tupL, o_lenT, S_range1, kRng_3, S_tgtL, kTgtL_, List.nil_append, List.cons_append, Nat.reduceLT, SZ, forall_const, true_implies, len_shp]
    refine S_drawN (n := vs.length) (b := b + 3) hb (by omega) (by omega) fun i s1 hi h1 => ?_
    simp only [S_var, S_C, S_op1, k1_, S_op2, k2_, k2b_, S_nil, S_cons, kc_, kcb_, S_opN, kN_, S_tup, S_lst, kT_u, kL_u, stoL_nil, stoL_dat, stoL_own, consO_some, SatO_some, S_call, kCall_u, S_if, S_ifS, kI_true, kI_false, S_andV, S_orV, kAndV_true, kAndV_false, kOrV_true, kOrV_false, S_test, kTest_, S_tru, kTru_, S_and, S_or, S_not, kAnd_true, kAnd_false, kOr_true, kOr_false, kNot_, S_seq, kS_nx, kS_rt, kS_bk, kS_ct, S_pass, S_set, kSet_dat, kSet_own, S_par, kP_, kPb_, S_ret', kR_, S_retN, S_break, S_cont, S_for, kF_, S_forNil, kFb_nx, kFb_ct, kFb_bk, kFb_rt, S_items, kItems_tup, kItems_lst, kItems_own, S_lc, kLc_, S_lcNil, S_yes, kD_rt, kD_nx, Rv.ret, gt, st, kVar_dat, kVar_own, o_add, o_sub, o_eq, o_ne, o_lt, o_le, o_gt, o_ge, o_eqB, o_neB, o_is2, o_isnot2, o_abs, o_ix, o_ixO, o_ixB, o_ixL, o_tupO, o_isBool, map_some', wp, tgN_, List.length_cons, List.length_nil, Nat.reduceAdd, Nat.reduceLeDiff, true_and, decide_true, decide_false, Bool.not_true, Bool.not_false, o_mul_u, o_div_u, o_mod_u, o_pow_u, o_eqS, o_neS, o_intB, o_lenS, o_lenO, o_lenB, o_iaddI, S_s1, kS1_, kS1b_, S_lm, kLm_bor, kLm_own, kLmb_, S_tab, o_ixT, o_ixS, S_put, kPut_, kPutK_, S_zip2, kZip_, kZipb_tup, o_sum, o_sumB, o_tupB, o_tupL, o_lenT, S_range1, kRng_3, S_tgtL, kTgtL_, List.nil_append, List.cons_append, Nat.reduceLT, SZ, forall_const, true_implies, len_shp]
    refine S_drawN (n := vs.length) (b := b + 2) h1 (by omega) (by omega) fun j s2 hj h2 => ?_
    have el : oList [.dat (shp vs)] = some (.own (vs.map vd)) := rfl
    have hi' : i < (vs.map vd).length := by rw [hml]; exact hi
    have hj' : j < (vs.map vd).length := by rw [hml]; exact hj
    have ixi := ixT hi'
    have ixj := ixT hj'
    simp only [S_var, S_C, S_op1, k1_, S_op2, k2_, k2b_, S_nil, S_cons, kc_, kcb_, S_opN, kN_, S_tup, S_lst, kT_u, kL_u, stoL_nil, stoL_dat, stoL_own, consO_some, SatO_some, S_call, kCall_u, S_if, S_ifS, kI_true, kI_false, S_andV, S_orV, kAndV_true, kAndV_false, kOrV_true, kOrV_false, S_test, kTest_, S_tru, kTru_, S_and, S_or, S_not, kAnd_true, kAnd_false, kOr_true, kOr_false, kNot_, S_seq, kS_nx, kS_rt, kS_bk, kS_ct, S_pass, S_set, kSet_dat, kSet_own, S_par, kP_, kPb_, S_ret', kR_, S_retN, S_break, S_cont, S_for, kF_, S_forNil, kFb_nx, kFb_ct, kFb_bk, kFb_rt, S_items, kItems_tup, kItems_lst, kItems_own, S_lc, kLc_, S_lcNil, S_yes, kD_rt, kD_nx, Rv.ret, gt, st, kVar_dat, kVar_own, o_add, o_sub, o_eq, o_ne, o_lt, o_le, o_gt, o_ge, o_eqB, o_neB, o_is2, o_isnot2, o_abs, o_ix, o_ixO, o_ixB, o_ixL, o_tupO, o_isBool, map_some', wp, tgN_, List.length_cons, List.length_nil, Nat.reduceAdd, Nat.reduceLeDiff, true_and, decide_true, decide_false, Bool.not_true, Bool.not_false, o_mul_u, o_div_u, o_mod_u, o_pow_u, o_eqS, o_neS, o_intB, o_lenS, o_lenO, o_lenB, o_iaddI, S_s1, kS1_, kS1b_, S_lm, kLm_bor, kLm_own, kLmb_, S_tab, o_ixT, o_ixS, S_put, kPut_, kPutK_, S_zip2, kZip_, kZipb_tup, o_sum, o_sumB, o_tupB, o_tupL, o_lenT, S_range1, kRng_3, S_tgtL, kTgtL_, List.nil_append, List.cons_append, Nat.reduceLT, SZ, forall_const, true_implies, el]
    have asg : Sat (mAsgN [tkPut 5 (mVar 3), tkPut 5 (mVar 4)] (mTup (mCons (mOp2 oIx (mVar 1) (mVar 4)) (mCons (mOp2 oIx (mVar 1) (mVar 3)) mNil))) [.dat (.ref a), .dat (shp vs), .dat (.int (way : Nat)), .dat (.int (i : Nat)), .dat (.int (j : Nat)), .own (vs.map vd), .un] s2) (fun f g => f = .nx [.dat (.ref a), .dat (shp vs), .dat (.int (way : Nat)), .dat (.int (i : Nat)), .dat (.int (j : Nat)), .own (((vs.map vd).set i (vs.map vd)[j]).set j (vs.map vd)[i]), .un] ∧ g = s2) := by
      have x1 : ixN (vs.map vd).length ((i : Nat) : Int) = some i := ixNnat hi'
      have x2 : ixN ((vs.map vd).set i (vs.map vd)[j]).length ((j : Nat) : Int) = some j := ixNnat (by rw [List.length_set]; exact hj')
      have e1 : (mTup (mCons (mOp2 oIx (mVar 1) (mVar 4)) (mCons (mOp2 oIx (mVar 1) (mVar 3)) mNil))) [.dat (.ref a), .dat (shp vs), .dat (.int (way : Nat)), .dat (.int (i : Nat)), .dat (.int (j : Nat)), .own (vs.map vd), .un] s2 = .ok (.dat (.tup [(vs.map vd)[j], (vs.map vd)[i]])) s2 := by
        rw [es]
        simp [mTup, mCons, mOp2, mVar, gt, ixi, ixj, mNil, stoL, SZ]
      unfold mAsgN
      rw [e1]
      show Sat (tkL [tkPut 5 (mVar 3), tkPut 5 (mVar 4)] [(vs.map vd)[j], (vs.map vd)[i]] _ s2) _
      unfold tkL tkL tkL tkPut mPut
      simp only [gt, mC, mVar, Rs.bind_ok, Rv.sto, x1, x2, st]
      exact ⟨rfl, rfl⟩
    refine asg.mono fun f g hf => ?_
    obtain ⟨rfl, rfl⟩ := hf
    simp only [S_var, S_C, S_op1, k1_, S_op2, k2_, k2b_, S_nil, S_cons, kc_, kcb_, S_opN, kN_, S_tup, S_lst, kT_u, kL_u, stoL_nil, stoL_dat, stoL_own, consO_some, SatO_some, S_call, kCall_u, S_if, S_ifS, kI_true, kI_false, S_andV, S_orV, kAndV_true, kAndV_false, kOrV_true, kOrV_false, S_test, kTest_, S_tru, kTru_, S_and, S_or, S_not, kAnd_true, kAnd_false, kOr_true, kOr_false, kNot_, S_seq, kS_nx, kS_rt, kS_bk, kS_ct, S_pass, S_set, kSet_dat, kSet_own, S_par, kP_, kPb_, S_ret', kR_, S_retN, S_break, S_cont, S_for, kF_, S_forNil, kFb_nx, kFb_ct, kFb_bk, kFb_rt, S_items, kItems_tup, kItems_lst, kItems_own, S_lc, kLc_, S_lcNil, S_yes, kD_rt, kD_nx, Rv.ret, gt, st, kVar_dat, kVar_own, o_add, o_sub, o_eq, o_ne, o_lt, o_le, o_gt, o_ge, o_eqB, o_neB, o_is2, o_isnot2, o_abs, o_ix, o_ixO, o_ixB, o_ixL, o_tupO, o_isBool, map_some', wp, tgN_, List.length_cons, List.length_nil, Nat.reduceAdd, Nat.reduceLeDiff, true_and, decide_true, decide_false, Bool.not_true, Bool.not_false, o_mul_u, o_div_u, o_mod_u, o_pow_u, o_eqS, o_neS, o_intB, o_lenS, o_lenO, o_lenB, o_iaddI, S_s1, kS1_, kS1b_, S_lm, kLm_bor, kLm_own, kLmb_, S_tab, o_ixT, o_ixS, S_put, kPut_, kPutK_, S_zip2, kZip_, kZipb_tup, o_sum, o_sumB, o_tupB, o_tupL, o_lenT, S_range1, kRng_3, S_tgtL, kTgtL_, List.nil_append, List.cons_append, Nat.reduceLT, SZ, forall_const, true_implies]
    refine q _ g (all _ (by rw [List.length_set, List.length_set, hml]; omega) fun d hd => ?_) (h2.le (by omega))
    rcases List.mem_or_eq_of_mem_set hd with hd | rfl
    · rcases List.mem_or_eq_of_mem_set hd with hd | rfl
      · exact hd
      · exact List.getElem_mem hj'
    · exact List.getElem_mem hi'
  simp only [S_var, S_C, S_op1, k1_, S_op2, k2_, k2b_, S_nil, S_cons, kc_, kcb_, S_opN, kN_, S_tup, S_lst, kT_u, kL_u, stoL_nil, stoL_dat, stoL_own, consO_some, SatO_some, S_call, kCall_u, S_if, S_ifS, kI_true, kI_false, S_andV, S_orV, kAndV_true, kAndV_false, kOrV_true, kOrV_false, S_test, kTest_, S_tru, kTru_, S_and, S_or, S_not, kAnd_true, kAnd_false, kOr_true, kOr_false, kNot_, S_seq, kS_nx, kS_rt, kS_bk, kS_ct, S_pass, S_set, kSet_dat, kSet_own, S_par, kP_, kPb_, S_ret', kR_, S_retN, S_break, S_cont, S_for, kF_, S_forNil, kFb_nx, kFb_ct, kFb_bk, kFb_rt, S_items, kItems_tup, kItems_lst, kItems_own, S_lc, kLc_, S_lcNil, S_yes, kD_rt, kD_nx, Rv.ret, gt, st, kVar_dat, kVar_own, o_add, o_sub, o_eq, o_ne, o_lt, o_le, o_gt, o_ge, o_eqB, o_neB, o_is2, o_isnot2, o_abs, o_ix, o_ixO, o_ixB, o_ixL, o_tupO, o_isBool, map_some', wp, tgN_, List.length_cons, List.length_nil, Nat.reduceAdd, Nat.reduceLeDiff, true_and, decide_true, decide_false, Bool.not_true, Bool.not_false, o_mul_u, o_div_u, o_mod_u, o_pow_u, o_eqS, o_neS, o_intB, o_lenS, o_lenO, o_lenB, o_iaddI, S_s1, kS1_, kS1b_, S_lm, kLm_bor, kLm_own, kLmb_, S_tab, o_ixT, o_ixS, S_put, kPut_, kPutK_, S_zip2, kZip_, kZipb_tup, o_sum, o_sumB, o_tupB, o_tupL, o_lenT, S_range1, kRng_3, S_tgtL, kTgtL_, List.nil_append, List.cons_append, Nat.reduceLT, SZ, forall_const, true_implies]
  refine kI_d (fun _ => ?_) (fun _ => ?_)
  · simp only [S_var, S_C, S_op1, k1_, S_op2, k2_, k2b_, S_nil, S_cons, kc_, kcb_, S_opN, kN_, S_tup, S_lst, kT_u, kL_u, stoL_nil, stoL_dat, stoL_own, consO_some, SatO_some, S_call, kCall_u, S_if, S_ifS, kI_true, kI_false, S_andV, S_orV, kAndV_true, kAndV_false, kOrV_true, kOrV_false, S_test, kTest_, S_tru, kTru_, S_and, S_or, S_not, kAnd_true, kAnd_false, kOr_true, kOr_false, kNot_, S_seq, kS_nx, kS_rt, kS_bk, kS_ct, S_pass, S_set, kSet_dat, kSet_own, S_par, kP_, kPb_, S_ret', kR_, S_retN, S_break, S_cont, S_for, kF_, S_forNil, kFb_nx, kFb_ct, kFb_bk, kFb_rt, S_items, kItems_tup, kItems_lst, kItems_own, S_lc, kLc_, S_lcNil, S_yes, kD_rt, kD_nx, Rv.ret, gt, st, kVar_dat, kVar_own, o_add, o_sub, o_eq, o_ne, o_lt, o_le, o_gt, o_ge, o_eqB, o_neB, o_is2, o_isnot2, o_abs, o_ix, o_ixO, o_ixB, o_ixL, o_tupO, o_isBool, map_some', wp, tgN_, List.length_cons, List.length_nil, Nat.reduceAdd, Nat.reduceLeDiff, true_and, decide_true, decide_false, Bool.not_true, Bool.not_false, o_mul_u, o_div_u, o_mod_u, o_pow_u, o_eqS, o_neS, o_intB, o_lenS, o_lenO, o_lenB, o_iaddI, S_s1, kS1_, kS1b_, S_lm, kLm_bor, kLm_own, kLmb_, S_tab, o_ixT, o_ixS, S_put, kPut_, kPutK_, S_zip2, kZip_, kZipb_tup, o_sum, o_sumB, o_tupB, o_tupL, o_lenT, S_range1, kRng_3, S_tgtL, kTgtL_, List.nil_append, List.cons_append, Nat.reduceLT, SZ, forall_const, true_implies, len_shp]
    refine S_drawN (n := vs.length) (b := b + 3) hb (by omega) (by omega) fun i s1 hi h1 => ?_
    simp only [S_var, S_C, S_op1, k1_, S_op2, k2_, k2b_, S_nil, S_cons, kc_, kcb_, S_opN, kN_, S_tup, S_lst, kT_u, kL_u, stoL_nil, stoL_dat, stoL_own, consO_some, SatO_some, S_call, kCall_u, S_if, S_ifS, kI_true, kI_false, S_andV, S_orV, kAndV_true, kAndV_false, kOrV_true, kOrV_false, S_test, kTest_, S_tru, kTru_, S_and, S_or, S_not, kAnd_true, kAnd_false, kOr_true, kOr_false, kNot_, S_seq, kS_nx, kS_rt, kS_bk, kS_ct, S_pass, S_set, kSet_dat, kSet_own, S_par, kP_, kPb_, S_ret', kR_, S_retN, S_break, S_cont, S_for, kF_, S_forNil, kFb_nx, kFb_ct, kFb_bk, kFb_rt, S_items, kItems_tup, kItems_lst, kItems_own, S_lc, kLc_, S_lcNil, S_yes, kD_rt, kD_nx, Rv.ret, gt, st, kVar_dat, kVar_own, o_add, o_sub, o_eq, o_ne, o_lt, o_le, o_gt, o_ge, o_eqB, o_neB, o_is2, o_isnot2, o_abs, o_ix, o_ixO, o_ixB, o_ixL, o_tupO, o_isBool, map_some', wp, tgN_, List.length_cons, List.length_nil, Nat.reduceAdd, Nat.reduceLeDiff, true_and, decide_true, decide_false, Bool.not_true, Bool.not_false, o_mul_u, o_div_u, o_mod_u, o_pow_u, o_eqS, o_neS, o_intB, o_lenS, o_lenO, o_lenB, o_iaddI, S_s1, kS1_, kS1b_, S_lm, kLm_bor, kLm_own, kLmb_, S_tab, o_ixT, o_ixS, S_put, kPut_, kPutK_, S_zip2, kZip_, kZipb_tup, o_sum, o_sumB, o_tupB, o_tupL, o_lenT, S_range1, kRng_3, S_tgtL, kTgtL_, List.nil_append, List.cons_append, Nat.reduceLT, SZ, forall_const, true_implies, S_cutH, S_cutL, es, hiT, loT, addT]
    refine ⟨by simp only [List.length_take, List.length_drop, hml, SZ]; omega, ?_⟩
    try simp only [S_var, S_C, S_op1, k1_, S_op2, k2_, k2b_, S_nil, S_cons, kc_, kcb_, S_opN, kN_, S_tup, S_lst, kT_u, kL_u, stoL_nil, stoL_dat, stoL_own, consO_some, SatO_some, S_call, kCall_u, S_if, S_ifS, kI_true, kI_false, S_andV, S_orV, kAndV_true, kAndV_false, kOrV_true, kOrV_false, S_test, kTest_, S_tru, kTru_, S_and, S_or, S_not, kAnd_true, kAnd_false, kOr_true, kOr_false, kNot_, S_seq, kS_nx, kS_rt, kS_bk, kS_ct, S_pass, S_set, kSet_dat, kSet_own, S_par, kP_, kPb_, S_ret', kR_, S_retN, S_break, S_cont, S_for, kF_, S_forNil, kFb_nx, kFb_ct, kFb_bk, kFb_rt, S_items, kItems_tup, kItems_lst, kItems_own, S_lc, kLc_, S_lcNil, S_yes, kD_rt, kD_nx, Rv.ret, gt, st, kVar_dat, kVar_own, o_add, o_sub, o_eq, o_ne, o_lt, o_le, o_gt, o_ge, o_eqB, o_neB, o_is2, o_isnot2, o_abs, o_ix, o_ixO, o_ixB, o_ixL, o_tupO, o_isBool, map_some', wp, tgN_, List.length_cons, List.length_nil, Nat.reduceAdd, Nat.reduceLeDiff, true_and, decide_true, decide_false, Bool.not_true, Bool.not_false, o_mul_u, o_div_u, o_mod_u, o_pow_u, o_eqS, o_neS, o_intB, o_lenS, o_lenO, o_lenB, o_iaddI, S_s1, kS1_, kS1b_, S_lm, kLm_bor, kLm_own, kLmb_, S_tab, o_ixT, o_ixS, S_put, kPut_, kPutK_, S_zip2, kZip_, kZipb_tup, o_sum, o_sumB, o_tupB, o_tupL, o_lenT, S_range1, kRng_3, S_tgtL, kTgtL_, List.nil_append, List.cons_append, Nat.reduceLT, SZ, forall_const, true_implies]
    refine q _ s1 (all _ (by simp only [List.length_append, List.length_take, List.length_drop, hml]; omega) fun d hd => ?_) (h1.le (by omega))
    rcases List.mem_append.mp hd with hd | hd
    · exact List.mem_of_mem_drop hd
    · exact List.mem_of_mem_take hd
  simp only [S_var, S_C, S_op1, k1_, S_op2, k2_, k2b_, S_nil, S_cons, kc_, kcb_, S_opN, kN_, S_tup, S_lst, kT_u, kL_u, stoL_nil, stoL_dat, stoL_own, consO_some, SatO_some, S_call, kCall_u, S_if, S_ifS, kI_true, kI_false, S_andV, S_orV, kAndV_true, kAndV_false, kOrV_true, kOrV_false, S_test, kTest_, S_tru, kTru_, S_and, S_or, S_not, kAnd_true, kAnd_false, kOr_true, kOr_false, kNot_, S_seq, kS_nx, kS_rt, kS_bk, kS_ct, S_pass, S_set, kSet_dat, kSet_own, S_par, kP_, kPb_, S_ret', kR_, S_retN, S_break, S_cont, S_for, kF_, S_forNil, kFb_nx, kFb_ct, kFb_bk, kFb_rt, S_items, kItems_tup, kItems_lst, kItems_own, S_lc, kLc_, S_lcNil, S_yes, kD_rt, kD_nx, Rv.ret, gt, st, kVar_dat, kVar_own, o_add, o_sub, o_eq, o_ne, o_lt, o_le, o_gt, o_ge, o_eqB, o_neB, o_is2, o_isnot2, o_abs, o_ix, o_ixO, o_ixB, o_ixL, o_tupO, o_isBool, map_some', wp, tgN_, List.length_cons, List.length_nil, Nat.reduceAdd, Nat.reduceLeDiff, true_and, decide_true, decide_false, Bool.not_true, Bool.not_false, o_mul_u, o_div_u, o_mod_u, o_pow_u, o_eqS, o_neS, o_intB, o_lenS, o_lenO, o_lenB, o_iaddI, S_s1, kS1_, kS1b_, S_lm, kLm_bor, kLm_own, kLmb_, S_tab, o_ixT, o_ixS, S_put, kPut_, kPutK_, S_zip2, kZip_, kZipb_tup, o_sum, o_sumB, o_tupB, o_tupL, o_lenT, S_range1, kRng_3, S_tgtL, kTgtL_, List.nil_append, List.cons_append, Nat.reduceLT, SZ, forall_const, true_implies]
  obtain ⟨v0, vr, hvr⟩ : ∃ v0 vr, vs = v0 :: vr := by
    cases vs with
    | nil => simp at hge
    | cons x y => exact ⟨x, y, rfl⟩
  have em : vs.map vd = vd v0 :: vr.map vd := by rw [hvr]; rfl
  have hi1 : oCut (.dat (shp vs)) none (some 1) = some (.dat (.tup [vd v0])) := by
    rw [es, em]
    show some (Rv.dat (.tup (cut (vd v0 :: vr.map vd) none (some ((1 : Nat) : Int))))) = _
    rw [cutHiI]
    rfl
  have re1 : oRev1 (.dat (shp vs)) = some (.dat (.tup (vr.map vd).reverse)) := by
    rw [es, em]
    rfl
  have hi20 : oCut (.dat (shp vs)) none (some 20) = some (.dat (.tup ((vs.map vd).take 20))) := by
    show some (Rv.dat (.tup (cut (vs.map vd) none (some ((20 : Nat) : Int))))) = _
    rw [cutHiI]
  have hi2 : oCut (.dat (shp vs)) none (some 2) = some (.dat (.tup ((vs.map vd).take 2))) := by
    show some (Rv.dat (.tup (cut (vs.map vd) none (some ((2 : Nat) : Int))))) = _
    rw [cutHiI]
  refine kI_d (fun _ => ?_) (fun _ => ?_)
  · simp only [S_var, S_C, S_op1, k1_, S_op2, k2_, k2b_, S_nil, S_cons, kc_, kcb_, S_opN, kN_, S_tup, S_lst, kT_u, kL_u, stoL_nil, stoL_dat, stoL_own, consO_some, SatO_some, S_call, kCall_u, S_if, S_ifS, kI_true, kI_false, S_andV, S_orV, kAndV_true, kAndV_false, kOrV_true, kOrV_false, S_test, kTest_, S_tru, kTru_, S_and, S_or, S_not, kAnd_true, kAnd_false, kOr_true, kOr_false, kNot_, S_seq, kS_nx, kS_rt, kS_bk, kS_ct, S_pass, S_set, kSet_dat, kSet_own, S_par, kP_, kPb_, S_ret', kR_, S_retN, S_break, S_cont, S_for, kF_, S_forNil, kFb_nx, kFb_ct, kFb_bk, kFb_rt, S_items, kItems_tup, kItems_lst, kItems_own, S_lc, kLc_, S_lcNil, S_yes, kD_rt, kD_nx, Rv.ret, gt, st, kVar_dat, kVar_own, o_add, o_sub, o_eq, o_ne, o_lt, o_le, o_gt, o_ge, o_eqB, o_neB, o_is2, o_isnot2, o_abs, o_ix, o_ixO, o_ixB, o_ixL, o_tupO, o_isBool, map_some', wp, tgN_, List.length_cons, List.length_nil, Nat.reduceAdd, Nat.reduceLeDiff, true_and, decide_true, decide_false, Bool.not_true, Bool.not_false, o_mul_u, o_div_u, o_mod_u, o_pow_u, o_eqS, o_neS, o_intB, o_lenS, o_lenO, o_lenB, o_iaddI, S_s1, kS1_, kS1b_, S_lm, kLm_bor, kLm_own, kLmb_, S_tab, o_ixT, o_ixS, S_put, kPut_, kPutK_, S_zip2, kZip_, kZipb_tup, o_sum, o_sumB, o_tupB, o_tupL, o_lenT, S_range1, kRng_3, S_tgtL, kTgtL_, List.nil_append, List.cons_append, Nat.reduceLT, SZ, forall_const, true_implies, S_cutH, kHi, hi1, S_op1, k1_, re1, addT]
    have hvl : vr.length + 1 = vs.length := by rw [hvr]; rfl
    refine ⟨by simp only [List.length_reverse, List.length_map, List.length_cons, List.length_nil, SZ]; omega, ?_⟩
    try simp only [S_var, S_C, S_op1, k1_, S_op2, k2_, k2b_, S_nil, S_cons, kc_, kcb_, S_opN, kN_, S_tup, S_lst, kT_u, kL_u, stoL_nil, stoL_dat, stoL_own, consO_some, SatO_some, S_call, kCall_u, S_if, S_ifS, kI_true, kI_false, S_andV, S_orV, kAndV_true, kAndV_false, kOrV_true, kOrV_false, S_test, kTest_, S_tru, kTru_, S_and, S_or, S_not, kAnd_true, kAnd_false, kOr_true, kOr_false, kNot_, S_seq, kS_nx, kS_rt, kS_bk, kS_ct, S_pass, S_set, kSet_dat, kSet_own, S_par, kP_, kPb_, S_ret', kR_, S_retN, S_break, S_cont, S_for, kF_, S_forNil, kFb_nx, kFb_ct, kFb_bk, kFb_rt, S_items, kItems_tup, kItems_lst, kItems_own, S_lc, kLc_, S_lcNil, S_yes, kD_rt, kD_nx, Rv.ret, gt, st, kVar_dat, kVar_own, o_add, o_sub, o_eq, o_ne, o_lt, o_le, o_gt, o_ge, o_eqB, o_neB, o_is2, o_isnot2, o_abs, o_ix, o_ixO, o_ixB, o_ixL, o_tupO, o_isBool, map_some', wp, tgN_, List.length_cons, List.length_nil, Nat.reduceAdd, Nat.reduceLeDiff, true_and, decide_true, decide_false, Bool.not_true, Bool.not_false, o_mul_u, o_div_u, o_mod_u, o_pow_u, o_eqS, o_neS, o_intB, o_lenS, o_lenO, o_lenB, o_iaddI, S_s1, kS1_, kS1b_, S_lm, kLm_bor, kLm_own, kLmb_, S_tab, o_ixT, o_ixS, S_put, kPut_, kPutK_, S_zip2, kZip_, kZipb_tup, o_sum, o_sumB, o_tupB, o_tupL, o_lenT, S_range1, kRng_3, S_tgtL, kTgtL_, List.nil_append, List.cons_append, Nat.reduceLT, SZ, forall_const, true_implies]
    refine q _ s (all _ (by simp only [List.length_append, List.length_reverse, List.length_map, List.length_cons, List.length_nil, List.cons_append, List.nil_append]; omega) fun d hd => ?_) (hb.le (by omega))
    rw [em]
    rcases List.mem_cons.mp hd with rfl | hd
    · exact List.mem_cons_self
    · exact List.mem_cons_of_mem _ (List.mem_reverse.mp hd)
  simp only [S_var, S_C, S_op1, k1_, S_op2, k2_, k2b_, S_nil, S_cons, kc_, kcb_, S_opN, kN_, S_tup, S_lst, kT_u, kL_u, stoL_nil, stoL_dat, stoL_own, consO_some, SatO_some, S_call, kCall_u, S_if, S_ifS, kI_true, kI_false, S_andV, S_orV, kAndV_true, kAndV_false, kOrV_true, kOrV_false, S_test, kTest_, S_tru, kTru_, S_and, S_or, S_not, kAnd_true, kAnd_false, kOr_true, kOr_false, kNot_, S_seq, kS_nx, kS_rt, kS_bk, kS_ct, S_pass, S_set, kSet_dat, kSet_own, S_par, kP_, kPb_, S_ret', kR_, S_retN, S_break, S_cont, S_for, kF_, S_forNil, kFb_nx, kFb_ct, kFb_bk, kFb_rt, S_items, kItems_tup, kItems_lst, kItems_own, S_lc, kLc_, S_lcNil, S_yes, kD_rt, kD_nx, Rv.ret, gt, st, kVar_dat, kVar_own, o_add, o_sub, o_eq, o_ne, o_lt, o_le, o_gt, o_ge, o_eqB, o_neB, o_is2, o_isnot2, o_abs, o_ix, o_ixO, o_ixB, o_ixL, o_tupO, o_isBool, map_some', wp, tgN_, List.length_cons, List.length_nil, Nat.reduceAdd, Nat.reduceLeDiff, true_and, decide_true, decide_false, Bool.not_true, Bool.not_false, o_mul_u, o_div_u, o_mod_u, o_pow_u, o_eqS, o_neS, o_intB, o_lenS, o_lenO, o_lenB, o_iaddI, S_s1, kS1_, kS1b_, S_lm, kLm_bor, kLm_own, kLmb_, S_tab, o_ixT, o_ixS, S_put, kPut_, kPutK_, S_zip2, kZip_, kZipb_tup, o_sum, o_sumB, o_tupB, o_tupL, o_lenT, S_range1, kRng_3, S_tgtL, kTgtL_, List.nil_append, List.cons_append, Nat.reduceLT, SZ, forall_const, true_implies]
  refine kI_d (fun _ => ?_) (fun _ => ?_)
  · simp only [S_var, S_C, S_op1, k1_, S_op2, k2_, k2b_, S_nil, S_cons, kc_, kcb_, S_opN, kN_, S_tup, S_lst, kT_u, kL_u, stoL_nil, stoL_dat, stoL_own, consO_some, SatO_some, S_call, kCall_u, S_if, S_ifS, kI_true, kI_false, S_andV, S_orV, kAndV_true, kAndV_false, kOrV_true, kOrV_false, S_test, kTest_, S_tru, kTru_, S_and, S_or, S_not, kAnd_true, kAnd_false, kOr_true, kOr_false, kNot_, S_seq, kS_nx, kS_rt, kS_bk, kS_ct, S_pass, S_set, kSet_dat, kSet_own, S_par, kP_, kPb_, S_ret', kR_, S_retN, S_break, S_cont, S_for, kF_, S_forNil, kFb_nx, kFb_ct, kFb_bk, kFb_rt, S_items, kItems_tup, kItems_lst, kItems_own, S_lc, kLc_, S_lcNil, S_yes, kD_rt, kD_nx, Rv.ret, gt, st, kVar_dat, kVar_own, o_add, o_sub, o_eq, o_ne, o_lt, o_le, o_gt, o_ge, o_eqB, o_neB, o_is2, o_isnot2, o_abs, o_ix, o_ixO, o_ixB, o_ixL, o_tupO, o_isBool, map_some', wp, tgN_, List.length_cons, List.length_nil, Nat.reduceAdd, Nat.reduceLeDiff, true_and, decide_true, decide_false, Bool.not_true, Bool.not_false, o_mul_u, o_div_u, o_mod_u, o_pow_u, o_eqS, o_neS, o_intB, o_lenS, o_lenO, o_lenB, o_iaddI, S_s1, kS1_, kS1b_, S_lm, kLm_bor, kLm_own, kLmb_, S_tab, o_ixT, o_ixS, S_put, kPut_, kPutK_, S_zip2, kZip_, kZipb_tup, o_sum, o_sumB, o_tupB, o_tupL, o_lenT, S_range1, kRng_3, S_tgtL, kTgtL_, List.nil_append, List.cons_append, Nat.reduceLT, SZ, forall_const, true_implies, S_cutH, kHi, hi20, addT]
    refine ⟨by simp only [List.length_take, hml, SZ]; omega, ?_⟩
    try simp only [S_var, S_C, S_op1, k1_, S_op2, k2_, k2b_, S_nil, S_cons, kc_, kcb_, S_opN, kN_, S_tup, S_lst, kT_u, kL_u, stoL_nil, stoL_dat, stoL_own, consO_some, SatO_some, S_call, kCall_u, S_if, S_ifS, kI_true, kI_false, S_andV, S_orV, kAndV_true, kAndV_false, kOrV_true, kOrV_false, S_test, kTest_, S_tru, kTru_, S_and, S_or, S_not, kAnd_true, kAnd_false, kOr_true, kOr_false, kNot_, S_seq, kS_nx, kS_rt, kS_bk, kS_ct, S_pass, S_set, kSet_dat, kSet_own, S_par, kP_, kPb_, S_ret', kR_, S_retN, S_break, S_cont, S_for, kF_, S_forNil, kFb_nx, kFb_ct, kFb_bk, kFb_rt, S_items, kItems_tup, kItems_lst, kItems_own, S_lc, kLc_, S_lcNil, S_yes, kD_rt, kD_nx, Rv.ret, gt, st, kVar_dat, kVar_own, o_add, o_sub, o_eq, o_ne, o_lt, o_le, o_gt, o_ge, o_eqB, o_neB, o_is2, o_isnot2, o_abs, o_ix, o_ixO, o_ixB, o_ixL, o_tupO, o_isBool, map_some', wp, tgN_, List.length_cons, List.length_nil, Nat.reduceAdd, Nat.reduceLeDiff, true_and, decide_true, decide_false, Bool.not_true, Bool.not_false, o_mul_u, o_div_u, o_mod_u, o_pow_u, o_eqS, o_neS, o_intB, o_lenS, o_lenO, o_lenB, o_iaddI, S_s1, kS1_, kS1b_, S_lm, kLm_bor, kLm_own, kLmb_, S_tab, o_ixT, o_ixS, S_put, kPut_, kPutK_, S_zip2, kZip_, kZipb_tup, o_sum, o_sumB, o_tupB, o_tupL, o_lenT, S_range1, kRng_3, S_tgtL, kTgtL_, List.nil_append, List.cons_append, Nat.reduceLT, SZ, forall_const, true_implies]
    refine q _ s (all _ (by simp only [List.length_append, List.length_take, hml]; omega) fun d hd => ?_) (hb.le (by omega))
    rcases List.mem_append.mp hd with hd | hd <;> exact List.mem_of_mem_take hd
  simp only [S_var, S_C, S_op1, k1_, S_op2, k2_, k2b_, S_nil, S_cons, kc_, kcb_, S_opN, kN_, S_tup, S_lst, kT_u, kL_u, stoL_nil, stoL_dat, stoL_own, consO_some, SatO_some, S_call, kCall_u, S_if, S_ifS, kI_true, kI_false, S_andV, S_orV, kAndV_true, kAndV_false, kOrV_true, kOrV_false, S_test, kTest_, S_tru, kTru_, S_and, S_or, S_not, kAnd_true, kAnd_false, kOr_true, kOr_false, kNot_, S_seq, kS_nx, kS_rt, kS_bk, kS_ct, S_pass, S_set, kSet_dat, kSet_own, S_par, kP_, kPb_, S_ret', kR_, S_retN, S_break, S_cont, S_for, kF_, S_forNil, kFb_nx, kFb_ct, kFb_bk, kFb_rt, S_items, kItems_tup, kItems_lst, kItems_own, S_lc, kLc_, S_lcNil, S_yes, kD_rt, kD_nx, Rv.ret, gt, st, kVar_dat, kVar_own, o_add, o_sub, o_eq, o_ne, o_lt, o_le, o_gt, o_ge, o_eqB, o_neB, o_is2, o_isnot2, o_abs, o_ix, o_ixO, o_ixB, o_ixL, o_tupO, o_isBool, map_some', wp, tgN_, List.length_cons, List.length_nil, Nat.reduceAdd, Nat.reduceLeDiff, true_and, decide_true, decide_false, Bool.not_true, Bool.not_false, o_mul_u, o_div_u, o_mod_u, o_pow_u, o_eqS, o_neS, o_intB, o_lenS, o_lenO, o_lenB, o_iaddI, S_s1, kS1_, kS1b_, S_lm, kLm_bor, kLm_own, kLmb_, S_tab, o_ixT, o_ixS, S_put, kPut_, kPutK_, S_zip2, kZip_, kZipb_tup, o_sum, o_sumB, o_tupB, o_tupL, o_lenT, S_range1, kRng_3, S_tgtL, kTgtL_, List.nil_append, List.cons_append, Nat.reduceLT, SZ, forall_const, true_implies]
  refine kI_d (fun _ => ?_) (fun _ => ?_)
  · simp only [S_var, S_C, S_op1, k1_, S_op2, k2_, k2b_, S_nil, S_cons, kc_, kcb_, S_opN, kN_, S_tup, S_lst, kT_u, kL_u, stoL_nil, stoL_dat, stoL_own, consO_some, SatO_some, S_call, kCall_u, S_if, S_ifS, kI_true, kI_false, S_andV, S_orV, kAndV_true, kAndV_false, kOrV_true, kOrV_false, S_test, kTest_, S_tru, kTru_, S_and, S_or, S_not, kAnd_true, kAnd_false, kOr_true, kOr_false, kNot_, S_seq, kS_nx, kS_rt, kS_bk, kS_ct, S_pass, S_set, kSet_dat, kSet_own, S_par, kP_, kPb_, S_ret', kR_, S_retN, S_break, S_cont, S_for, kF_, S_forNil, kFb_nx, kFb_ct, kFb_bk, kFb_rt, S_items, kItems_tup, kItems_lst, kItems_own, S_lc, kLc_, S_lcNil, S_yes, kD_rt, kD_nx, Rv.ret, gt, st, kVar_dat, kVar_own, o_add, o_sub, o_eq, o_ne, o_lt, o_le, o_gt, o_ge, o_eqB, o_neB, o_is2, o_isnot2, o_abs, o_ix, o_ixO, o_ixB, o_ixL, o_tupO, o_isBool, map_some', wp, tgN_, List.length_cons, List.length_nil, Nat.reduceAdd, Nat.reduceLeDiff, true_and, decide_true, decide_false, Bool.not_true, Bool.not_false, o_mul_u, o_div_u, o_mod_u, o_pow_u, o_eqS, o_neS, o_intB, o_lenS, o_lenO, o_lenB, o_iaddI, S_s1, kS1_, kS1b_, S_lm, kLm_bor, kLm_own, kLmb_, S_tab, o_ixT, o_ixS, S_put, kPut_, kPutK_, S_zip2, kZip_, kZipb_tup, o_sum, o_sumB, o_tupB, o_tupL, o_lenT, S_range1, kRng_3, S_tgtL, kTgtL_, List.nil_append, List.cons_append, Nat.reduceLT, SZ, forall_const, true_implies]
    refine S_cornerAmiss hS hb fun d s' hd h' => ?_
    simp only [S_var, S_C, S_op1, k1_, S_op2, k2_, k2b_, S_nil, S_cons, kc_, kcb_, S_opN, kN_, S_tup, S_lst, kT_u, kL_u, stoL_nil, stoL_dat, stoL_own, consO_some, SatO_some, S_call, kCall_u, S_if, S_ifS, kI_true, kI_false, S_andV, S_orV, kAndV_true, kAndV_false, kOrV_true, kOrV_false, S_test, kTest_, S_tru, kTru_, S_and, S_or, S_not, kAnd_true, kAnd_false, kOr_true, kOr_false, kNot_, S_seq, kS_nx, kS_rt, kS_bk, kS_ct, S_pass, S_set, kSet_dat, kSet_own, S_par, kP_, kPb_, S_ret', kR_, S_retN, S_break, S_cont, S_for, kF_, S_forNil, kFb_nx, kFb_ct, kFb_bk, kFb_rt, S_items, kItems_tup, kItems_lst, kItems_own, S_lc, kLc_, S_lcNil, S_yes, kD_rt, kD_nx, Rv.ret, gt, st, kVar_dat, kVar_own, o_add, o_sub, o_eq, o_ne, o_lt, o_le, o_gt, o_ge, o_eqB, o_neB, o_is2, o_isnot2, o_abs, o_ix, o_ixO, o_ixB, o_ixL, o_tupO, o_isBool, map_some', wp, tgN_, List.length_cons, List.length_nil, Nat.reduceAdd, Nat.reduceLeDiff, true_and, decide_true, decide_false, Bool.not_true, Bool.not_false, o_mul_u, o_div_u, o_mod_u, o_pow_u, o_eqS, o_neS, o_intB, o_lenS, o_lenO, o_lenB, o_iaddI, S_s1, kS1_, kS1b_, S_lm, kLm_bor, kLm_own, kLmb_, S_tab, o_ixT, o_ixS, S_put, kPut_, kPutK_, S_zip2, kZip_, kZipb_tup, o_sum, o_sumB, o_tupB, o_tupL, o_lenT, S_range1, kRng_3, S_tgtL, kTgtL_, List.nil_append, List.cons_append, Nat.reduceLT, SZ, forall_const, true_implies]
    exact q d s' (hd.up (by decide) (by decide)) h'
  simp only [S_var, S_C, S_op1, k1_, S_op2, k2_, k2b_, S_nil, S_cons, kc_, kcb_, S_opN, kN_, S_tup, S_lst, kT_u, kL_u, stoL_nil, stoL_dat, stoL_own, consO_some, SatO_some, S_call, kCall_u, S_if, S_ifS, kI_true, kI_false, S_andV, S_orV, kAndV_true, kAndV_false, kOrV_true, kOrV_false, S_test, kTest_, S_tru, kTru_, S_and, S_or, S_not, kAnd_true, kAnd_false, kOr_true, kOr_false, kNot_, S_seq, kS_nx, kS_rt, kS_bk, kS_ct, S_pass, S_set, kSet_dat, kSet_own, S_par, kP_, kPb_, S_ret', kR_, S_retN, S_break, S_cont, S_for, kF_, S_forNil, kFb_nx, kFb_ct, kFb_bk, kFb_rt, S_items, kItems_tup, kItems_lst, kItems_own, S_lc, kLc_, S_lcNil, S_yes, kD_rt, kD_nx, Rv.ret, gt, st, kVar_dat, kVar_own, o_add, o_sub, o_eq, o_ne, o_lt, o_le, o_gt, o_ge, o_eqB, o_neB, o_is2, o_isnot2, o_abs, o_ix, o_ixO, o_ixB, o_ixL, o_tupO, o_isBool, map_some', wp, tgN_, List.length_cons, List.length_nil, Nat.reduceAdd, Nat.reduceLeDiff, true_and, decide_true, decide_false, Bool.not_true, Bool.not_false, o_mul_u, o_div_u, o_mod_u, o_pow_u, o_eqS, o_neS, o_intB, o_lenS, o_lenO, o_lenB, o_iaddI, S_s1, kS1_, kS1b_, S_lm, kLm_bor, kLm_own, kLmb_, S_tab, o_ixT, o_ixS, S_put, kPut_, kPutK_, S_zip2, kZip_, kZipb_tup, o_sum, o_sumB, o_tupB, o_tupL, o_lenT, S_range1, kRng_3, S_tgtL, kTgtL_, List.nil_append, List.cons_append, Nat.reduceLT, SZ, forall_const, true_implies, S_cutH, kHi, hi2]
  refine S_drawN (n := 8) (b := b + 3) hb (by decide) (by decide) fun j s2 hj h2 => ?_
  obtain ⟨tw, ht⟩ : ∃ tw : List V3, tw = [(1, 20, 20), (2, 61, 40), (2, 40, 61), (2, 19, 40), (2, 40, 19), (2, 63, 38), (2, 65, 56)] := ⟨_, rfl⟩
  have stw : Sm 100 5 (.tup (tw.map vd)) := by
    refine ⟨by rw [ht]; decide, fun d hd => ?_⟩
    obtain ⟨v, hv, rfl⟩ := List.mem_map.mp hd
    have : Lt3 10 v := by
      rw [ht] at hv
      simp only [List.mem_cons, List.not_mem_nil, or_false] at hv
      rcases hv with rfl | rfl | rfl | rfl | rfl | rfl | rfl <;> exact ⟨by decide, by decide, by decide⟩
    exact sm_vd this (by decide) (by decide)
  have twe : D.tup [.tup [.int 1, .int 20, .int 20], .tup [.int 2, .int 61, .int 40], .tup [.int 2, .int 40, .int 61], .tup [.int 2, .int 19, .int 40], .tup [.int 2, .int 40, .int 19], .tup [.int 2, .int 63, .int 38], .tup [.int 2, .int 65, .int 56]] = .tup (tw.map vd) := by
    rw [ht]
    rfl
  obtain ⟨y, hy, sy⟩ : ∃ y, oIx (.own [.tup (tw.map vd), .tup (tw.map vd), .int 7, .tup ((vs.map vd).take 2), .tup [], .non, .str [115, 104, 97, 112, 101], .tup [shp vs]]) (.dat (.int (j : Nat))) = some (.dat y) ∧ Sm 100 5 y := by
    rcases (by omega : j = 0 ∨ j = 1 ∨ j = 2 ∨ j = 3 ∨ j = 4 ∨ j = 5 ∨ j = 6 ∨ j = 7) with rfl | rfl | rfl | rfl | rfl | rfl | rfl | rfl
    · exact ⟨_, rfl, stw⟩
    · exact ⟨_, rfl, stw⟩
    · exact ⟨_, rfl, sm_int (by decide)⟩
    · exact ⟨_, rfl, all _ (by rw [List.length_take]; omega) fun d hd => List.mem_of_mem_take hd⟩
    · exact ⟨_, rfl, ⟨by simp, fun d hd => nomatch hd⟩⟩
    · exact ⟨_, rfl, trivial⟩
    · exact ⟨_, rfl, (by show 5 ≤ 500; decide)⟩
    · refine ⟨_, rfl, ⟨by simp, fun d hd => ?_⟩⟩
      rw [List.mem_singleton.mp hd]
      exact ⟨by rw [hml]; omega, fun d hd => (sm_shp hS d hd).up (by decide) (by decide)⟩
  rw [twe, k2b_, hy]
  simp only [S_var, S_C, S_op1, k1_, S_op2, k2_, k2b_, S_nil, S_cons, kc_, kcb_, S_opN, kN_, S_tup, S_lst, kT_u, kL_u, stoL_nil, stoL_dat, stoL_own, consO_some, SatO_some, S_call, kCall_u, S_if, S_ifS, kI_true, kI_false, S_andV, S_orV, kAndV_true, kAndV_false, kOrV_true, kOrV_false, S_test, kTest_, S_tru, kTru_, S_and, S_or, S_not, kAnd_true, kAnd_false, kOr_true, kOr_false, kNot_, S_seq, kS_nx, kS_rt, kS_bk, kS_ct, S_pass, S_set, kSet_dat, kSet_own, S_par, kP_, kPb_, S_ret', kR_, S_retN, S_break, S_cont, S_for, kF_, S_forNil, kFb_nx, kFb_ct, kFb_bk, kFb_rt, S_items, kItems_tup, kItems_lst, kItems_own, S_lc, kLc_, S_lcNil, S_yes, kD_rt, kD_nx, Rv.ret, gt, st, kVar_dat, kVar_own, o_add, o_sub, o_eq, o_ne, o_lt, o_le, o_gt, o_ge, o_eqB, o_neB, o_is2, o_isnot2, o_abs, o_ix, o_ixO, o_ixB, o_ixL, o_tupO, o_isBool, map_some', wp, tgN_, List.length_cons, List.length_nil, Nat.reduceAdd, Nat.reduceLeDiff, true_and, decide_true, decide_false, Bool.not_true, Bool.not_false, o_mul_u, o_div_u, o_mod_u, o_pow_u, o_eqS, o_neS, o_intB, o_lenS, o_lenO, o_lenB, o_iaddI, S_s1, kS1_, kS1b_, S_lm, kLm_bor, kLm_own, kLmb_, S_tab, o_ixT, o_ixS, S_put, kPut_, kPutK_, S_zip2, kZip_, kZipb_tup, o_sum, o_sumB, o_tupB, o_tupL, o_lenT, S_range1, kRng_3, S_tgtL, kTgtL_, List.nil_append, List.cons_append, Nat.reduceLT, SZ, forall_const, true_implies]
  exact q y s2 sy (h2.le (by omega))
theorem isb {b : Bool} : oIs .bool (.dat (.bl b)) = some (.dat (.bl true)) := rfl
def endM : MS LS := (mSeq (mFrz 4) (mSeq (mSet 5 (mCall F_is_shape (mCons (mVar 4) mNil)))
    (mSeq (mFrz 4) (mSeq (mIfS (mOr (mNot (mTest (mOp1 (oIs .bool) (mVar 5)))) (mTest (mOp2 oNe (mVar 5) (mCall F__law_is_shape (mCons (mVar 4) mNil))))) (mRet (mC (.bl false))) mPass)
    (mSeq (mFrz 3) (mRet (mAndV (mOp2 oIs2 (mCall F_is_shape (mCons (mVar 3) mNil)) (mC (.bl true))) (mAndV (mOp2 oIs2 (mCall F_is_shape (mCons (mC (.tup [(.tup [(.int 0), (.int 0), (.int 1)]), (.tup [(.int 1), (.int 0), (.int 0)]), (.tup [(.int 0), (.int 1), (.int 0)])])) mNil)) (mC (.bl true))) (mOp2 oEq (mC (.tup [(.tup [(.int 0), (.int 0), (.int 1)]), (.tup [(.int 1), (.int 0), (.int 0)]), (.tup [(.int 0), (.int 1), (.int 0)])])) (mTup (mCons (mTup (mCons (mC (.int 0)) (mCons (mC (.int 0)) (mCons (mC (.int 1)) mNil)))) (mCons (mTup (mCons (mC (.int 1)) (mCons (mC (.int 0)) (mCons (mC (.int 0)) mNil)))) (mCons (mTup (mCons (mC (.int 0)) (mCons (mC (.int 1)) (mCons (mC (.int 0)) mNil)))) mNil)))))))))))))
theorem S_end {a : Nat} {vs : List V3} {d : D} {w : Int} {s : LS} (hS : ShpS 400 48 vs) (hd : Sm 200 8 d) : Sat (endM [.un, .dat (.ref a), .dat (.int w), .dat (shp vs), .dat d, .un] s) fun f _ => f = .rt (.dat (.bl true)) := by
  have hf := hd.fit (by decide)
  have wh : D.tup [.tup [.int 0, .int 0, .int 1], .tup [.int 1, .int 0, .int 0], .tup [.int 0, .int 1, .int 0]] = shp wholeL := rfl
  have t1 : oIs2 (.dat (.bl true)) (.dat (.bl true)) = some (.dat (.bl true)) := rfl
  unfold endM
  rw [e_isShape, e_lisShape]
  rw [S_seq, S_frz_dat rfl, kS_nx]
  simp only [S_var, S_C, S_op1, k1_, S_op2, k2_, k2b_, S_nil, S_cons, kc_, kcb_, S_opN, kN_, S_tup, S_lst, kT_u, kL_u, stoL_nil, stoL_dat, stoL_own, consO_some, SatO_some, S_call, kCall_u, S_if, S_ifS, kI_true, kI_false, S_andV, S_orV, kAndV_true, kAndV_false, kOrV_true, kOrV_false, S_test, kTest_, S_tru, kTru_, S_and, S_or, S_not, kAnd_true, kAnd_false, kOr_true, kOr_false, kNot_, S_seq, kS_nx, kS_rt, kS_bk, kS_ct, S_pass, S_set, kSet_dat, kSet_own, S_par, kP_, kPb_, S_ret', kR_, S_retN, S_break, S_cont, S_for, kF_, S_forNil, kFb_nx, kFb_ct, kFb_bk, kFb_rt, S_items, kItems_tup, kItems_lst, kItems_own, S_lc, kLc_, S_lcNil, S_yes, kD_rt, kD_nx, Rv.ret, gt, st, kVar_dat, kVar_own, o_add, o_sub, o_eq, o_ne, o_lt, o_le, o_gt, o_ge, o_eqB, o_neB, o_is2, o_isnot2, o_abs, o_ix, o_ixO, o_ixB, o_ixL, o_tupO, o_isBool, map_some', wp, tgN_, List.length_cons, List.length_nil, Nat.reduceAdd, Nat.reduceLeDiff, true_and, decide_true, decide_false, Bool.not_true, Bool.not_false, o_mul_u, o_div_u, o_mod_u, o_pow_u, o_eqS, o_neS, o_intB, o_lenS, o_lenO, o_lenB, o_iaddI, S_s1, kS1_, kS1b_, S_lm, kLm_bor, kLm_own, kLmb_, S_tab, o_ixT, o_ixS, S_put, kPut_, kPutK_, S_zip2, kZip_, kZipb_tup, o_sum, o_sumB, o_tupB, o_tupL, o_lenT, S_range1, kRng_3, S_tgtL, kTgtL_, List.nil_append, List.cons_append, Nat.reduceLT, SZ, forall_const, true_implies]
  refine S_isShapeD hf (by decide) ?_
  simp only [S_var, S_C, S_op1, k1_, S_op2, k2_, k2b_, S_nil, S_cons, kc_, kcb_, S_opN, kN_, S_tup, S_lst, kT_u, kL_u, stoL_nil, stoL_dat, stoL_own, consO_some, SatO_some, S_call, kCall_u, S_if, S_ifS, kI_true, kI_false, S_andV, S_orV, kAndV_true, kAndV_false, kOrV_true, kOrV_false, S_test, kTest_, S_tru, kTru_, S_and, S_or, S_not, kAnd_true, kAnd_false, kOr_true, kOr_false, kNot_, S_seq, kS_nx, kS_rt, kS_bk, kS_ct, S_pass, S_set, kSet_dat, kSet_own, S_par, kP_, kPb_, S_ret', kR_, S_retN, S_break, S_cont, S_for, kF_, S_forNil, kFb_nx, kFb_ct, kFb_bk, kFb_rt, S_items, kItems_tup, kItems_lst, kItems_own, S_lc, kLc_, S_lcNil, S_yes, kD_rt, kD_nx, Rv.ret, gt, st, kVar_dat, kVar_own, o_add, o_sub, o_eq, o_ne, o_lt, o_le, o_gt, o_ge, o_eqB, o_neB, o_is2, o_isnot2, o_abs, o_ix, o_ixO, o_ixB, o_ixL, o_tupO, o_isBool, map_some', wp, tgN_, List.length_cons, List.length_nil, Nat.reduceAdd, Nat.reduceLeDiff, true_and, decide_true, decide_false, Bool.not_true, Bool.not_false, o_mul_u, o_div_u, o_mod_u, o_pow_u, o_eqS, o_neS, o_intB, o_lenS, o_lenO, o_lenB, o_iaddI, S_s1, kS1_, kS1b_, S_lm, kLm_bor, kLm_own, kLmb_, S_tab, o_ixT, o_ixS, S_put, kPut_, kPutK_, S_zip2, kZip_, kZipb_tup, o_sum, o_sumB, o_tupB, o_tupL, o_lenT, S_range1, kRng_3, S_tgtL, kTgtL_, List.nil_append, List.cons_append, Nat.reduceLT, SZ, forall_const, true_implies]
  rw [S_frz_dat rfl]
  simp only [S_var, S_C, S_op1, k1_, S_op2, k2_, k2b_, S_nil, S_cons, kc_, kcb_, S_opN, kN_, S_tup, S_lst, kT_u, kL_u, stoL_nil, stoL_dat, stoL_own, consO_some, SatO_some, S_call, kCall_u, S_if, S_ifS, kI_true, kI_false, S_andV, S_orV, kAndV_true, kAndV_false, kOrV_true, kOrV_false, S_test, kTest_, S_tru, kTru_, S_and, S_or, S_not, kAnd_true, kAnd_false, kOr_true, kOr_false, kNot_, S_seq, kS_nx, kS_rt, kS_bk, kS_ct, S_pass, S_set, kSet_dat, kSet_own, S_par, kP_, kPb_, S_ret', kR_, S_retN, S_break, S_cont, S_for, kF_, S_forNil, kFb_nx, kFb_ct, kFb_bk, kFb_rt, S_items, kItems_tup, kItems_lst, kItems_own, S_lc, kLc_, S_lcNil, S_yes, kD_rt, kD_nx, Rv.ret, gt, st, kVar_dat, kVar_own, o_add, o_sub, o_eq, o_ne, o_lt, o_le, o_gt, o_ge, o_eqB, o_neB, o_is2, o_isnot2, o_abs, o_ix, o_ixO, o_ixB, o_ixL, o_tupO, o_isBool, map_some', wp, tgN_, List.length_cons, List.length_nil, Nat.reduceAdd, Nat.reduceLeDiff, true_and, decide_true, decide_false, Bool.not_true, Bool.not_false, o_mul_u, o_div_u, o_mod_u, o_pow_u, o_eqS, o_neS, o_intB, o_lenS, o_lenO, o_lenB, o_iaddI, S_s1, kS1_, kS1b_, S_lm, kLm_bor, kLm_own, kLmb_, S_tab, o_ixT, o_ixS, S_put, kPut_, kPutK_, S_zip2, kZip_, kZipb_tup, o_sum, o_sumB, o_tupB, o_tupL, o_lenT, S_range1, kRng_3, S_tgtL, kTgtL_, List.nil_append, List.cons_append, Nat.reduceLT, SZ, forall_const, true_implies, S_op1, k1_, isb]
  refine S_lisShapeD hf (by decide) ?_
  simp only [S_var, S_C, S_op1, k1_, S_op2, k2_, k2b_, S_nil, S_cons, kc_, kcb_, S_opN, kN_, S_tup, S_lst, kT_u, kL_u, stoL_nil, stoL_dat, stoL_own, consO_some, SatO_some, S_call, kCall_u, S_if, S_ifS, kI_true, kI_false, S_andV, S_orV, kAndV_true, kAndV_false, kOrV_true, kOrV_false, S_test, kTest_, S_tru, kTru_, S_and, S_or, S_not, kAnd_true, kAnd_false, kOr_true, kOr_false, kNot_, S_seq, kS_nx, kS_rt, kS_bk, kS_ct, S_pass, S_set, kSet_dat, kSet_own, S_par, kP_, kPb_, S_ret', kR_, S_retN, S_break, S_cont, S_for, kF_, S_forNil, kFb_nx, kFb_ct, kFb_bk, kFb_rt, S_items, kItems_tup, kItems_lst, kItems_own, S_lc, kLc_, S_lcNil, S_yes, kD_rt, kD_nx, Rv.ret, gt, st, kVar_dat, kVar_own, o_add, o_sub, o_eq, o_ne, o_lt, o_le, o_gt, o_ge, o_eqB, o_neB, o_is2, o_isnot2, o_abs, o_ix, o_ixO, o_ixB, o_ixL, o_tupO, o_isBool, map_some', wp, tgN_, List.length_cons, List.length_nil, Nat.reduceAdd, Nat.reduceLeDiff, true_and, decide_true, decide_false, Bool.not_true, Bool.not_false, o_mul_u, o_div_u, o_mod_u, o_pow_u, o_eqS, o_neS, o_intB, o_lenS, o_lenO, o_lenB, o_iaddI, S_s1, kS1_, kS1b_, S_lm, kLm_bor, kLm_own, kLmb_, S_tab, o_ixT, o_ixS, S_put, kPut_, kPutK_, S_zip2, kZip_, kZipb_tup, o_sum, o_sumB, o_tupB, o_tupL, o_lenT, S_range1, kRng_3, S_tgtL, kTgtL_, List.nil_append, List.cons_append, Nat.reduceLT, SZ, forall_const, true_implies, beq_self_eq_true]
  rw [S_frz_dat rfl]
  simp only [S_var, S_C, S_op1, k1_, S_op2, k2_, k2b_, S_nil, S_cons, kc_, kcb_, S_opN, kN_, S_tup, S_lst, kT_u, kL_u, stoL_nil, stoL_dat, stoL_own, consO_some, SatO_some, S_call, kCall_u, S_if, S_ifS, kI_true, kI_false, S_andV, S_orV, kAndV_true, kAndV_false, kOrV_true, kOrV_false, S_test, kTest_, S_tru, kTru_, S_and, S_or, S_not, kAnd_true, kAnd_false, kOr_true, kOr_false, kNot_, S_seq, kS_nx, kS_rt, kS_bk, kS_ct, S_pass, S_set, kSet_dat, kSet_own, S_par, kP_, kPb_, S_ret', kR_, S_retN, S_break, S_cont, S_for, kF_, S_forNil, kFb_nx, kFb_ct, kFb_bk, kFb_rt, S_items, kItems_tup, kItems_lst, kItems_own, S_lc, kLc_, S_lcNil, S_yes, kD_rt, kD_nx, Rv.ret, gt, st, kVar_dat, kVar_own, o_add, o_sub, o_eq, o_ne, o_lt, o_le, o_gt, o_ge, o_eqB, o_neB, o_is2, o_isnot2, o_abs, o_ix, o_ixO, o_ixB, o_ixL, o_tupO, o_isBool, map_some', wp, tgN_, List.length_cons, List.length_nil, Nat.reduceAdd, Nat.reduceLeDiff, true_and, decide_true, decide_false, Bool.not_true, Bool.not_false, o_mul_u, o_div_u, o_mod_u, o_pow_u, o_eqS, o_neS, o_intB, o_lenS, o_lenO, o_lenB, o_iaddI, S_s1, kS1_, kS1b_, S_lm, kLm_bor, kLm_own, kLmb_, S_tab, o_ixT, o_ixS, S_put, kPut_, kPutK_, S_zip2, kZip_, kZipb_tup, o_sum, o_sumB, o_tupB, o_tupL, o_lenT, S_range1, kRng_3, S_tgtL, kTgtL_, List.nil_append, List.cons_append, Nat.reduceLT, SZ, forall_const, true_implies]
  refine S_isShape hS (by decide) (by decide) ?_
  simp only [S_var, S_C, S_op1, k1_, S_op2, k2_, k2b_, S_nil, S_cons, kc_, kcb_, S_opN, kN_, S_tup, S_lst, kT_u, kL_u, stoL_nil, stoL_dat, stoL_own, consO_some, SatO_some, S_call, kCall_u, S_if, S_ifS, kI_true, kI_false, S_andV, S_orV, kAndV_true, kAndV_false, kOrV_true, kOrV_false, S_test, kTest_, S_tru, kTru_, S_and, S_or, S_not, kAnd_true, kAnd_false, kOr_true, kOr_false, kNot_, S_seq, kS_nx, kS_rt, kS_bk, kS_ct, S_pass, S_set, kSet_dat, kSet_own, S_par, kP_, kPb_, S_ret', kR_, S_retN, S_break, S_cont, S_for, kF_, S_forNil, kFb_nx, kFb_ct, kFb_bk, kFb_rt, S_items, kItems_tup, kItems_lst, kItems_own, S_lc, kLc_, S_lcNil, S_yes, kD_rt, kD_nx, Rv.ret, gt, st, kVar_dat, kVar_own, o_add, o_sub, o_eq, o_ne, o_lt, o_le, o_gt, o_ge, o_eqB, o_neB, o_is2, o_isnot2, o_abs, o_ix, o_ixO, o_ixB, o_ixL, o_tupO, o_isBool, map_some', wp, tgN_, List.length_cons, List.length_nil, Nat.reduceAdd, Nat.reduceLeDiff, true_and, decide_true, decide_false, Bool.not_true, Bool.not_false, o_mul_u, o_div_u, o_mod_u, o_pow_u, o_eqS, o_neS, o_intB, o_lenS, o_lenO, o_lenB, o_iaddI, S_s1, kS1_, kS1b_, S_lm, kLm_bor, kLm_own, kLmb_, S_tab, o_ixT, o_ixS, S_put, kPut_, kPutK_, S_zip2, kZip_, kZipb_tup, o_sum, o_sumB, o_tupB, o_tupL, o_lenT, S_range1, kRng_3, S_tgtL, kTgtL_, List.nil_append, List.cons_append, Nat.reduceLT, SZ, forall_const, true_implies, t1, wh]
  refine S_isShape (n := 1) (k := 3) whole_shpS (by decide) (by decide) ?_
  have e : oEq (.dat (shp wholeL)) (.dat (shp wholeL)) = some (.dat (.bl true)) := by
    rw [eq_shp, decide_eq_true rfl]
  simp only [S_var, S_C, S_op1, k1_, S_op2, k2_, k2b_, S_nil, S_cons, kc_, kcb_, S_opN, kN_, S_tup, S_lst, kT_u, kL_u, stoL_nil, stoL_dat, stoL_own, consO_some, SatO_some, S_call, kCall_u, S_if, S_ifS, kI_true, kI_false, S_andV, S_orV, kAndV_true, kAndV_false, kOrV_true, kOrV_false, S_test, kTest_, S_tru, kTru_, S_and, S_or, S_not, kAnd_true, kAnd_false, kOr_true, kOr_false, kNot_, S_seq, kS_nx, kS_rt, kS_bk, kS_ct, S_pass, S_set, kSet_dat, kSet_own, S_par, kP_, kPb_, S_ret', kR_, S_retN, S_break, S_cont, S_for, kF_, S_forNil, kFb_nx, kFb_ct, kFb_bk, kFb_rt, S_items, kItems_tup, kItems_lst, kItems_own, S_lc, kLc_, S_lcNil, S_yes, kD_rt, kD_nx, Rv.ret, gt, st, kVar_dat, kVar_own, o_add, o_sub, o_eq, o_ne, o_lt, o_le, o_gt, o_ge, o_eqB, o_neB, o_is2, o_isnot2, o_abs, o_ix, o_ixO, o_ixB, o_ixL, o_tupO, o_isBool, map_some', wp, tgN_, List.length_cons, List.length_nil, Nat.reduceAdd, Nat.reduceLeDiff, true_and, decide_true, decide_false, Bool.not_true, Bool.not_false, o_mul_u, o_div_u, o_mod_u, o_pow_u, o_eqS, o_neS, o_intB, o_lenS, o_lenO, o_lenB, o_iaddI, S_s1, kS1_, kS1b_, S_lm, kLm_bor, kLm_own, kLmb_, S_tab, o_ixT, o_ixS, S_put, kPut_, kPutK_, S_zip2, kZip_, kZipb_tup, o_sum, o_sumB, o_tupB, o_tupL, o_lenT, S_range1, kRng_3, S_tgtL, kTgtL_, List.nil_append, List.cons_append, Nat.reduceLT, SZ, forall_const, true_implies, t1, wh, e]
theorem law_pure (s : LS) (hs : s.Ok) (hc : s.cnt = 0) : ∃ g', m_law (.un :: .dat (.ref s.a) :: List.replicate 4 .un) s = .ok (.rt (.dat (.bl true))) g' := by
  have fin : Sat (m_law (.un :: .dat (.ref s.a) :: List.replicate 4 .un) s) fun f _ => f = .rt (.dat (.bl true)) := by
    have h0 : Bud s.a 90 s := ⟨hs, rfl, by omega⟩
    generalize hA : s.a = a at *
    show Sat (m_law [.un, .dat (.ref a), .un, .un, .un, .un] s) _
    have law_eq : m_law = (mSeq (mFrz 1) (mSeq (mSet 2 (mCall F__law_draw (mCons (mVar 1) (mCons (mC (.int 13)) mNil))))
      (mSeq (mFrz 1) (mSeq (mSet 3 (mCall F__law_shape (mCons (mVar 1) (mCons (mC (.int 4)) (mCons (mOp2 oIx (mLst (mCons (mC (.int 2)) (mCons (mC (.int 9)) (mCons (mOp2 oPow (mC (.int 10)) (mC (.int 6))) mNil)))) (mCall F__law_draw (mCons (mVar 1) (mCons (mC (.int 3)) mNil)))) mNil)))))
      (mSeq (mFrz 1) (mSeq (mIfS (mTest (mOp2 oEq (mCall F__law_draw (mCons (mVar 1) (mCons (mC (.int 8)) mNil))) (mC (.int 1)))) (mSeq (mFrz 1) (mSet 3 (mCall F__law_ring (mCons (mVar 1) mNil)))) mPass)
      (mSeq (mSet 4 (mVar 3))
      (mSeq (mIfS (mTest (mOp2 oEq (mVar 2) (mC (.int 12)))) (mSeq (mFrz 3) (mSeq (mFrz 1) (mSet 4 (mCall (F__law_odd 10) (mCons (mVar 1) (mCons (mVar 3) mNil)))))) (mIfS (mTest (mOp2 oGt (mVar 2) (mC (.int 0)))) (mSeq (mFrz 2) (mSeq (mFrz 3) (mSeq (mFrz 1) (mSet 4 (mCall F__law_amiss (mCons (mVar 1) (mCons (mVar 3) (mCons (mVar 2) mNil)))))))) mPass))
      endM)))))))) := rfl
    rw [law_eq, e_draw, e_shape, e_ring, e_odd]
    rw [S_seq, S_frz_dat rfl, kS_nx]
    simp only [S_var, S_C, S_op1, k1_, S_op2, k2_, k2b_, S_nil, S_cons, kc_, kcb_, S_opN, kN_, S_tup, S_lst, kT_u, kL_u, stoL_nil, stoL_dat, stoL_own, consO_some, SatO_some, S_call, kCall_u, S_if, S_ifS, kI_true, kI_false, S_andV, S_orV, kAndV_true, kAndV_false, kOrV_true, kOrV_false, S_test, kTest_, S_tru, kTru_, S_and, S_or, S_not, kAnd_true, kAnd_false, kOr_true, kOr_false, kNot_, S_seq, kS_nx, kS_rt, kS_bk, kS_ct, S_pass, S_set, kSet_dat, kSet_own, S_par, kP_, kPb_, S_ret', kR_, S_retN, S_break, S_cont, S_for, kF_, S_forNil, kFb_nx, kFb_ct, kFb_bk, kFb_rt, S_items, kItems_tup, kItems_lst, kItems_own, S_lc, kLc_, S_lcNil, S_yes, kD_rt, kD_nx, Rv.ret, gt, st, kVar_dat, kVar_own, o_add, o_sub, o_eq, o_ne, o_lt, o_le, o_gt, o_ge, o_eqB, o_neB, o_is2, o_isnot2, o_abs, o_ix, o_ixO, o_ixB, o_ixL, o_tupO, o_isBool, map_some', wp, tgN_, List.length_cons, List.length_nil, Nat.reduceAdd, Nat.reduceLeDiff, true_and, decide_true, decide_false, Bool.not_true, Bool.not_false, o_mul_u, o_div_u, o_mod_u, o_pow_u, o_eqS, o_neS, o_intB, o_lenS, o_lenO, o_lenB, o_iaddI, S_s1, kS1_, kS1b_, S_lm, kLm_bor, kLm_own, kLmb_, S_tab, o_ixT, o_ixS, S_put, kPut_, kPutK_, S_zip2, kZip_, kZipb_tup, o_sum, o_sumB, o_tupB, o_tupL, o_lenT, S_range1, kRng_3, S_tgtL, kTgtL_, List.nil_append, List.cons_append, Nat.reduceLT, SZ, forall_const, true_implies]
    refine S_drawN (n := 13) (b := 89) h0 (by decide) (by decide) fun way s1 hw h1 => ?_
    simp only [S_var, S_C, S_op1, k1_, S_op2, k2_, k2b_, S_nil, S_cons, kc_, kcb_, S_opN, kN_, S_tup, S_lst, kT_u, kL_u, stoL_nil, stoL_dat, stoL_own, consO_some, SatO_some, S_call, kCall_u, S_if, S_ifS, kI_true, kI_false, S_andV, S_orV, kAndV_true, kAndV_false, kOrV_true, kOrV_false, S_test, kTest_, S_tru, kTru_, S_and, S_or, S_not, kAnd_true, kAnd_false, kOr_true, kOr_false, kNot_, S_seq, kS_nx, kS_rt, kS_bk, kS_ct, S_pass, S_set, kSet_dat, kSet_own, S_par, kP_, kPb_, S_ret', kR_, S_retN, S_break, S_cont, S_for, kF_, S_forNil, kFb_nx, kFb_ct, kFb_bk, kFb_rt, S_items, kItems_tup, kItems_lst, kItems_own, S_lc, kLc_, S_lcNil, S_yes, kD_rt, kD_nx, Rv.ret, gt, st, kVar_dat, kVar_own, o_add, o_sub, o_eq, o_ne, o_lt, o_le, o_gt, o_ge, o_eqB, o_neB, o_is2, o_isnot2, o_abs, o_ix, o_ixO, o_ixB, o_ixL, o_tupO, o_isBool, map_some', wp, tgN_, List.length_cons, List.length_nil, Nat.reduceAdd, Nat.reduceLeDiff, true_and, decide_true, decide_false, Bool.not_true, Bool.not_false, o_mul_u, o_div_u, o_mod_u, o_pow_u, o_eqS, o_neS, o_intB, o_lenS, o_lenO, o_lenB, o_iaddI, S_s1, kS1_, kS1b_, S_lm, kLm_bor, kLm_own, kLmb_, S_tab, o_ixT, o_ixS, S_put, kPut_, kPutK_, S_zip2, kZip_, kZipb_tup, o_sum, o_sumB, o_tupB, o_tupL, o_lenT, S_range1, kRng_3, S_tgtL, kTgtL_, List.nil_append, List.cons_append, Nat.reduceLT, SZ, forall_const, true_implies]
    rw [S_frz_dat rfl]
    simp only [S_var, S_C, S_op1, k1_, S_op2, k2_, k2b_, S_nil, S_cons, kc_, kcb_, S_opN, kN_, S_tup, S_lst, kT_u, kL_u, stoL_nil, stoL_dat, stoL_own, consO_some, SatO_some, S_call, kCall_u, S_if, S_ifS, kI_true, kI_false, S_andV, S_orV, kAndV_true, kAndV_false, kOrV_true, kOrV_false, S_test, kTest_, S_tru, kTru_, S_and, S_or, S_not, kAnd_true, kAnd_false, kOr_true, kOr_false, kNot_, S_seq, kS_nx, kS_rt, kS_bk, kS_ct, S_pass, S_set, kSet_dat, kSet_own, S_par, kP_, kPb_, S_ret', kR_, S_retN, S_break, S_cont, S_for, kF_, S_forNil, kFb_nx, kFb_ct, kFb_bk, kFb_rt, S_items, kItems_tup, kItems_lst, kItems_own, S_lc, kLc_, S_lcNil, S_yes, kD_rt, kD_nx, Rv.ret, gt, st, kVar_dat, kVar_own, o_add, o_sub, o_eq, o_ne, o_lt, o_le, o_gt, o_ge, o_eqB, o_neB, o_is2, o_isnot2, o_abs, o_ix, o_ixO, o_ixB, o_ixL, o_tupO, o_isBool, map_some', wp, tgN_, List.length_cons, List.length_nil, Nat.reduceAdd, Nat.reduceLeDiff, true_and, decide_true, decide_false, Bool.not_true, Bool.not_false, o_mul_u, o_div_u, o_mod_u, o_pow_u, o_eqS, o_neS, o_intB, o_lenS, o_lenO, o_lenB, o_iaddI, S_s1, kS1_, kS1b_, S_lm, kLm_bor, kLm_own, kLmb_, S_tab, o_ixT, o_ixS, S_put, kPut_, kPutK_, S_zip2, kZip_, kZipb_tup, o_sum, o_sumB, o_tupB, o_tupL, o_lenT, S_range1, kRng_3, S_tgtL, kTgtL_, List.nil_append, List.cons_append, Nat.reduceLT, SZ, forall_const, true_implies]
    refine ⟨by decide, ?_⟩
    refine S_draw (b := 88) h1 (by decide) (by decide) fun i1 s2 i10 i11 h2 => ?_
    obtain ⟨z, z0, z1, ez⟩ : ∃ z : Int, 0 ≤ z ∧ z < 2 ^ 20 ∧ atI [D.int 2, .int 9, .int (10 ^ (6 : Int).toNat)] i1 = some (.int z) := by
      rcases (by omega : i1 = 0 ∨ i1 = 1 ∨ i1 = 2) with rfl | rfl | rfl
      · exact ⟨2, by decide, by decide, rfl⟩
      · exact ⟨9, by decide, by decide, rfl⟩
      · exact ⟨10 ^ 6, by decide, by decide, rfl⟩
    try rw [k2b_, o_ixO]
    rw [ez]
    simp only [S_var, S_C, S_op1, k1_, S_op2, k2_, k2b_, S_nil, S_cons, kc_, kcb_, S_opN, kN_, S_tup, S_lst, kT_u, kL_u, stoL_nil, stoL_dat, stoL_own, consO_some, SatO_some, S_call, kCall_u, S_if, S_ifS, kI_true, kI_false, S_andV, S_orV, kAndV_true, kAndV_false, kOrV_true, kOrV_false, S_test, kTest_, S_tru, kTru_, S_and, S_or, S_not, kAnd_true, kAnd_false, kOr_true, kOr_false, kNot_, S_seq, kS_nx, kS_rt, kS_bk, kS_ct, S_pass, S_set, kSet_dat, kSet_own, S_par, kP_, kPb_, S_ret', kR_, S_retN, S_break, S_cont, S_for, kF_, S_forNil, kFb_nx, kFb_ct, kFb_bk, kFb_rt, S_items, kItems_tup, kItems_lst, kItems_own, S_lc, kLc_, S_lcNil, S_yes, kD_rt, kD_nx, Rv.ret, gt, st, kVar_dat, kVar_own, o_add, o_sub, o_eq, o_ne, o_lt, o_le, o_gt, o_ge, o_eqB, o_neB, o_is2, o_isnot2, o_abs, o_ix, o_ixO, o_ixB, o_ixL, o_tupO, o_isBool, map_some', wp, tgN_, List.length_cons, List.length_nil, Nat.reduceAdd, Nat.reduceLeDiff, true_and, decide_true, decide_false, Bool.not_true, Bool.not_false, o_mul_u, o_div_u, o_mod_u, o_pow_u, o_eqS, o_neS, o_intB, o_lenS, o_lenO, o_lenB, o_iaddI, S_s1, kS1_, kS1b_, S_lm, kLm_bor, kLm_own, kLmb_, S_tab, o_ixT, o_ixS, S_put, kPut_, kPutK_, S_zip2, kZip_, kZipb_tup, o_sum, o_sumB, o_tupB, o_tupL, o_lenT, S_range1, kRng_3, S_tgtL, kTgtL_, List.nil_append, List.cons_append, Nat.reduceLT, SZ, forall_const, true_implies]
    refine S_lshapeS (b := 67) (many := 4) (m := 20) h2 (by decide) z0 z1 (by decide) (by decide) fun vs s3 hS h3 => ?_
    have hS : ShpS 400 48 vs := hS
    simp only [S_var, S_C, S_op1, k1_, S_op2, k2_, k2b_, S_nil, S_cons, kc_, kcb_, S_opN, kN_, S_tup, S_lst, kT_u, kL_u, stoL_nil, stoL_dat, stoL_own, consO_some, SatO_some, S_call, kCall_u, S_if, S_ifS, kI_true, kI_false, S_andV, S_orV, kAndV_true, kAndV_false, kOrV_true, kOrV_false, S_test, kTest_, S_tru, kTru_, S_and, S_or, S_not, kAnd_true, kAnd_false, kOr_true, kOr_false, kNot_, S_seq, kS_nx, kS_rt, kS_bk, kS_ct, S_pass, S_set, kSet_dat, kSet_own, S_par, kP_, kPb_, S_ret', kR_, S_retN, S_break, S_cont, S_for, kF_, S_forNil, kFb_nx, kFb_ct, kFb_bk, kFb_rt, S_items, kItems_tup, kItems_lst, kItems_own, S_lc, kLc_, S_lcNil, S_yes, kD_rt, kD_nx, Rv.ret, gt, st, kVar_dat, kVar_own, o_add, o_sub, o_eq, o_ne, o_lt, o_le, o_gt, o_ge, o_eqB, o_neB, o_is2, o_isnot2, o_abs, o_ix, o_ixO, o_ixB, o_ixL, o_tupO, o_isBool, map_some', wp, tgN_, List.length_cons, List.length_nil, Nat.reduceAdd, Nat.reduceLeDiff, true_and, decide_true, decide_false, Bool.not_true, Bool.not_false, o_mul_u, o_div_u, o_mod_u, o_pow_u, o_eqS, o_neS, o_intB, o_lenS, o_lenO, o_lenB, o_iaddI, S_s1, kS1_, kS1b_, S_lm, kLm_bor, kLm_own, kLmb_, S_tab, o_ixT, o_ixS, S_put, kPut_, kPutK_, S_zip2, kZip_, kZipb_tup, o_sum, o_sumB, o_tupB, o_tupL, o_lenT, S_range1, kRng_3, S_tgtL, kTgtL_, List.nil_append, List.cons_append, Nat.reduceLT, SZ, forall_const, true_implies]
    rw [S_frz_dat rfl]
    simp only [S_var, S_C, S_op1, k1_, S_op2, k2_, k2b_, S_nil, S_cons, kc_, kcb_, S_opN, kN_, S_tup, S_lst, kT_u, kL_u, stoL_nil, stoL_dat, stoL_own, consO_some, SatO_some, S_call, kCall_u, S_if, S_ifS, kI_true, kI_false, S_andV, S_orV, kAndV_true, kAndV_false, kOrV_true, kOrV_false, S_test, kTest_, S_tru, kTru_, S_and, S_or, S_not, kAnd_true, kAnd_false, kOr_true, kOr_false, kNot_, S_seq, kS_nx, kS_rt, kS_bk, kS_ct, S_pass, S_set, kSet_dat, kSet_own, S_par, kP_, kPb_, S_ret', kR_, S_retN, S_break, S_cont, S_for, kF_, S_forNil, kFb_nx, kFb_ct, kFb_bk, kFb_rt, S_items, kItems_tup, kItems_lst, kItems_own, S_lc, kLc_, S_lcNil, S_yes, kD_rt, kD_nx, Rv.ret, gt, st, kVar_dat, kVar_own, o_add, o_sub, o_eq, o_ne, o_lt, o_le, o_gt, o_ge, o_eqB, o_neB, o_is2, o_isnot2, o_abs, o_ix, o_ixO, o_ixB, o_ixL, o_tupO, o_isBool, map_some', wp, tgN_, List.length_cons, List.length_nil, Nat.reduceAdd, Nat.reduceLeDiff, true_and, decide_true, decide_false, Bool.not_true, Bool.not_false, o_mul_u, o_div_u, o_mod_u, o_pow_u, o_eqS, o_neS, o_intB, o_lenS, o_lenO, o_lenB, o_iaddI, S_s1, kS1_, kS1b_, S_lm, kLm_bor, kLm_own, kLmb_, S_tab, o_ixT, o_ixS, S_put, kPut_, kPutK_, S_zip2, kZip_, kZipb_tup, o_sum, o_sumB, o_tupB, o_tupL, o_lenT, S_range1, kRng_3, S_tgtL, kTgtL_, List.nil_append, List.cons_append, Nat.reduceLT, SZ, forall_const, true_implies]
    refine S_draw (b := 66) h3 (by decide) (by decide) fun e s4 e0 e1 h4 => ?_
    have tail : ∀ (us : List V3) (s5 : LS), ShpS 400 48 us → Bud a 25 s5 → Sat (mSeq (mSet 4 (mVar 3))
      (mSeq (mIfS (mTest (mOp2 oEq (mVar 2) (mC (.int 12)))) (mSeq (mFrz 3) (mSeq (mFrz 1) (mSet 4 (mCall (oddF 10) (mCons (mVar 1) (mCons (mVar 3) mNil)))))) (mIfS (mTest (mOp2 oGt (mVar 2) (mC (.int 0)))) (mSeq (mFrz 2) (mSeq (mFrz 3) (mSeq (mFrz 1) (mSet 4 (mCall F__law_amiss (mCons (mVar 1) (mCons (mVar 3) (mCons (mVar 2) mNil)))))))) mPass))
      endM) [.un, .dat (.ref a), .dat (.int (way : Nat)), .dat (shp us), .un, .un] s5) fun f _ => f = .rt (.dat (.bl true)) := by
      intro us s5 hU h5
      have hus : Sm 60 2 (shp us) := ⟨by rw [List.length_map]; have := hU.le; omega, sm_shp hU⟩
      simp only [S_var, S_C, S_op1, k1_, S_op2, k2_, k2b_, S_nil, S_cons, kc_, kcb_, S_opN, kN_, S_tup, S_lst, kT_u, kL_u, stoL_nil, stoL_dat, stoL_own, consO_some, SatO_some, S_call, kCall_u, S_if, S_ifS, kI_true, kI_false, S_andV, S_orV, kAndV_true, kAndV_false, kOrV_true, kOrV_false, S_test, kTest_, S_tru, kTru_, S_and, S_or, S_not, kAnd_true, kAnd_false, kOr_true, kOr_false, kNot_, S_seq, kS_nx, kS_rt, kS_bk, kS_ct, S_pass, S_set, kSet_dat, kSet_own, S_par, kP_, kPb_, S_ret', kR_, S_retN, S_break, S_cont, S_for, kF_, S_forNil, kFb_nx, kFb_ct, kFb_bk, kFb_rt, S_items, kItems_tup, kItems_lst, kItems_own, S_lc, kLc_, S_lcNil, S_yes, kD_rt, kD_nx, Rv.ret, gt, st, kVar_dat, kVar_own, o_add, o_sub, o_eq, o_ne, o_lt, o_le, o_gt, o_ge, o_eqB, o_neB, o_is2, o_isnot2, o_abs, o_ix, o_ixO, o_ixB, o_ixL, o_tupO, o_isBool, map_some', wp, tgN_, List.length_cons, List.length_nil, Nat.reduceAdd, Nat.reduceLeDiff, true_and, decide_true, decide_false, Bool.not_true, Bool.not_false, o_mul_u, o_div_u, o_mod_u, o_pow_u, o_eqS, o_neS, o_intB, o_lenS, o_lenO, o_lenB, o_iaddI, S_s1, kS1_, kS1b_, S_lm, kLm_bor, kLm_own, kLmb_, S_tab, o_ixT, o_ixS, S_put, kPut_, kPutK_, S_zip2, kZip_, kZipb_tup, o_sum, o_sumB, o_tupB, o_tupL, o_lenT, S_range1, kRng_3, S_tgtL, kTgtL_, List.nil_append, List.cons_append, Nat.reduceLT, SZ, forall_const, true_implies]
      refine kI_d (fun _ => ?_) (fun _ => ?_)
      · rw [S_seq, S_frz_dat rfl, kS_nx, S_seq, S_frz_dat rfl, kS_nx]
        simp only [S_var, S_C, S_op1, k1_, S_op2, k2_, k2b_, S_nil, S_cons, kc_, kcb_, S_opN, kN_, S_tup, S_lst, kT_u, kL_u, stoL_nil, stoL_dat, stoL_own, consO_some, SatO_some, S_call, kCall_u, S_if, S_ifS, kI_true, kI_false, S_andV, S_orV, kAndV_true, kAndV_false, kOrV_true, kOrV_false, S_test, kTest_, S_tru, kTru_, S_and, S_or, S_not, kAnd_true, kAnd_false, kOr_true, kOr_false, kNot_, S_seq, kS_nx, kS_rt, kS_bk, kS_ct, S_pass, S_set, kSet_dat, kSet_own, S_par, kP_, kPb_, S_ret', kR_, S_retN, S_break, S_cont, S_for, kF_, S_forNil, kFb_nx, kFb_ct, kFb_bk, kFb_rt, S_items, kItems_tup, kItems_lst, kItems_own, S_lc, kLc_, S_lcNil, S_yes, kD_rt, kD_nx, Rv.ret, gt, st, kVar_dat, kVar_own, o_add, o_sub, o_eq, o_ne, o_lt, o_le, o_gt, o_ge, o_eqB, o_neB, o_is2, o_isnot2, o_abs, o_ix, o_ixO, o_ixB, o_ixL, o_tupO, o_isBool, map_some', wp, tgN_, List.length_cons, List.length_nil, Nat.reduceAdd, Nat.reduceLeDiff, true_and, decide_true, decide_false, Bool.not_true, Bool.not_false, o_mul_u, o_div_u, o_mod_u, o_pow_u, o_eqS, o_neS, o_intB, o_lenS, o_lenO, o_lenB, o_iaddI, S_s1, kS1_, kS1b_, S_lm, kLm_bor, kLm_own, kLmb_, S_tab, o_ixT, o_ixS, S_put, kPut_, kPutK_, S_zip2, kZip_, kZipb_tup, o_sum, o_sumB, o_tupB, o_tupL, o_lenT, S_range1, kRng_3, S_tgtL, kTgtL_, List.nil_append, List.cons_append, Nat.reduceLT, SZ, forall_const, true_implies]
        refine S_odd (L := 60) (b := 10) (by decide) (by decide) 10 2 (shp us) s5 _ hus (by decide) (h5.le (by decide)) fun d' s6 hd' h6 => ?_
        simp only [S_var, S_C, S_op1, k1_, S_op2, k2_, k2b_, S_nil, S_cons, kc_, kcb_, S_opN, kN_, S_tup, S_lst, kT_u, kL_u, stoL_nil, stoL_dat, stoL_own, consO_some, SatO_some, S_call, kCall_u, S_if, S_ifS, kI_true, kI_false, S_andV, S_orV, kAndV_true, kAndV_false, kOrV_true, kOrV_false, S_test, kTest_, S_tru, kTru_, S_and, S_or, S_not, kAnd_true, kAnd_false, kOr_true, kOr_false, kNot_, S_seq, kS_nx, kS_rt, kS_bk, kS_ct, S_pass, S_set, kSet_dat, kSet_own, S_par, kP_, kPb_, S_ret', kR_, S_retN, S_break, S_cont, S_for, kF_, S_forNil, kFb_nx, kFb_ct, kFb_bk, kFb_rt, S_items, kItems_tup, kItems_lst, kItems_own, S_lc, kLc_, S_lcNil, S_yes, kD_rt, kD_nx, Rv.ret, gt, st, kVar_dat, kVar_own, o_add, o_sub, o_eq, o_ne, o_lt, o_le, o_gt, o_ge, o_eqB, o_neB, o_is2, o_isnot2, o_abs, o_ix, o_ixO, o_ixB, o_ixL, o_tupO, o_isBool, map_some', wp, tgN_, List.length_cons, List.length_nil, Nat.reduceAdd, Nat.reduceLeDiff, true_and, decide_true, decide_false, Bool.not_true, Bool.not_false, o_mul_u, o_div_u, o_mod_u, o_pow_u, o_eqS, o_neS, o_intB, o_lenS, o_lenO, o_lenB, o_iaddI, S_s1, kS1_, kS1b_, S_lm, kLm_bor, kLm_own, kLmb_, S_tab, o_ixT, o_ixS, S_put, kPut_, kPutK_, S_zip2, kZip_, kZipb_tup, o_sum, o_sumB, o_tupB, o_tupL, o_lenT, S_range1, kRng_3, S_tgtL, kTgtL_, List.nil_append, List.cons_append, Nat.reduceLT, SZ, forall_const, true_implies]
        exact S_end hU (hd'.up (by decide) (by decide))
      · simp only [S_var, S_C, S_op1, k1_, S_op2, k2_, k2b_, S_nil, S_cons, kc_, kcb_, S_opN, kN_, S_tup, S_lst, kT_u, kL_u, stoL_nil, stoL_dat, stoL_own, consO_some, SatO_some, S_call, kCall_u, S_if, S_ifS, kI_true, kI_false, S_andV, S_orV, kAndV_true, kAndV_false, kOrV_true, kOrV_false, S_test, kTest_, S_tru, kTru_, S_and, S_or, S_not, kAnd_true, kAnd_false, kOr_true, kOr_false, kNot_, S_seq, kS_nx, kS_rt, kS_bk, kS_ct, S_pass, S_set, kSet_dat, kSet_own, S_par, kP_, kPb_, S_ret', kR_, S_retN, S_break, S_cont, S_for, kF_, S_forNil, kFb_nx, kFb_ct, kFb_bk, kFb_rt, S_items, kItems_tup, kItems_lst, kItems_own, S_lc, kLc_, S_lcNil, S_yes, kD_rt, kD_nx, Rv.ret, gt, st, kVar_dat, kVar_own, o_add, o_sub, o_eq, o_ne, o_lt, o_le, o_gt, o_ge, o_eqB, o_neB, o_is2, o_isnot2, o_abs, o_ix, o_ixO, o_ixB, o_ixL, o_tupO, o_isBool, map_some', wp, tgN_, List.length_cons, List.length_nil, Nat.reduceAdd, Nat.reduceLeDiff, true_and, decide_true, decide_false, Bool.not_true, Bool.not_false, o_mul_u, o_div_u, o_mod_u, o_pow_u, o_eqS, o_neS, o_intB, o_lenS, o_lenO, o_lenB, o_iaddI, S_s1, kS1_, kS1b_, S_lm, kLm_bor, kLm_own, kLmb_, S_tab, o_ixT, o_ixS, S_put, kPut_, kPutK_, S_zip2, kZip_, kZipb_tup, o_sum, o_sumB, o_tupB, o_tupL, o_lenT, S_range1, kRng_3, S_tgtL, kTgtL_, List.nil_append, List.cons_append, Nat.reduceLT, SZ, forall_const, true_implies]
        refine kI_d (fun _ => ?_) (fun _ => ?_)
        · rw [S_seq, S_frz_dat rfl, kS_nx, S_seq, S_frz_dat rfl, kS_nx, S_seq, S_frz_dat rfl, kS_nx]
          simp only [S_var, S_C, S_op1, k1_, S_op2, k2_, k2b_, S_nil, S_cons, kc_, kcb_, S_opN, kN_, S_tup, S_lst, kT_u, kL_u, stoL_nil, stoL_dat, stoL_own, consO_some, SatO_some, S_call, kCall_u, S_if, S_ifS, kI_true, kI_false, S_andV, S_orV, kAndV_true, kAndV_false, kOrV_true, kOrV_false, S_test, kTest_, S_tru, kTru_, S_and, S_or, S_not, kAnd_true, kAnd_false, kOr_true, kOr_false, kNot_, S_seq, kS_nx, kS_rt, kS_bk, kS_ct, S_pass, S_set, kSet_dat, kSet_own, S_par, kP_, kPb_, S_ret', kR_, S_retN, S_break, S_cont, S_for, kF_, S_forNil, kFb_nx, kFb_ct, kFb_bk, kFb_rt, S_items, kItems_tup, kItems_lst, kItems_own, S_lc, kLc_, S_lcNil, S_yes, kD_rt, kD_nx, Rv.ret, gt, st, kVar_dat, kVar_own, o_add, o_sub, o_eq, o_ne, o_lt, o_le, o_gt, o_ge, o_eqB, o_neB, o_is2, o_isnot2, o_abs, o_ix, o_ixO, o_ixB, o_ixL, o_tupO, o_isBool, map_some', wp, tgN_, List.length_cons, List.length_nil, Nat.reduceAdd, Nat.reduceLeDiff, true_and, decide_true, decide_false, Bool.not_true, Bool.not_false, o_mul_u, o_div_u, o_mod_u, o_pow_u, o_eqS, o_neS, o_intB, o_lenS, o_lenO, o_lenB, o_iaddI, S_s1, kS1_, kS1b_, S_lm, kLm_bor, kLm_own, kLmb_, S_tab, o_ixT, o_ixS, S_put, kPut_, kPutK_, S_zip2, kZip_, kZipb_tup, o_sum, o_sumB, o_tupB, o_tupL, o_lenT, S_range1, kRng_3, S_tgtL, kTgtL_, List.nil_append, List.cons_append, Nat.reduceLT, SZ, forall_const, true_implies]
          refine S_amiss (b := 10) hU (h5.le (by decide)) fun d' s6 hd' h6 => ?_
          simp only [S_var, S_C, S_op1, k1_, S_op2, k2_, k2b_, S_nil, S_cons, kc_, kcb_, S_opN, kN_, S_tup, S_lst, kT_u, kL_u, stoL_nil, stoL_dat, stoL_own, consO_some, SatO_some, S_call, kCall_u, S_if, S_ifS, kI_true, kI_false, S_andV, S_orV, kAndV_true, kAndV_false, kOrV_true, kOrV_false, S_test, kTest_, S_tru, kTru_, S_and, S_or, S_not, kAnd_true, kAnd_false, kOr_true, kOr_false, kNot_, S_seq, kS_nx, kS_rt, kS_bk, kS_ct, S_pass, S_set, kSet_dat, kSet_own, S_par, kP_, kPb_, S_ret', kR_, S_retN, S_break, S_cont, S_for, kF_, S_forNil, kFb_nx, kFb_ct, kFb_bk, kFb_rt, S_items, kItems_tup, kItems_lst, kItems_own, S_lc, kLc_, S_lcNil, S_yes, kD_rt, kD_nx, Rv.ret, gt, st, kVar_dat, kVar_own, o_add, o_sub, o_eq, o_ne, o_lt, o_le, o_gt, o_ge, o_eqB, o_neB, o_is2, o_isnot2, o_abs, o_ix, o_ixO, o_ixB, o_ixL, o_tupO, o_isBool, map_some', wp, tgN_, List.length_cons, List.length_nil, Nat.reduceAdd, Nat.reduceLeDiff, true_and, decide_true, decide_false, Bool.not_true, Bool.not_false, o_mul_u, o_div_u, o_mod_u, o_pow_u, o_eqS, o_neS, o_intB, o_lenS, o_lenO, o_lenB, o_iaddI, S_s1, kS1_, kS1b_, S_lm, kLm_bor, kLm_own, kLmb_, S_tab, o_ixT, o_ixS, S_put, kPut_, kPutK_, S_zip2, kZip_, kZipb_tup, o_sum, o_sumB, o_tupB, o_tupL, o_lenT, S_range1, kRng_3, S_tgtL, kTgtL_, List.nil_append, List.cons_append, Nat.reduceLT, SZ, forall_const, true_implies]
          exact S_end hU (hd'.up (by decide) (by decide))
        · simp only [S_var, S_C, S_op1, k1_, S_op2, k2_, k2b_, S_nil, S_cons, kc_, kcb_, S_opN, kN_, S_tup, S_lst, kT_u, kL_u, stoL_nil, stoL_dat, stoL_own, consO_some, SatO_some, S_call, kCall_u, S_if, S_ifS, kI_true, kI_false, S_andV, S_orV, kAndV_true, kAndV_false, kOrV_true, kOrV_false, S_test, kTest_, S_tru, kTru_, S_and, S_or, S_not, kAnd_true, kAnd_false, kOr_true, kOr_false, kNot_, S_seq, kS_nx, kS_rt, kS_bk, kS_ct, S_pass, S_set, kSet_dat, kSet_own, S_par, kP_, kPb_, S_ret', kR_, S_retN, S_break, S_cont, S_for, kF_, S_forNil, kFb_nx, kFb_ct, kFb_bk, kFb_rt, S_items, kItems_tup, kItems_lst, kItems_own, S_lc, kLc_, S_lcNil, S_yes, kD_rt, kD_nx, Rv.ret, gt, st, kVar_dat, kVar_own, o_add, o_sub, o_eq, o_ne, o_lt, o_le, o_gt, o_ge, o_eqB, o_neB, o_is2, o_isnot2, o_abs, o_ix, o_ixO, o_ixB, o_ixL, o_tupO, o_isBool, map_some', wp, tgN_, List.length_cons, List.length_nil, Nat.reduceAdd, Nat.reduceLeDiff, true_and, decide_true, decide_false, Bool.not_true, Bool.not_false, o_mul_u, o_div_u, o_mod_u, o_pow_u, o_eqS, o_neS, o_intB, o_lenS, o_lenO, o_lenB, o_iaddI, S_s1, kS1_, kS1b_, S_lm, kLm_bor, kLm_own, kLmb_, S_tab, o_ixT, o_ixS, S_put, kPut_, kPutK_, S_zip2, kZip_, kZipb_tup, o_sum, o_sumB, o_tupB, o_tupL, o_lenT, S_range1, kRng_3, S_tgtL, kTgtL_, List.nil_append, List.cons_append, Nat.reduceLT, SZ, forall_const, true_implies]
          exact S_end hU (hus.up (by decide) (by decide))
    simp only [S_var, S_C, S_op1, k1_, S_op2, k2_, k2b_, S_nil, S_cons, kc_, kcb_, S_opN, kN_, S_tup, S_lst, kT_u, kL_u, stoL_nil, stoL_dat, stoL_own, consO_some, SatO_some, S_call, kCall_u, S_if, S_ifS, kI_true, kI_false, S_andV, S_orV, kAndV_true, kAndV_false, kOrV_true, kOrV_false, S_test, kTest_, S_tru, kTru_, S_and, S_or, S_not, kAnd_true, kAnd_false, kOr_true, kOr_false, kNot_, S_seq, kS_nx, kS_rt, kS_bk, kS_ct, S_pass, S_set, kSet_dat, kSet_own, S_par, kP_, kPb_, S_ret', kR_, S_retN, S_break, S_cont, S_for, kF_, S_forNil, kFb_nx, kFb_ct, kFb_bk, kFb_rt, S_items, kItems_tup, kItems_lst, kItems_own, S_lc, kLc_, S_lcNil, S_yes, kD_rt, kD_nx, Rv.ret, gt, st, kVar_dat, kVar_own, o_add, o_sub, o_eq, o_ne, o_lt, o_le, o_gt, o_ge, o_eqB, o_neB, o_is2, o_isnot2, o_abs, o_ix, o_ixO, o_ixB, o_ixL, o_tupO, o_isBool, map_some', wp, tgN_, List.length_cons, List.length_nil, Nat.reduceAdd, Nat.reduceLeDiff, true_and, decide_true, decide_false, Bool.not_true, Bool.not_false, o_mul_u, o_div_u, o_mod_u, o_pow_u, o_eqS, o_neS, o_intB, o_lenS, o_lenO, o_lenB, o_iaddI, S_s1, kS1_, kS1b_, S_lm, kLm_bor, kLm_own, kLmb_, S_tab, o_ixT, o_ixS, S_put, kPut_, kPutK_, S_zip2, kZip_, kZipb_tup, o_sum, o_sumB, o_tupB, o_tupL, o_lenT, S_range1, kRng_3, S_tgtL, kTgtL_, List.nil_append, List.cons_append, Nat.reduceLT, SZ, forall_const, true_implies]
    refine kI_d (fun _ => ?_) (fun _ => ?_)
    · rw [S_seq, S_frz_dat rfl, kS_nx]
      simp only [S_var, S_C, S_op1, k1_, S_op2, k2_, k2b_, S_nil, S_cons, kc_, kcb_, S_opN, kN_, S_tup, S_lst, kT_u, kL_u, stoL_nil, stoL_dat, stoL_own, consO_some, SatO_some, S_call, kCall_u, S_if, S_ifS, kI_true, kI_false, S_andV, S_orV, kAndV_true, kAndV_false, kOrV_true, kOrV_false, S_test, kTest_, S_tru, kTru_, S_and, S_or, S_not, kAnd_true, kAnd_false, kOr_true, kOr_false, kNot_, S_seq, kS_nx, kS_rt, kS_bk, kS_ct, S_pass, S_set, kSet_dat, kSet_own, S_par, kP_, kPb_, S_ret', kR_, S_retN, S_break, S_cont, S_for, kF_, S_forNil, kFb_nx, kFb_ct, kFb_bk, kFb_rt, S_items, kItems_tup, kItems_lst, kItems_own, S_lc, kLc_, S_lcNil, S_yes, kD_rt, kD_nx, Rv.ret, gt, st, kVar_dat, kVar_own, o_add, o_sub, o_eq, o_ne, o_lt, o_le, o_gt, o_ge, o_eqB, o_neB, o_is2, o_isnot2, o_abs, o_ix, o_ixO, o_ixB, o_ixL, o_tupO, o_isBool, map_some', wp, tgN_, List.length_cons, List.length_nil, Nat.reduceAdd, Nat.reduceLeDiff, true_and, decide_true, decide_false, Bool.not_true, Bool.not_false, o_mul_u, o_div_u, o_mod_u, o_pow_u, o_eqS, o_neS, o_intB, o_lenS, o_lenO, o_lenB, o_iaddI, S_s1, kS1_, kS1b_, S_lm, kLm_bor, kLm_own, kLmb_, S_tab, o_ixT, o_ixS, S_put, kPut_, kPutK_, S_zip2, kZip_, kZipb_tup, o_sum, o_sumB, o_tupB, o_tupL, o_lenT, S_range1, kRng_3, S_tgtL, kTgtL_, List.nil_append, List.cons_append, Nat.reduceLT, SZ, forall_const, true_implies]
      refine S_lring (b := 25) h4 fun us s5 hU h5 => ?_
      have := tail us s5 (hU.up (by decide) (by decide)) h5
      simp only [S_var, S_C, S_op1, k1_, S_op2, k2_, k2b_, S_nil, S_cons, kc_, kcb_, S_opN, kN_, S_tup, S_lst, kT_u, kL_u, stoL_nil, stoL_dat, stoL_own, consO_some, SatO_some, S_call, kCall_u, S_if, S_ifS, kI_true, kI_false, S_andV, S_orV, kAndV_true, kAndV_false, kOrV_true, kOrV_false, S_test, kTest_, S_tru, kTru_, S_and, S_or, S_not, kAnd_true, kAnd_false, kOr_true, kOr_false, kNot_, S_seq, kS_nx, kS_rt, kS_bk, kS_ct, S_pass, S_set, kSet_dat, kSet_own, S_par, kP_, kPb_, S_ret', kR_, S_retN, S_break, S_cont, S_for, kF_, S_forNil, kFb_nx, kFb_ct, kFb_bk, kFb_rt, S_items, kItems_tup, kItems_lst, kItems_own, S_lc, kLc_, S_lcNil, S_yes, kD_rt, kD_nx, Rv.ret, gt, st, kVar_dat, kVar_own, o_add, o_sub, o_eq, o_ne, o_lt, o_le, o_gt, o_ge, o_eqB, o_neB, o_is2, o_isnot2, o_abs, o_ix, o_ixO, o_ixB, o_ixL, o_tupO, o_isBool, map_some', wp, tgN_, List.length_cons, List.length_nil, Nat.reduceAdd, Nat.reduceLeDiff, true_and, decide_true, decide_false, Bool.not_true, Bool.not_false, o_mul_u, o_div_u, o_mod_u, o_pow_u, o_eqS, o_neS, o_intB, o_lenS, o_lenO, o_lenB, o_iaddI, S_s1, kS1_, kS1b_, S_lm, kLm_bor, kLm_own, kLmb_, S_tab, o_ixT, o_ixS, S_put, kPut_, kPutK_, S_zip2, kZip_, kZipb_tup, o_sum, o_sumB, o_tupB, o_tupL, o_lenT, S_range1, kRng_3, S_tgtL, kTgtL_, List.nil_append, List.cons_append, Nat.reduceLT, SZ, forall_const, true_implies] at this ⊢
      exact this
    · have := tail vs s4 hS (h4.le (by decide))
      simp only [S_var, S_C, S_op1, k1_, S_op2, k2_, k2b_, S_nil, S_cons, kc_, kcb_, S_opN, kN_, S_tup, S_lst, kT_u, kL_u, stoL_nil, stoL_dat, stoL_own, consO_some, SatO_some, S_call, kCall_u, S_if, S_ifS, kI_true, kI_false, S_andV, S_orV, kAndV_true, kAndV_false, kOrV_true, kOrV_false, S_test, kTest_, S_tru, kTru_, S_and, S_or, S_not, kAnd_true, kAnd_false, kOr_true, kOr_false, kNot_, S_seq, kS_nx, kS_rt, kS_bk, kS_ct, S_pass, S_set, kSet_dat, kSet_own, S_par, kP_, kPb_, S_ret', kR_, S_retN, S_break, S_cont, S_for, kF_, S_forNil, kFb_nx, kFb_ct, kFb_bk, kFb_rt, S_items, kItems_tup, kItems_lst, kItems_own, S_lc, kLc_, S_lcNil, S_yes, kD_rt, kD_nx, Rv.ret, gt, st, kVar_dat, kVar_own, o_add, o_sub, o_eq, o_ne, o_lt, o_le, o_gt, o_ge, o_eqB, o_neB, o_is2, o_isnot2, o_abs, o_ix, o_ixO, o_ixB, o_ixL, o_tupO, o_isBool, map_some', wp, tgN_, List.length_cons, List.length_nil, Nat.reduceAdd, Nat.reduceLeDiff, true_and, decide_true, decide_false, Bool.not_true, Bool.not_false, o_mul_u, o_div_u, o_mod_u, o_pow_u, o_eqS, o_neS, o_intB, o_lenS, o_lenO, o_lenB, o_iaddI, S_s1, kS1_, kS1b_, S_lm, kLm_bor, kLm_own, kLmb_, S_tab, o_ixT, o_ixS, S_put, kPut_, kPutK_, S_zip2, kZip_, kZipb_tup, o_sum, o_sumB, o_tupB, o_tupL, o_lenT, S_range1, kRng_3, S_tgtL, kTgtL_, List.nil_append, List.cons_append, Nat.reduceLT, SZ, forall_const, true_implies] at this ⊢
      exact this
  obtain ⟨f, g, h, rfl⟩ := fin.get
  exact ⟨g, h⟩
end G_k41
set_option Elab.async false
set_option linter.all false
set_option maxRecDepth 100000
set_option maxHeartbeats 0
namespace G_k41
open PySem PySem.Spec PyProof.Rows L2 PB
instance : Kts := ⟨True⟩
def topS (i : Nat) : Stmt := PySem.Challenge.pw_pricebend_k41_shapes_looked_at.main.body.getD i (.Pass ⟨0, 0, 0, 0⟩)
abbrev s__law_start : Stmt := topS 12
abbrev s__law_mix : Stmt := topS 14
abbrev s__law_draw : Stmt := topS 13
abbrev s__law_worth : Stmt := topS 19
abbrev s__law_shared : Stmt := topS 16
abbrev s__law_lowest : Stmt := topS 17
abbrev s__law_cut : Stmt := topS 22
abbrev s__law_side : Stmt := topS 23
abbrev s__law_shape : Stmt := topS 24
abbrev s__law_ring : Stmt := topS 25
abbrev s__law_odd : Stmt := topS 28
abbrev s__law_number_amiss : Stmt := topS 26
abbrev s__law_corner_amiss : Stmt := topS 27
abbrev s__law_amiss : Stmt := topS 29
abbrev s_is_whole : Stmt := topS 3
abbrev s_shared : Stmt := topS 4
abbrev s_lowest : Stmt := topS 5
abbrev s_is_corner : Stmt := topS 8
abbrev s_turn_of : Stmt := topS 1
abbrev s_goes_round : Stmt := topS 9
abbrev s_is_shape : Stmt := topS 10
abbrev s__law_whole : Stmt := topS 15
abbrev s__law_is_price : Stmt := topS 20
abbrev s__law_turn : Stmt := topS 18
abbrev s__law_is_shape : Stmt := topS 21
abbrev s_law : Stmt := topS 30
theorem sc__law_start : FnScope ["_law_script", "_law_great", "_law_cell"] ["_law_script"] (defScope s__law_start) := ⟨rfl, rfl, rfl, by decide +kernel, rfl, by decide +kernel, by decide +kernel⟩
theorem sc__law_mix : FnScope ["_law_state", "_law_count", "_law_cell", "_law_one"] ["_law_state"] (defScope s__law_mix) := ⟨rfl, rfl, rfl, by decide +kernel, rfl, by decide +kernel, by decide +kernel⟩
theorem sc__law_draw : FnScope ["_law_state", "_law_many", "_law_told", "_law_size"] ["_law_state", "_law_many"] (defScope s__law_draw) := ⟨rfl, rfl, rfl, by decide +kernel, rfl, by decide +kernel, by decide +kernel⟩
theorem sc__law_worth : FnScope ["_law_side_here", "_law_price", "_law_number", "_law_more"] ["_law_side_here", "_law_price"] (defScope s__law_worth) := ⟨rfl, rfl, rfl, by decide +kernel, rfl, by decide +kernel, by decide +kernel⟩
theorem sc__law_shared : FnScope ["_law_one", "_law_other"] ["_law_one", "_law_other"] (defScope s__law_shared) := ⟨rfl, rfl, rfl, by decide +kernel, rfl, by decide +kernel, by decide +kernel⟩
theorem sc__law_lowest : FnScope ["_law_numbers", "_law_by", "_law_number"] ["_law_numbers"] (defScope s__law_lowest) := ⟨rfl, rfl, rfl, by decide +kernel, rfl, by decide +kernel, by decide +kernel⟩
theorem sc__law_cut : FnScope ["_law_shape_here", "_law_side_here", "_law_found", "_law_k", "_law_one", "_law_other", "_law_here", "_law_there", "_law_at", "_law_corner", "_law_a", "_law_b"] ["_law_shape_here", "_law_side_here"] (defScope s__law_cut) := ⟨rfl, rfl, rfl, by decide +kernel, rfl, by decide +kernel, by decide +kernel⟩
theorem sc__law_side : FnScope ["_law_state", "_law_size", "_law_found", "_law_k"] ["_law_state", "_law_size"] (defScope s__law_side) := ⟨rfl, rfl, rfl, by decide +kernel, rfl, by decide +kernel, by decide +kernel⟩
theorem sc__law_shape : FnScope ["_law_state", "_law_most", "_law_size", "_law_shape_here", "_law_k", "_law_left"] ["_law_state", "_law_most", "_law_size"] (defScope s__law_shape) := ⟨rfl, rfl, rfl, by decide +kernel, rfl, by decide +kernel, by decide +kernel⟩
theorem sc__law_ring : FnScope ["_law_state", "_law_found", "_law_at", "_law_k"] ["_law_state"] (defScope s__law_ring) := ⟨rfl, rfl, rfl, by decide +kernel, rfl, by decide +kernel, by decide +kernel⟩
theorem sc__law_odd : FnScope ["_law_state", "_law_thing", "_law_odd_here", "_law_way", "_law_at"] ["_law_state", "_law_thing"] (defScope s__law_odd) := ⟨rfl, rfl, rfl, by decide +kernel, rfl, by decide +kernel, by decide +kernel⟩
theorem sc__law_number_amiss : FnScope ["_law_state", "_law_corner", "_law_at", "_law_number", "_law_more"] ["_law_state", "_law_corner"] (defScope s__law_number_amiss) := ⟨rfl, rfl, rfl, by decide +kernel, rfl, by decide +kernel, by decide +kernel⟩
theorem sc__law_corner_amiss : FnScope ["_law_state", "_law_shape_here", "_law_way", "_law_at", "_law_corner", "_law_many", "_law_found", "_law_new", "_law_odd_here", "_law_number", "_law_a", "_law_b"] ["_law_state", "_law_shape_here", "_law_way"] (defScope s__law_corner_amiss) := ⟨rfl, rfl, rfl, by decide +kernel, rfl, by decide +kernel, by decide +kernel⟩
theorem sc__law_amiss : FnScope ["_law_state", "_law_shape_here", "_law_way", "_law_at", "_law_to", "_law_found", "_law_twice"] ["_law_state", "_law_shape_here", "_law_way"] (defScope s__law_amiss) := ⟨rfl, rfl, rfl, by decide +kernel, rfl, by decide +kernel, by decide +kernel⟩
theorem sc_is_whole : FnScope ["thing"] ["thing"] (defScope s_is_whole) := ⟨rfl, rfl, rfl, by decide +kernel, rfl, by decide +kernel, by decide +kernel⟩
theorem sc_shared : FnScope ["one", "other"] ["one", "other"] (defScope s_shared) := ⟨rfl, rfl, rfl, by decide +kernel, rfl, by decide +kernel, by decide +kernel⟩
theorem sc_lowest : FnScope ["numbers", "by", "number"] ["numbers"] (defScope s_lowest) := ⟨rfl, rfl, rfl, by decide +kernel, rfl, by decide +kernel, by decide +kernel⟩
theorem sc_is_corner : FnScope ["thing", "number"] ["thing"] (defScope s_is_corner) := ⟨rfl, rfl, rfl, by decide +kernel, rfl, by decide +kernel, by decide +kernel⟩
theorem sc_turn_of : FnScope ["a", "b", "c", "first", "second", "third"] ["a", "b", "c"] (defScope s_turn_of) := ⟨rfl, rfl, rfl, by decide +kernel, rfl, by decide +kernel, by decide +kernel⟩
theorem sc_goes_round : FnScope ["corners", "many", "k", "at"] ["corners"] (defScope s_goes_round) := ⟨rfl, rfl, rfl, by decide +kernel, rfl, by decide +kernel, by decide +kernel⟩
theorem sc_is_shape : FnScope ["thing", "part", "corner"] ["thing"] (defScope s_is_shape) := ⟨rfl, rfl, rfl, by decide +kernel, rfl, by decide +kernel, by decide +kernel⟩
theorem sc__law_whole : FnScope ["_law_thing"] ["_law_thing"] (defScope s__law_whole) := ⟨rfl, rfl, rfl, by decide +kernel, rfl, by decide +kernel, by decide +kernel⟩
theorem sc__law_is_price : FnScope ["_law_thing", "_law_number"] ["_law_thing"] (defScope s__law_is_price) := ⟨rfl, rfl, rfl, by decide +kernel, rfl, by decide +kernel, by decide +kernel⟩
theorem sc__law_turn : FnScope ["_law_a", "_law_b", "_law_c", "_law_told"] ["_law_a", "_law_b", "_law_c"] (defScope s__law_turn) := ⟨rfl, rfl, rfl, by decide +kernel, rfl, by decide +kernel, by decide +kernel⟩
theorem sc__law_is_shape : FnScope ["_law_thing", "_law_k", "_law_one", "_law_other", "_law_at", "_law_part", "_law_corner"] ["_law_thing"] (defScope s__law_is_shape) := ⟨rfl, rfl, rfl, by decide +kernel, rfl, by decide +kernel, by decide +kernel⟩
theorem sc_law : FnScope ["_law_script", "_law_state", "_law_way", "_law_shape_here", "_law_thing", "_law_told"] ["_law_script"] (defScope s_law) := ⟨rfl, rfl, rfl, by decide +kernel, rfl, by decide +kernel, by decide +kernel⟩
structure Txt (K : Frag) (mg : Str → Option Value) (w : World) where
  a__law_start : Addr
  d__law_start : FuncData
  c__law_start : Cal K mg "_law_start" s__law_start ["_law_script"] a__law_start d__law_start
  a__law_mix : Addr
  d__law_mix : FuncData
  c__law_mix : Cal K mg "_law_mix" s__law_mix ["_law_state"] a__law_mix d__law_mix
  a__law_draw : Addr
  d__law_draw : FuncData
  c__law_draw : Cal K mg "_law_draw" s__law_draw ["_law_state", "_law_many"] a__law_draw d__law_draw
  a__law_worth : Addr
  d__law_worth : FuncData
  c__law_worth : Cal K mg "_law_worth" s__law_worth ["_law_side_here", "_law_price"] a__law_worth d__law_worth
  a__law_shared : Addr
  d__law_shared : FuncData
  c__law_shared : Cal K mg "_law_shared" s__law_shared ["_law_one", "_law_other"] a__law_shared d__law_shared
  a__law_lowest : Addr
  d__law_lowest : FuncData
  c__law_lowest : Cal K mg "_law_lowest" s__law_lowest ["_law_numbers"] a__law_lowest d__law_lowest
  a__law_cut : Addr
  d__law_cut : FuncData
  c__law_cut : Cal K mg "_law_cut" s__law_cut ["_law_shape_here", "_law_side_here"] a__law_cut d__law_cut
  a__law_side : Addr
  d__law_side : FuncData
  c__law_side : Cal K mg "_law_side" s__law_side ["_law_state", "_law_size"] a__law_side d__law_side
  a__law_shape : Addr
  d__law_shape : FuncData
  c__law_shape : Cal K mg "_law_shape" s__law_shape ["_law_state", "_law_most", "_law_size"] a__law_shape d__law_shape
  a__law_ring : Addr
  d__law_ring : FuncData
  c__law_ring : Cal K mg "_law_ring" s__law_ring ["_law_state"] a__law_ring d__law_ring
  a__law_odd : Addr
  d__law_odd : FuncData
  c__law_odd : Cal K mg "_law_odd" s__law_odd ["_law_state", "_law_thing"] a__law_odd d__law_odd
  a__law_number_amiss : Addr
  d__law_number_amiss : FuncData
  c__law_number_amiss : Cal K mg "_law_number_amiss" s__law_number_amiss ["_law_state", "_law_corner"] a__law_number_amiss d__law_number_amiss
  a__law_corner_amiss : Addr
  d__law_corner_amiss : FuncData
  c__law_corner_amiss : Cal K mg "_law_corner_amiss" s__law_corner_amiss ["_law_state", "_law_shape_here", "_law_way"] a__law_corner_amiss d__law_corner_amiss
  a__law_amiss : Addr
  d__law_amiss : FuncData
  c__law_amiss : Cal K mg "_law_amiss" s__law_amiss ["_law_state", "_law_shape_here", "_law_way"] a__law_amiss d__law_amiss
  a_is_whole : Addr
  d_is_whole : FuncData
  c_is_whole : Cal K mg "is_whole" s_is_whole ["thing"] a_is_whole d_is_whole
  a_shared : Addr
  d_shared : FuncData
  c_shared : Cal K mg "shared" s_shared ["one", "other"] a_shared d_shared
  a_lowest : Addr
  d_lowest : FuncData
  c_lowest : Cal K mg "lowest" s_lowest ["numbers"] a_lowest d_lowest
  a_is_corner : Addr
  d_is_corner : FuncData
  c_is_corner : Cal K mg "is_corner" s_is_corner ["thing"] a_is_corner d_is_corner
  a_turn_of : Addr
  d_turn_of : FuncData
  c_turn_of : Cal K mg "turn_of" s_turn_of ["a", "b", "c"] a_turn_of d_turn_of
  a_goes_round : Addr
  d_goes_round : FuncData
  c_goes_round : Cal K mg "goes_round" s_goes_round ["corners"] a_goes_round d_goes_round
  a_is_shape : Addr
  d_is_shape : FuncData
  c_is_shape : Cal K mg "is_shape" s_is_shape ["thing"] a_is_shape d_is_shape
  a__law_whole : Addr
  d__law_whole : FuncData
  c__law_whole : Cal K mg "_law_whole" s__law_whole ["_law_thing"] a__law_whole d__law_whole
  a__law_is_price : Addr
  d__law_is_price : FuncData
  c__law_is_price : Cal K mg "_law_is_price" s__law_is_price ["_law_thing"] a__law_is_price d__law_is_price
  a__law_turn : Addr
  d__law_turn : FuncData
  c__law_turn : Cal K mg "_law_turn" s__law_turn ["_law_a", "_law_b", "_law_c"] a__law_turn d__law_turn
  a__law_is_shape : Addr
  d__law_is_shape : FuncData
  c__law_is_shape : Cal K mg "_law_is_shape" s__law_is_shape ["_law_thing"] a__law_is_shape d__law_is_shape
  z_abs : mg "abs" = none
  z_all : mg "all" = none
  z_any : mg "any" = none
  z_bool : mg "bool" = none
  z_int : mg "int" = none
  z_isinstance : mg "isinstance" = none
  z_len : mg "len" = none
  z_list : mg "list" = none
  z_max : mg "max" = none
  z_min : mg "min" = none
  z_range : mg "range" = none
  z_sum : mg "sum" = none
  z_tuple : mg "tuple" = none
  z_zip : mg "zip" = none
  k_WHOLE : ConAt K mg "WHOLE" (.tup [(.tup [(.int 0), (.int 0), (.int 1)]), (.tup [(.int 1), (.int 0), (.int 0)]), (.tup [(.int 0), (.int 1), (.int 0)])])
section
variable {P : Program} {w : World} {K : Frag} {mg : Str → Option Value} {base : Heap}
abbrev xa0 : Addr × Value × Option Addr := (0, .none, none)
theorem ok__law_start (T : Txt K mg w) : FnOk P w K mg base CX0 1 T.a__law_start T.d__law_start ["_law_script"] (spStart K) := by
  refine T.c__law_start.F.fun.ok sc__law_start (fun vs H Q E h => ?_) (fun cdv A outer s H vs Q E hr h => ?_)
  · obtain ⟨a, ns, rfl, _⟩ := h
    rfl
  · obtain ⟨a, ns, rfl, hS, hl, q⟩ := h
    refine ⟨_, pss_cons (ps_setLc (i := 1) (own := [("_law_cell", 2)]) (g := gName 2) rfl sc__law_start.nd rfl rfl (sw_true rfl rfl rfl (by decide +kernel)) (pi_list (pv 0)) (blkOk_by (own := [("_law_cell", 2)]) (by rfl)) (fun _ _ _ _ _ => pg_name (i := 2) sc__law_start.nd rfl (Or.inl rfl)) (fun _ _ _ _ _ => pts_one (pt_cmpR or_ge (pv 2) (pe_op op_pow pe_int pe_int) (nomark _))) (fun _ _ _ _ _ => pv 2))
      (pss_one (ps_ret (pe_lst (pa_cons (pv 1) (pa_cons pe_int (pa_cons (pe_lc (own := [("_law_cell", 2)]) (g := gName 2) (tt := tYes) rfl sc__law_start.nd (pi_list (pv 0)) (blkOk_by (own := [("_law_cell", 2)]) (by rfl)) (fun _ _ _ _ _ => pg_name (i := 2) sc__law_start.nd rfl (Or.inl rfl)) (fun _ _ _ _ _ => pts_nil) (fun _ _ _ _ _ => pe_op op_mod (pv 2) pe_int)) (pa_cons pe_int pa_nil))))))), ?_⟩
    refine ⟨_, rfl, a, rfl, ⟨_, hS⟩, fun g hg => lc_great (by exact (by decide : 2 < 3)) hg hS hl ?_⟩
    have hS2 : SqL K (upd H g (.lst ((ns.filter fun x => decide (10 ^ 18 ≤ x)).map V.int))) a (ns.map V.int) := Same.seq (upd_keep hg) hS
    refine ⟨_, rfl, _, rfl, a, rfl, ⟨_, hS2⟩, fun c hc => lc_cells (by exact (by decide : 2 < 3)) hc hS2 hl ?_⟩
    refine ⟨(by show 4 ≤ sizeLine; rw [sizeLine_eq]; decide), fun p hp => ?_⟩
    obtain ⟨k1, k2, k3, k4, k5, k6, k7⟩ := ls_made hg hc hp
    exact q (p, g, c) _ _ k1 k2 k3 k4 k5 k6 k7
theorem ok__law_mix (T : Txt K mg w) : FnOk P w K mg base CX0 1 T.a__law_mix T.d__law_mix ["_law_state"] (spOf K lsG 1 (F__law_mix)) :=
  fn_pb2 (Tx := exT K) (xa := xa0) (m__law_mix) 4 1 T.c__law_mix.F sc__law_mix rfl rfl (by decide) fun i cdv A outer s H E hr => (pb_scons (pb_incC 0 rfl)
    (pb_scons (pb_set (i := 1) sc__law_mix.nd rfl (by first | exact Or.inl rfl | exact Or.inr rfl) (pb_cnt 0 rfl))
    (pb_scons (pb_set (i := 2) sc__law_mix.nd rfl (by first | exact Or.inl rfl | exact Or.inr rfl) pb_int)
    (pb_scons (pb_sif (pb_hasC 0 rfl) (pb_sone (pb_set (i := 2) sc__law_mix.nd rfl (by first | exact Or.inl rfl | exact Or.inr rfl) (pb_atC 0 rfl (pb_op op_mod os_mod (pb_var 1) (pb_lenC 0 rfl (by rfl) T.z_len)) (fun _ _ => rfl)))) pb_snil)
    (pb_scons (pb_set (i := 3) sc__law_mix.nd rfl (by first | exact Or.inl rfl | exact Or.inr rfl) (pb_op op_mod os_mod (pb_op op_pow os_pow (pb_op (or_add rfl) os_add (pb_op (or_add rfl) os_add (pb_op (or_add rfl) os_add (pb_var 2) (pb_op op_mulW os_mul (pb_op op_mulW os_mul pb_int (pb_var 1)) (pb_var 1))) (pb_op op_mulW os_mul pb_int (pb_var 1))) pb_int) pb_int) pb_int))
    (pb_sone (pb_ret (pb_op op_mod os_mod (pb_op (or_add rfl) os_add (pb_op op_mulW os_mul (pb_var 3) pb_int) (pb_op op_mulW os_mul pb_int (pb_var 1))) pb_int))))))))
theorem ok__law_draw (T : Txt K mg w) : FnOk P w K mg base CX0 2 T.a__law_draw T.d__law_draw ["_law_state", "_law_many"] (spOf K lsG 2 (F__law_draw)) :=
  fn_pb2 (Tx := exT K) (xa := xa0) (m__law_draw) 4 2 T.c__law_draw.F sc__law_draw rfl rfl (by decide) fun i cdv A outer s H E hr => (pb_scons (pb_sif (PW.pt (pb_and (pb_tcmp (or_eq rfl hr.units) os_eq (pb_told 0 rfl) pb_int (nm_Eq _)) (pb_and1 (pb_hasG 0 rfl)))) (pb_sone (pb_popG 0 rfl)) pb_snil)
    (pb_scons (pb_sif (pb_tcmp or_gt os_gt (pb_told 0 rfl) pb_int (nm_Gt _)) (pb_scons (pb_set (i := 2) sc__law_draw.nd rfl (by first | exact Or.inl rfl | exact Or.inr rfl) (pb_op op_mod os_mod (pb_told 0 rfl) (pb_var 1)))
    (pb_scons (pb_setTold 0 rfl (pb_op op_fdivW os_div (pb_told 0 rfl) (pb_var 1)))
    (pb_sone (pb_ret (pb_var 2))))) pb_snil)
    (pb_scons (pb_set (i := 2) sc__law_draw.nd rfl (by first | exact Or.inl rfl | exact Or.inr rfl) pb_int)
    (pb_scons (pb_set (i := 3) sc__law_draw.nd rfl (by first | exact Or.inl rfl | exact Or.inr rfl) pb_int)
    (pb_scons (pb_while 100 PassesOwn.never (pb_tcmp or_lt os_lt (pb_var 3) (pb_var 1) (nm_Lt _)) (pb_scons (pb_set (i := 2) sc__law_draw.nd rfl (by first | exact Or.inl rfl | exact Or.inr rfl) (pb_op (or_add rfl) os_add (pb_op op_mulW os_mul (pb_var 2) pb_int) (pb_call (F := F__law_mix) (ok__law_mix T) (hr.mono (by decide)) (by rfl) T.c__law_mix.g T.c__law_mix.F.kp T.c__law_mix.b (pb_cons (pb_var 0) pb_nil) (len_cons len_nil))))
    (pb_sone (pb_set (i := 3) sc__law_draw.nd rfl (by first | exact Or.inl rfl | exact Or.inr rfl) (pb_op op_mulW os_mul (pb_var 3) pb_int)))))
    (pb_sone (pb_ret (pb_op op_mod os_mod (pb_var 2) (pb_var 1)))))))))
theorem ok__law_worth (T : Txt K mg w) : FnOk P w K mg base CX0 1 T.a__law_worth T.d__law_worth ["_law_side_here", "_law_price"] (spOf K lsG 2 (F__law_worth)) :=
  fn_pb2 (Tx := exT K) (xa := xa0) (m__law_worth) 4 2 T.c__law_worth.F sc__law_worth rfl rfl (by decide) fun i cdv A outer s H E hr => (pb_sone (pb_ret (pb_cb (cl_sum rfl rfl) os_sum (by rfl) T.z_sum (by decide +kernel) (pb_cons (pb_lc (own := [("_law_number", 2), ("_law_more", 3)]) rfl sc__law_worth.nd (pb_zip rfl (by rfl) T.z_zip (pb_var 0) (pb_var 1)) (blkOk_by (own := [("_law_number", 2), ("_law_more", 3)]) (by rfl)) (fun _ _ _ _ _ => (pg_tup rfl (pgs_cons (pg_name (i := 2) sc__law_worth.nd rfl (by first | exact Or.inl rfl | exact Or.inr rfl)) (pgs_cons (pg_name (i := 3) sc__law_worth.nd rfl (by first | exact Or.inl rfl | exact Or.inr rfl)) pgs_nil)))) (ts_tup rfl rfl (TgL.cons (TgL.cons TgL.nil))) (by decide) (fun _ _ _ _ _ => pts_yes) (fun _ _ _ _ _ => (pb_op op_mulW os_mul (pb_var 2) (pb_var 3)))) pb_nil))))
theorem ok__law_shared (T : Txt K mg w) : FnOk P w K mg base CX0 1 T.a__law_shared T.d__law_shared ["_law_one", "_law_other"] (spOf K lsG 2 (F__law_shared)) :=
  fn_pb2 (Tx := exT K) (xa := xa0) (m__law_shared) 2 2 T.c__law_shared.F sc__law_shared rfl rfl (by decide) fun i cdv A outer s H E hr => (pb_scons (pb_while 100000 PassesOwn.never (pb_tcmp or_gt os_gt (pb_var 1) pb_int (nm_Gt _)) (pb_sone (pb_par (i := 0) (j := 1) rfl sc__law_shared.nd rfl rfl (by decide) rfl rfl (pb_var 1) (pb_op op_mod os_mod (pb_var 0) (pb_var 1)))))
    (pb_sone (pb_ret (pb_var 0))))
theorem ok__law_lowest (T : Txt K mg w) : FnOk P w K mg base CX0 2 T.a__law_lowest T.d__law_lowest ["_law_numbers"] (spOf K lsG 1 (F__law_lowest)) :=
  fn_pb2 (Tx := exT K) (xa := xa0) (m__law_lowest) 3 1 T.c__law_lowest.F sc__law_lowest rfl rfl (by decide) fun i cdv A outer s H E hr => (pb_scons (pb_set (i := 1) sc__law_lowest.nd rfl (by first | exact Or.inl rfl | exact Or.inr rfl) pb_int)
    (pb_scons (pb_for PassesOwn.never rfl (pb_items rfl (pb_var 0)) (pg_name (i := 2) sc__law_lowest.nd rfl (by first | exact Or.inl rfl | exact Or.inr rfl)) (ts_name 2) (pb_frz 1 (pb_sone (pb_set (i := 1) sc__law_lowest.nd rfl (by first | exact Or.inl rfl | exact Or.inr rfl) (pb_call (F := F__law_shared) (ok__law_shared T) (hr.mono (by decide)) (by rfl) T.c__law_shared.g T.c__law_shared.F.kp T.c__law_shared.b (pb_cons (pb_var 2) (pb_cons (pb_var 1) pb_nil)) (len_cons (len_cons len_nil)))))))
    (pb_sone (pb_ret (pb_ct (cl_tuple rfl) os_tuple (by rfl) T.z_tuple (by decide +kernel) (pb_cons (pb_lc (own := [("_law_number", 2)]) rfl sc__law_lowest.nd (pb_items rfl (pb_var 0)) (blkOk_by (own := [("_law_number", 2)]) (by rfl)) (fun _ _ _ _ _ => (pg_name (i := 2) sc__law_lowest.nd rfl (by first | exact Or.inl rfl | exact Or.inr rfl))) (ts_name 2) (by decide) (fun _ _ _ _ _ => pts_yes) (fun _ _ _ _ _ => (pb_op op_fdivW os_div (pb_var 2) (pb_var 1)))) pb_nil))))))
theorem ok__law_cut (T : Txt K mg w) : FnOk P w K mg base CX0 3 T.a__law_cut T.d__law_cut ["_law_shape_here", "_law_side_here"] (spOf K lsG 2 (F__law_cut)) :=
  fn_pb2 (Tx := exT K) (xa := xa0) (m__law_cut) 12 2 T.c__law_cut.F sc__law_cut rfl rfl (by decide) fun i cdv A outer s H E hr => (pb_scons (pb_sif (pb_not (pb_val (pb_cb (cl_any rfl rfl) os_any (by rfl) T.z_any (by decide +kernel) (pb_cons (pb_lc (own := [("_law_corner", 9)]) rfl sc__law_cut.nd (pb_items rfl (pb_var 0)) (blkOk_by (own := [("_law_corner", 9)]) (by rfl)) (fun _ _ _ _ _ => (pg_name (i := 9) sc__law_cut.nd rfl (by first | exact Or.inl rfl | exact Or.inr rfl))) (ts_name 9) (by decide) (fun _ _ _ _ _ => pts_yes) (fun _ _ _ _ _ => (pb_cmp or_gt os_gt (pb_call (F := F__law_worth) (ok__law_worth T) (hr.mono (by decide)) (by rfl) T.c__law_worth.g T.c__law_worth.F.kp T.c__law_worth.b (pb_cons (pb_var 1) (pb_cons (pb_var 9) pb_nil)) (len_cons (len_cons len_nil))) pb_int (nm_Gt _)))) pb_nil)))) (pb_sone (pb_ret (pb_tup pb_nil))) pb_snil)
    (pb_scons (pb_set (i := 2) sc__law_cut.nd rfl (by first | exact Or.inl rfl | exact Or.inr rfl) (pb_lst pb_nil))
    (pb_scons (pb_for PassesOwn.never rfl (pb_range1 (by rfl) T.z_range (pb_cb (cl_len rfl) os_len (by rfl) T.z_len (by decide +kernel) (pb_cons (pb_var 0) pb_nil))) (pg_name (i := 3) sc__law_cut.nd rfl (by first | exact Or.inl rfl | exact Or.inr rfl)) (ts_name 3) (pb_scons (pb_par (i := 4) (j := 5) rfl sc__law_cut.nd rfl rfl (by decide) rfl rfl (pb_ix (ir_ix rfl) os_ix (pb_var 0) (pb_var 3) (fun _ _ => rfl)) (pb_ix (ir_ix rfl) os_ix (pb_var 0) (pb_op op_mod os_mod (pb_op (or_add rfl) os_add (pb_var 3) pb_int) (pb_cb (cl_len rfl) os_len (by rfl) T.z_len (by decide +kernel) (pb_cons (pb_var 0) pb_nil))) (fun _ _ => rfl)))
    (pb_scons (pb_tgt (pb_tup (pb_cons (pb_call (F := F__law_worth) (ok__law_worth T) (hr.mono (by decide)) (by rfl) T.c__law_worth.g T.c__law_worth.F.kp T.c__law_worth.b (pb_cons (pb_var 1) (pb_cons (pb_var 4) pb_nil)) (len_cons (len_cons len_nil))) (pb_cons (pb_call (F := F__law_worth) (ok__law_worth T) (hr.mono (by decide)) (by rfl) T.c__law_worth.g T.c__law_worth.F.kp T.c__law_worth.b (pb_cons (pb_var 1) (pb_cons (pb_var 5) pb_nil)) (len_cons (len_cons len_nil))) pb_nil))) (pg_tup rfl (pgs_cons (pg_name (i := 6) sc__law_cut.nd rfl (by first | exact Or.inl rfl | exact Or.inr rfl)) (pgs_cons (pg_name (i := 7) sc__law_cut.nd rfl (by first | exact Or.inl rfl | exact Or.inr rfl)) pgs_nil))) (ts_tup rfl rfl (TgL.cons (TgL.cons TgL.nil))))
    (pb_scons (pb_sif (pb_tcmp or_ge os_ge (pb_var 6) pb_int (nm_GtE _)) (pb_sone (pb_app (i := 2) rfl rfl (pb_var 4))) pb_snil)
    (pb_sone (pb_sif (PW.pt (pb_or (pb_tchain or_gt os_gt or_gt os_gt (pb_var 6) pb_int (pb_var 7)) (pb_or1 (pb_tchain or_lt os_lt or_lt os_lt (pb_var 6) pb_int (pb_var 7))))) (pb_sone (pb_app (i := 2) rfl rfl (pb_call (F := F__law_lowest) (ok__law_lowest T) (hr.mono (by decide)) (by rfl) T.c__law_lowest.g T.c__law_lowest.F.kp T.c__law_lowest.b (pb_cons (pb_lc (own := [("_law_a", 10), ("_law_b", 11)]) rfl sc__law_cut.nd (pb_zip rfl (by rfl) T.z_zip (pb_var 4) (pb_var 5)) (blkOk_by (own := [("_law_a", 10), ("_law_b", 11)]) (by rfl)) (fun _ _ _ _ _ => (pg_tup rfl (pgs_cons (pg_name (i := 10) sc__law_cut.nd rfl (by first | exact Or.inl rfl | exact Or.inr rfl)) (pgs_cons (pg_name (i := 11) sc__law_cut.nd rfl (by first | exact Or.inl rfl | exact Or.inr rfl)) pgs_nil)))) (ts_tup rfl rfl (TgL.cons (TgL.cons TgL.nil))) (by decide) (fun _ _ _ _ _ => pts_yes) (fun _ _ _ _ _ => (pb_op (or_add rfl) os_add (pb_op op_mulW os_mul (pb_cb call_abs os_abs (by rfl) T.z_abs (by decide +kernel) (pb_cons (pb_var 7) pb_nil)) (pb_var 10)) (pb_op op_mulW os_mul (pb_cb call_abs os_abs (by rfl) T.z_abs (by decide +kernel) (pb_cons (pb_var 6) pb_nil)) (pb_var 11))))) pb_nil) (len_cons len_nil)))) pb_snil))))))
    (pb_scons (pb_set (i := 8) sc__law_cut.nd rfl (by first | exact Or.inl rfl | exact Or.inr rfl) (pb_lm PySem.F.slot_list_index PySem.F.type_list_index (mt_indexD (hu65 hr)) lm_index (pb_var 2) (pb_cb (cl_minT rfl rfl (hu65 hr)) os_minT (by rfl) T.z_min (by decide +kernel) (pb_cons (pb_var 2) pb_nil))))
    (pb_sone (pb_ret (pb_ct (cl_tuple rfl) os_tuple (by rfl) T.z_tuple (by decide +kernel) (pb_cons (pb_op (or_add rfl) os_add (pb_slice (ml := (some (mVar 8))) (mh := none) rfl (pb_var 2) (pb_var 8) True.intro) (pb_slice (ml := none) (mh := (some (mVar 8))) rfl (pb_var 2) True.intro (pb_var 8))) pb_nil))))))))
theorem ok__law_side (T : Txt K mg w) : FnOk P w K mg base CX0 3 T.a__law_side T.d__law_side ["_law_state", "_law_size"] (spOf K lsG 2 (F__law_side)) :=
  fn_pb2 (Tx := exT K) (xa := xa0) (m__law_side) 4 2 T.c__law_side.F sc__law_side rfl rfl (by decide) fun i cdv A outer s H E hr => (pb_scons (pb_setLc (i := 2) (own := [("_law_k", 3)]) rfl sc__law_side.nd rfl rfl (sw_true rfl rfl rfl (by decide +kernel)) (pb_range1 (by rfl) T.z_range pb_int) (blkOk_by (own := [("_law_k", 3)]) (by rfl)) (fun _ _ _ _ _ => (pg_name (i := 3) sc__law_side.nd rfl (by first | exact Or.inl rfl | exact Or.inr rfl))) (ts_name 3) (by decide) (fun _ _ _ _ _ => pts_yes) (fun _ _ _ _ _ => (pb_op op_sub os_sub (pb_call (F := F__law_draw) (ok__law_draw T) (hr.mono (by decide)) (by rfl) T.c__law_draw.g T.c__law_draw.F.kp T.c__law_draw.b (pb_cons (pb_var 0) (pb_cons (pb_op (or_add rfl) os_add (pb_op op_mulW os_mul pb_int (pb_var 1)) pb_int) pb_nil)) (len_cons (len_cons len_nil))) (pb_var 1))))
    (pb_scons (pb_sif (pb_tcmp (or_eq rfl hr.units) os_eq (pb_call (F := F__law_draw) (ok__law_draw T) (hr.mono (by decide)) (by rfl) T.c__law_draw.g T.c__law_draw.F.kp T.c__law_draw.b (pb_cons (pb_var 0) (pb_cons pb_int pb_nil)) (len_cons (len_cons len_nil))) pb_int (nm_Eq _)) (pb_sone (pb_put (i := 2) rfl (pb_call (F := F__law_draw) (ok__law_draw T) (hr.mono (by decide)) (by rfl) T.c__law_draw.g T.c__law_draw.F.kp T.c__law_draw.b (pb_cons (pb_var 0) (pb_cons pb_int pb_nil)) (len_cons (len_cons len_nil))) pb_int)) pb_snil)
    (pb_sone (pb_ret (pb_ct (cl_tuple rfl) os_tuple (by rfl) T.z_tuple (by decide +kernel) (pb_cons (pb_var 2) pb_nil))))))
theorem ok__law_shape (T : Txt K mg w) : FnOk P w K mg base CX0 4 T.a__law_shape T.d__law_shape ["_law_state", "_law_most", "_law_size"] (spOf K lsG 3 (F__law_shape)) :=
  fn_pb2 (Tx := exT K) (xa := xa0) (m__law_shape) 6 3 T.c__law_shape.F sc__law_shape rfl rfl (by decide) fun i cdv A outer s H E hr => (pb_scons (pb_set (i := 3) sc__law_shape.nd rfl (by first | exact Or.inl rfl | exact Or.inr rfl) (pb_tup (pb_cons (pb_tup (pb_cons pb_int (pb_cons pb_int (pb_cons pb_int pb_nil)))) (pb_cons (pb_tup (pb_cons pb_int (pb_cons pb_int (pb_cons pb_int pb_nil)))) (pb_cons (pb_tup (pb_cons pb_int (pb_cons pb_int (pb_cons pb_int pb_nil)))) pb_nil)))))
    (pb_scons (pb_for PassesOwn.never rfl (pb_range1 (by rfl) T.z_range (pb_call (F := F__law_draw) (ok__law_draw T) (hr.mono (by decide)) (by rfl) T.c__law_draw.g T.c__law_draw.F.kp T.c__law_draw.b (pb_cons (pb_var 0) (pb_cons (pb_op (or_add rfl) os_add (pb_var 1) pb_int) pb_nil)) (len_cons (len_cons len_nil)))) (pg_name (i := 4) sc__law_shape.nd rfl (by first | exact Or.inl rfl | exact Or.inr rfl)) (ts_name 4) (pb_scons (pb_set (i := 5) sc__law_shape.nd rfl (by first | exact Or.inl rfl | exact Or.inr rfl) (pb_call (F := F__law_cut) (ok__law_cut T) (hr.mono (by decide)) (by rfl) T.c__law_cut.g T.c__law_cut.F.kp T.c__law_cut.b (pb_cons (pb_var 3) (pb_cons (pb_call (F := F__law_side) (ok__law_side T) (hr.mono (by decide)) (by rfl) T.c__law_side.g T.c__law_side.F.kp T.c__law_side.b (pb_cons (pb_var 0) (pb_cons (pb_var 2) pb_nil)) (len_cons (len_cons len_nil))) pb_nil)) (len_cons (len_cons len_nil))))
    (pb_sone (pb_sif (pb_tcmp (or_ne rfl hr.units) os_ne (pb_var 5) (pb_tup pb_nil) (nm_NotEq _)) (pb_sone (pb_set (i := 3) sc__law_shape.nd rfl (by first | exact Or.inl rfl | exact Or.inr rfl) (pb_var 5))) pb_snil))))
    (pb_sone (pb_ret (pb_var 3)))))
theorem ok__law_ring (T : Txt K mg w) : FnOk P w K mg base CX0 3 T.a__law_ring T.d__law_ring ["_law_state"] (spOf K lsG 1 (F__law_ring)) :=
  fn_pb2 (Tx := exT K) (xa := xa0) (m__law_ring) 4 1 T.c__law_ring.F sc__law_ring rfl rfl (by decide) fun i cdv A outer s H E hr => (pb_scons (pb_set (i := 1) sc__law_ring.nd rfl (by first | exact Or.inl rfl | exact Or.inr rfl) (pb_lst pb_nil))
    (pb_scons (pb_set (i := 2) sc__law_ring.nd rfl (by first | exact Or.inl rfl | exact Or.inr rfl) (pb_call (F := F__law_draw) (ok__law_draw T) (hr.mono (by decide)) (by rfl) T.c__law_draw.g T.c__law_draw.F.kp T.c__law_draw.b (pb_cons (pb_var 0) (pb_cons pb_int pb_nil)) (len_cons (len_cons len_nil))))
    (pb_scons (pb_for PassesOwn.never rfl (pb_range1 (by rfl) T.z_range (pb_op (or_add rfl) os_add pb_int (pb_call (F := F__law_draw) (ok__law_draw T) (hr.mono (by decide)) (by rfl) T.c__law_draw.g T.c__law_draw.F.kp T.c__law_draw.b (pb_cons (pb_var 0) (pb_cons pb_int pb_nil)) (len_cons (len_cons len_nil))))) (pg_name (i := 3) sc__law_ring.nd rfl (by first | exact Or.inl rfl | exact Or.inr rfl)) (ts_name 3) (pb_scons (pb_app (i := 1) rfl rfl (pb_tup (pb_cons pb_int (pb_cons (pb_var 2) (pb_cons (pb_op op_mulW os_mul (pb_var 2) (pb_var 2)) pb_nil)))))
    (pb_sone (pb_aug (i := 2) ior_add os_iadd sc__law_ring.nd rfl (by first | exact Or.inl rfl | exact Or.inr rfl) (pb_op (or_add rfl) os_add pb_int (pb_call (F := F__law_draw) (ok__law_draw T) (hr.mono (by decide)) (by rfl) T.c__law_draw.g T.c__law_draw.F.kp T.c__law_draw.b (pb_cons (pb_var 0) (pb_cons pb_int pb_nil)) (len_cons (len_cons len_nil))))))))
    (pb_sone (pb_ret (pb_ct (cl_tuple rfl) os_tuple (by rfl) T.z_tuple (by decide +kernel) (pb_cons (pb_var 1) pb_nil)))))))
theorem ok__law_odd (T : Txt K mg w) : ∀ n : Nat, FnOk P w K mg base CX0 (3 + n) T.a__law_odd T.d__law_odd ["_law_state", "_law_thing"] (spOf K lsG 2 (F__law_odd n))
  | 0 => ⟨fun vs H Q E h => by obtain ⟨i, S, ds, g, hl, _⟩ := h; exact hl, fun A outer s H args us vs Q E hr e0 hb hv h => by
    obtain ⟨i, S, ds, g, hl, _, _, _, _, z⟩ := h
    exact z.elim⟩
  | n + 1 => by
    have G := ok__law_odd T n
    exact fn_pb2 (Tx := exT K) (xa := xa0) (k := 3 + n) (m__law_odd (F__law_odd n)) 5 2 T.c__law_odd.F sc__law_odd rfl rfl (by decide) fun i cdv A outer s H E hr => by
      have F := F__law_odd n
      exact PSs.nox ((pb_scons (pb_set (i := 2) sc__law_odd.nd rfl (by first | exact Or.inl rfl | exact Or.inr rfl) (pb_ix (ir_ix rfl) os_ix (pb_tup (pb_cons pb_non (pb_cons pb_bl (pb_cons pb_int (pb_cons (pb_str [97]) (pb_cons (pb_tup pb_nil) (pb_cons (pb_tup (pb_cons pb_int pb_nil)) (pb_cons (pb_tup (pb_cons (pb_var 1) pb_nil)) pb_nil)))))))) (pb_call (F := F__law_draw) (ok__law_draw T) (hr.mono (by omega)) (by rfl) T.c__law_draw.g T.c__law_draw.F.kp T.c__law_draw.b (pb_cons (pb_var 0) (pb_cons pb_int pb_nil)) (len_cons (len_cons len_nil))) (fun _ _ => rfl)))
    (pb_scons (pb_set (i := 3) sc__law_odd.nd rfl (by first | exact Or.inl rfl | exact Or.inr rfl) (pb_call (F := F__law_draw) (ok__law_draw T) (hr.mono (by omega)) (by rfl) T.c__law_draw.g T.c__law_draw.F.kp T.c__law_draw.b (pb_cons (pb_var 0) (pb_cons pb_int pb_nil)) (len_cons (len_cons len_nil))))
    (pb_scons (pb_sif (PW.pt (pb_or (pb_not (pb_val (pb_isi .tuple rfl (by rfl) T.z_isinstance (by rfl) T.z_tuple (by decide +kernel) (pb_var 1)))) (pb_or (pb_tcmp (or_eq rfl hr.units) os_eq (pb_cb (cl_len rfl) os_len (by rfl) T.z_len (by decide +kernel) (pb_cons (pb_var 1) pb_nil)) pb_int (nm_Eq _)) (pb_or1 (pb_tcmp (or_eq rfl hr.units) os_eq (pb_var 3) pb_int (nm_Eq _)))))) (pb_sone (pb_ret (pb_var 2))) pb_snil)
    (pb_scons (pb_set (i := 4) sc__law_odd.nd rfl (by first | exact Or.inl rfl | exact Or.inr rfl) (pb_call (F := F__law_draw) (ok__law_draw T) (hr.mono (by omega)) (by rfl) T.c__law_draw.g T.c__law_draw.F.kp T.c__law_draw.b (pb_cons (pb_var 0) (pb_cons (pb_cb (cl_len rfl) os_len (by rfl) T.z_len (by decide +kernel) (pb_cons (pb_var 1) pb_nil)) pb_nil)) (len_cons (len_cons len_nil))))
    (pb_scons (pb_sif (pb_tcmp (or_eq rfl hr.units) os_eq (pb_var 3) pb_int (nm_Eq _)) (pb_sone (pb_ret (pb_op (or_add rfl) os_add (pb_slice (ml := none) (mh := (some (mVar 4))) rfl (pb_var 1) True.intro (pb_var 4)) (pb_slice (ml := (some (mOp2 oAdd (mVar 4) (mC (.int 1))))) (mh := none) rfl (pb_var 1) (pb_op (or_add rfl) os_add (pb_var 4) pb_int) True.intro)))) pb_snil)
    (pb_scons (pb_sif (pb_tcmp (or_eq rfl hr.units) os_eq (pb_var 3) pb_int (nm_Eq _)) (pb_sone (pb_ret (pb_op (or_add rfl) os_add (pb_var 1) (pb_tup (pb_cons (pb_ix (ir_ix rfl) os_ix (pb_var 1) (pb_var 4) (fun _ _ => rfl)) pb_nil))))) pb_snil)
    (pb_sone (pb_ret (pb_op (or_add rfl) os_add (pb_op (or_add rfl) os_add (pb_slice (ml := none) (mh := (some (mVar 4))) rfl (pb_var 1) True.intro (pb_var 4)) (pb_tup (pb_cons (pb_call (F := F__law_odd n) (G) (hr.mono (by omega)) (by rfl) T.c__law_odd.g T.c__law_odd.F.kp T.c__law_odd.b (pb_cons (pb_var 0) (pb_cons (pb_ix (ir_ix rfl) os_ix (pb_var 1) (pb_var 4) (fun _ _ => rfl)) pb_nil)) (len_cons (len_cons len_nil))) pb_nil))) (pb_slice (ml := (some (mOp2 oAdd (mVar 4) (mC (.int 1))))) (mh := none) rfl (pb_var 1) (pb_op (or_add rfl) os_add (pb_var 4) pb_int) True.intro)))))))))))
theorem ok__law_number_amiss (T : Txt K mg w) : FnOk P w K mg base CX0 3 T.a__law_number_amiss T.d__law_number_amiss ["_law_state", "_law_corner"] (spOf K lsG 2 (F__law_number_amiss)) :=
  fn_pb2 (Tx := exT K) (xa := xa0) (m__law_number_amiss) 5 2 T.c__law_number_amiss.F sc__law_number_amiss rfl rfl (by decide) fun i cdv A outer s H E hr => (pb_scons (pb_set (i := 2) sc__law_number_amiss.nd rfl (by first | exact Or.inl rfl | exact Or.inr rfl) (pb_call (F := F__law_draw) (ok__law_draw T) (hr.mono (by decide)) (by rfl) T.c__law_draw.g T.c__law_draw.F.kp T.c__law_draw.b (pb_cons (pb_var 0) (pb_cons pb_int pb_nil)) (len_cons (len_cons len_nil))))
    (pb_scons (pb_set (i := 3) sc__law_number_amiss.nd rfl (by first | exact Or.inl rfl | exact Or.inr rfl) (pb_ix (ir_ix rfl) os_ix (pb_var 1) (pb_var 2) (fun _ _ => rfl)))
    (pb_scons (pb_set (i := 4) sc__law_number_amiss.nd rfl (by first | exact Or.inl rfl | exact Or.inr rfl) (pb_ix (ir_ix rfl) os_ix (pb_lst (pb_cons (pb_op (or_add rfl) os_add (pb_var 3) pb_int) (pb_cons (pb_op op_sub os_sub (pb_var 3) pb_int) (pb_cons (pb_op op_sub os_sub pb_int pb_int) (pb_cons (pb_op op_sub os_sub pb_int pb_int) (pb_cons (pb_cmp (or_eq rfl hr.units) os_eq (pb_var 3) pb_int (nm_Eq _)) (pb_cons (pb_cmp (or_eq rfl hr.units) os_eq (pb_var 3) pb_int (nm_Eq _)) (pb_cons pb_non (pb_cons (pb_str [49]) pb_nil))))))))) (pb_call (F := F__law_draw) (ok__law_draw T) (hr.mono (by decide)) (by rfl) T.c__law_draw.g T.c__law_draw.F.kp T.c__law_draw.b (pb_cons (pb_var 0) (pb_cons pb_int pb_nil)) (len_cons (len_cons len_nil))) (fun _ _ => rfl)))
    (pb_sone (pb_ret (pb_op (or_add rfl) os_add (pb_op (or_add rfl) os_add (pb_slice (ml := none) (mh := (some (mVar 2))) rfl (pb_var 1) True.intro (pb_var 2)) (pb_tup (pb_cons (pb_var 4) pb_nil))) (pb_slice (ml := (some (mOp2 oAdd (mVar 2) (mC (.int 1))))) (mh := none) rfl (pb_var 1) (pb_op (or_add rfl) os_add (pb_var 2) pb_int) True.intro)))))))
theorem ok__law_corner_amiss (T : Txt K mg w) : FnOk P w K mg base CX0 4 T.a__law_corner_amiss T.d__law_corner_amiss ["_law_state", "_law_shape_here", "_law_way"] (spOf K lsG 3 (F__law_corner_amiss)) :=
  fn_pb2 (Tx := exT K) (xa := xa0) (m__law_corner_amiss) 12 3 T.c__law_corner_amiss.F sc__law_corner_amiss rfl rfl (by decide) fun i cdv A outer s H E hr => (pb_scons (pb_set (i := 3) sc__law_corner_amiss.nd rfl (by first | exact Or.inl rfl | exact Or.inr rfl) (pb_call (F := F__law_draw) (ok__law_draw T) (hr.mono (by decide)) (by rfl) T.c__law_draw.g T.c__law_draw.F.kp T.c__law_draw.b (pb_cons (pb_var 0) (pb_cons (pb_cb (cl_len rfl) os_len (by rfl) T.z_len (by decide +kernel) (pb_cons (pb_var 1) pb_nil)) pb_nil)) (len_cons (len_cons len_nil))))
    (pb_scons (pb_set (i := 4) sc__law_corner_amiss.nd rfl (by first | exact Or.inl rfl | exact Or.inr rfl) (pb_ix (ir_ix rfl) os_ix (pb_var 1) (pb_var 3) (fun _ _ => rfl)))
    (pb_scons (pb_sif (pb_tcmp (or_eq rfl hr.units) os_eq (pb_var 2) pb_int (nm_Eq _)) (pb_scons (pb_set (i := 5) sc__law_corner_amiss.nd rfl (by first | exact Or.inl rfl | exact Or.inr rfl) (pb_op (or_add rfl) os_add pb_int (pb_call (F := F__law_draw) (ok__law_draw T) (hr.mono (by decide)) (by rfl) T.c__law_draw.g T.c__law_draw.F.kp T.c__law_draw.b (pb_cons (pb_var 0) (pb_cons pb_int pb_nil)) (len_cons (len_cons len_nil)))))
    (pb_sone (pb_ret (pb_op (or_add rfl) os_add (pb_op (or_add rfl) os_add (pb_slice (ml := none) (mh := (some (mVar 3))) rfl (pb_var 1) True.intro (pb_var 3)) (pb_tup (pb_cons (pb_ct (cl_tuple rfl) os_tuple (by rfl) T.z_tuple (by decide +kernel) (pb_cons (pb_lc (own := [("_law_number", 9)]) rfl sc__law_corner_amiss.nd (pb_items rfl (pb_var 4)) (blkOk_by (own := [("_law_number", 9)]) (by rfl)) (fun _ _ _ _ _ => (pg_name (i := 9) sc__law_corner_amiss.nd rfl (by first | exact Or.inl rfl | exact Or.inr rfl))) (ts_name 9) (by decide) (fun _ _ _ _ _ => pts_yes) (fun _ _ _ _ _ => (pb_op op_mulW os_mul (pb_var 5) (pb_var 9)))) pb_nil)) pb_nil))) (pb_slice (ml := (some (mOp2 oAdd (mVar 3) (mC (.int 1))))) (mh := none) rfl (pb_var 1) (pb_op (or_add rfl) os_add (pb_var 3) pb_int) True.intro))))) pb_snil)
    (pb_scons (pb_sif (pb_tcmp (or_eq rfl hr.units) os_eq (pb_var 2) pb_int (nm_Eq _)) (pb_sone (pb_ret (pb_op (or_add rfl) os_add (pb_slice (ml := none) (mh := (some (mVar 3))) rfl (pb_var 1) True.intro (pb_var 3)) (pb_slice (ml := (some (mOp2 oAdd (mVar 3) (mC (.int 1))))) (mh := none) rfl (pb_var 1) (pb_op (or_add rfl) os_add (pb_var 3) pb_int) True.intro)))) pb_snil)
    (pb_scons (pb_sif (pb_tcmp (or_eq rfl hr.units) os_eq (pb_var 2) pb_int (nm_Eq _)) (pb_scons (pb_set (i := 6) sc__law_corner_amiss.nd rfl (by first | exact Or.inl rfl | exact Or.inr rfl) (pb_ct (cl_list rfl) os_list (by rfl) T.z_list (by decide +kernel) (pb_cons (pb_var 1) pb_nil)))
    (pb_scons (pb_insert (i := 6) rfl rfl (pb_cons (pb_call (F := F__law_draw) (ok__law_draw T) (hr.mono (by decide)) (by rfl) T.c__law_draw.g T.c__law_draw.F.kp T.c__law_draw.b (pb_cons (pb_var 0) (pb_cons (pb_op (or_add rfl) os_add (pb_cb (cl_len rfl) os_len (by rfl) T.z_len (by decide +kernel) (pb_cons (pb_var 1) pb_nil)) pb_int) pb_nil)) (len_cons (len_cons len_nil))) (pb_cons (pb_var 4) pb_nil)))
    (pb_sone (pb_ret (pb_ct (cl_tuple rfl) os_tuple (by rfl) T.z_tuple (by decide +kernel) (pb_cons (pb_var 6) pb_nil)))))) pb_snil)
    (pb_scons (pb_sif (pb_tcmp (or_eq rfl hr.units) os_eq (pb_var 2) pb_int (nm_Eq _)) (pb_scons (pb_set (i := 5) sc__law_corner_amiss.nd rfl (by first | exact Or.inl rfl | exact Or.inr rfl) (pb_op (or_add rfl) os_add pb_int (pb_call (F := F__law_draw) (ok__law_draw T) (hr.mono (by decide)) (by rfl) T.c__law_draw.g T.c__law_draw.F.kp T.c__law_draw.b (pb_cons (pb_var 0) (pb_cons pb_int pb_nil)) (len_cons (len_cons len_nil)))))
    (pb_scons (pb_set (i := 7) sc__law_corner_amiss.nd rfl (by first | exact Or.inl rfl | exact Or.inr rfl) (pb_call (F := F__law_lowest) (ok__law_lowest T) (hr.mono (by decide)) (by rfl) T.c__law_lowest.g T.c__law_lowest.F.kp T.c__law_lowest.b (pb_cons (pb_lc (own := [("_law_a", 10), ("_law_b", 11)]) rfl sc__law_corner_amiss.nd (pb_zip rfl (by rfl) T.z_zip (pb_ix (ir_ix rfl) os_ix (pb_var 1) (pb_op op_sub os_sub (pb_var 3) pb_int) (fun _ _ => rfl)) (pb_var 4)) (blkOk_by (own := [("_law_a", 10), ("_law_b", 11)]) (by rfl)) (fun _ _ _ _ _ => (pg_tup rfl (pgs_cons (pg_name (i := 10) sc__law_corner_amiss.nd rfl (by first | exact Or.inl rfl | exact Or.inr rfl)) (pgs_cons (pg_name (i := 11) sc__law_corner_amiss.nd rfl (by first | exact Or.inl rfl | exact Or.inr rfl)) pgs_nil)))) (ts_tup rfl rfl (TgL.cons (TgL.cons TgL.nil))) (by decide) (fun _ _ _ _ _ => pts_yes) (fun _ _ _ _ _ => (pb_op (or_add rfl) os_add (pb_op op_mulW os_mul (pb_var 5) (pb_var 10)) (pb_var 11)))) pb_nil) (len_cons len_nil)))
    (pb_scons (pb_sif (pb_tcmp (or_eq rfl hr.units) os_eq (pb_var 3) pb_int (nm_Eq _)) (pb_sone (pb_ret (pb_op (or_add rfl) os_add (pb_var 1) (pb_tup (pb_cons (pb_var 7) pb_nil))))) pb_snil)
    (pb_sone (pb_ret (pb_op (or_add rfl) os_add (pb_op (or_add rfl) os_add (pb_slice (ml := none) (mh := (some (mVar 3))) rfl (pb_var 1) True.intro (pb_var 3)) (pb_tup (pb_cons (pb_var 7) pb_nil))) (pb_slice (ml := (some (mVar 3))) (mh := none) rfl (pb_var 1) (pb_var 3) True.intro))))))) pb_snil)
    (pb_scons (pb_sif (pb_tcmp (or_eq rfl hr.units) os_eq (pb_var 2) pb_int (nm_Eq _)) (pb_sone (pb_ret (pb_op (or_add rfl) os_add (pb_op (or_add rfl) os_add (pb_slice (ml := none) (mh := (some (mVar 3))) rfl (pb_var 1) True.intro (pb_var 3)) (pb_tup (pb_cons (pb_call (F := F__law_number_amiss) (ok__law_number_amiss T) (hr.mono (by decide)) (by rfl) T.c__law_number_amiss.g T.c__law_number_amiss.F.kp T.c__law_number_amiss.b (pb_cons (pb_var 0) (pb_cons (pb_var 4) pb_nil)) (len_cons (len_cons len_nil))) pb_nil))) (pb_slice (ml := (some (mOp2 oAdd (mVar 3) (mC (.int 1))))) (mh := none) rfl (pb_var 1) (pb_op (or_add rfl) os_add (pb_var 3) pb_int) True.intro)))) pb_snil)
    (pb_scons (pb_set (i := 8) sc__law_corner_amiss.nd rfl (by first | exact Or.inl rfl | exact Or.inr rfl) (pb_ix (ir_ix rfl) os_ix (pb_lst (pb_cons pb_non (pb_cons pb_int (pb_cons (pb_str [99, 111, 114, 110, 101, 114]) (pb_cons pb_bl (pb_cons (pb_tup (pb_cons pb_int (pb_cons pb_int (pb_cons pb_int pb_nil)))) (pb_cons (pb_slice (ml := none) (mh := (some (mC (.int 2)))) rfl (pb_var 4) True.intro pb_int) (pb_cons (pb_op (or_add rfl) os_add (pb_var 4) (pb_tup (pb_cons pb_int pb_nil))) (pb_cons (pb_tup (pb_cons (pb_var 4) pb_nil)) pb_nil))))))))) (pb_call (F := F__law_draw) (ok__law_draw T) (hr.mono (by decide)) (by rfl) T.c__law_draw.g T.c__law_draw.F.kp T.c__law_draw.b (pb_cons (pb_var 0) (pb_cons pb_int pb_nil)) (len_cons (len_cons len_nil))) (fun _ _ => rfl)))
    (pb_sone (pb_ret (pb_op (or_add rfl) os_add (pb_op (or_add rfl) os_add (pb_slice (ml := none) (mh := (some (mVar 3))) rfl (pb_var 1) True.intro (pb_var 3)) (pb_tup (pb_cons (pb_var 8) pb_nil))) (pb_slice (ml := (some (mOp2 oAdd (mVar 3) (mC (.int 1))))) (mh := none) rfl (pb_var 1) (pb_op (or_add rfl) os_add (pb_var 3) pb_int) True.intro))))))))))))
theorem ok__law_amiss (T : Txt K mg w) : FnOk P w K mg base CX0 5 T.a__law_amiss T.d__law_amiss ["_law_state", "_law_shape_here", "_law_way"] (spOf K lsG 3 (F__law_amiss)) :=
  fn_pb2 (Tx := exT K) (xa := xa0) (m__law_amiss) 7 3 T.c__law_amiss.F sc__law_amiss rfl rfl (by decide) fun i cdv A outer s H E hr => (pb_scons (pb_sif (pb_tcmp (or_eq rfl hr.units) os_eq (pb_var 2) pb_int (nm_Eq _)) (pb_scons (pb_set (i := 3) sc__law_amiss.nd rfl (by first | exact Or.inl rfl | exact Or.inr rfl) (pb_call (F := F__law_draw) (ok__law_draw T) (hr.mono (by decide)) (by rfl) T.c__law_draw.g T.c__law_draw.F.kp T.c__law_draw.b (pb_cons (pb_var 0) (pb_cons (pb_cb (cl_len rfl) os_len (by rfl) T.z_len (by decide +kernel) (pb_cons (pb_var 1) pb_nil)) pb_nil)) (len_cons (len_cons len_nil))))
    (pb_scons (pb_set (i := 4) sc__law_amiss.nd rfl (by first | exact Or.inl rfl | exact Or.inr rfl) (pb_call (F := F__law_draw) (ok__law_draw T) (hr.mono (by decide)) (by rfl) T.c__law_draw.g T.c__law_draw.F.kp T.c__law_draw.b (pb_cons (pb_var 0) (pb_cons (pb_cb (cl_len rfl) os_len (by rfl) T.z_len (by decide +kernel) (pb_cons (pb_var 1) pb_nil)) pb_nil)) (len_cons (len_cons len_nil))))
    (pb_scons (pb_set (i := 5) sc__law_amiss.nd rfl (by first | exact Or.inl rfl | exact Or.inr rfl) (pb_ct (cl_list rfl) os_list (by rfl) T.z_list (by decide +kernel) (pb_cons (pb_var 1) pb_nil)))
    (pb_scons (pb_asgN rfl rfl (pb_tup (pb_cons (pb_ix (ir_ix rfl) os_ix (pb_var 1) (pb_var 4) (fun _ _ => rfl)) (pb_cons (pb_ix (ir_ix rfl) os_ix (pb_var 1) (pb_var 3) (fun _ _ => rfl)) pb_nil))) (pgs_cons (pk_put (i := 5) rfl (pb_var 3)) (pgs_cons (pk_put (i := 5) rfl (pb_var 4)) pgs_nil)) (TkL.cons (TkL.cons TkL.nil)))
    (pb_sone (pb_ret (pb_ct (cl_tuple rfl) os_tuple (by rfl) T.z_tuple (by decide +kernel) (pb_cons (pb_var 5) pb_nil)))))))) pb_snil)
    (pb_scons (pb_sif (pb_tcmp (or_eq rfl hr.units) os_eq (pb_var 2) pb_int (nm_Eq _)) (pb_scons (pb_set (i := 3) sc__law_amiss.nd rfl (by first | exact Or.inl rfl | exact Or.inr rfl) (pb_call (F := F__law_draw) (ok__law_draw T) (hr.mono (by decide)) (by rfl) T.c__law_draw.g T.c__law_draw.F.kp T.c__law_draw.b (pb_cons (pb_var 0) (pb_cons (pb_cb (cl_len rfl) os_len (by rfl) T.z_len (by decide +kernel) (pb_cons (pb_var 1) pb_nil)) pb_nil)) (len_cons (len_cons len_nil))))
    (pb_sone (pb_ret (pb_op (or_add rfl) os_add (pb_slice (ml := (some (mVar 3))) (mh := none) rfl (pb_var 1) (pb_var 3) True.intro) (pb_slice (ml := none) (mh := (some (mVar 3))) rfl (pb_var 1) True.intro (pb_var 3)))))) pb_snil)
    (pb_scons (pb_sif (pb_tcmp (or_eq rfl hr.units) os_eq (pb_var 2) pb_int (nm_Eq _)) (pb_sone (pb_ret (pb_op (or_add rfl) os_add (pb_slice (ml := none) (mh := (some (mC (.int 1)))) rfl (pb_var 1) True.intro pb_int) (pb_rev1 rfl (pb_var 1))))) pb_snil)
    (pb_scons (pb_sif (pb_tcmp (or_eq rfl hr.units) os_eq (pb_var 2) pb_int (nm_Eq _)) (pb_sone (pb_ret (pb_op (or_add rfl) os_add (pb_slice (ml := none) (mh := (some (mC (.int 20)))) rfl (pb_var 1) True.intro pb_int) (pb_slice (ml := none) (mh := (some (mC (.int 20)))) rfl (pb_var 1) True.intro pb_int)))) pb_snil)
    (pb_scons (pb_sif (pb_tcmp or_lt os_lt (pb_var 2) pb_int (nm_Lt _)) (pb_sone (pb_ret (pb_call (F := F__law_corner_amiss) (ok__law_corner_amiss T) (hr.mono (by decide)) (by rfl) T.c__law_corner_amiss.g T.c__law_corner_amiss.F.kp T.c__law_corner_amiss.b (pb_cons (pb_var 0) (pb_cons (pb_var 1) (pb_cons (pb_var 2) pb_nil))) (len_cons (len_cons (len_cons len_nil)))))) pb_snil)
    (pb_scons (pb_set (i := 6) sc__law_amiss.nd rfl (by first | exact Or.inl rfl | exact Or.inr rfl) (pb_tup (pb_cons (pb_tup (pb_cons pb_int (pb_cons pb_int (pb_cons pb_int pb_nil)))) (pb_cons (pb_tup (pb_cons pb_int (pb_cons pb_int (pb_cons pb_int pb_nil)))) (pb_cons (pb_tup (pb_cons pb_int (pb_cons pb_int (pb_cons pb_int pb_nil)))) (pb_cons (pb_tup (pb_cons pb_int (pb_cons pb_int (pb_cons pb_int pb_nil)))) (pb_cons (pb_tup (pb_cons pb_int (pb_cons pb_int (pb_cons pb_int pb_nil)))) (pb_cons (pb_tup (pb_cons pb_int (pb_cons pb_int (pb_cons pb_int pb_nil)))) (pb_cons (pb_tup (pb_cons pb_int (pb_cons pb_int (pb_cons pb_int pb_nil)))) pb_nil)))))))))
    (pb_sone (pb_ret (pb_ix (ir_ix rfl) os_ix (pb_lst (pb_cons (pb_var 6) (pb_cons (pb_var 6) (pb_cons pb_int (pb_cons (pb_slice (ml := none) (mh := (some (mC (.int 2)))) rfl (pb_var 1) True.intro pb_int) (pb_cons (pb_tup pb_nil) (pb_cons pb_non (pb_cons (pb_str [115, 104, 97, 112, 101]) (pb_cons (pb_tup (pb_cons (pb_var 1) pb_nil)) pb_nil))))))))) (pb_call (F := F__law_draw) (ok__law_draw T) (hr.mono (by decide)) (by rfl) T.c__law_draw.g T.c__law_draw.F.kp T.c__law_draw.b (pb_cons (pb_var 0) (pb_cons pb_int pb_nil)) (len_cons (len_cons len_nil))) (fun _ _ => rfl))))))))))
theorem ok_is_whole (T : Txt K mg w) : FnOk P w K mg base CX0 1 T.a_is_whole T.d_is_whole ["thing"] (spOf K lsG 1 (F_is_whole)) :=
  fn_pb2 (Tx := exT K) (xa := xa0) (m_is_whole) 1 1 T.c_is_whole.F sc_is_whole rfl rfl (by decide) fun i cdv A outer s H E hr => (pb_sone (pb_ret (pb_andV (pb_isi .int rfl (by rfl) T.z_isinstance (by rfl) T.z_int (by decide +kernel) (pb_var 0)) (pb_one (pb_notV (pb_isi .bool rfl (by rfl) T.z_isinstance (by rfl) T.z_bool (by decide +kernel) (pb_var 0)))))))
theorem ok_shared (T : Txt K mg w) : FnOk P w K mg base CX0 1 T.a_shared T.d_shared ["one", "other"] (spOf K lsG 2 (F_shared)) :=
  fn_pb2 (Tx := exT K) (xa := xa0) (m_shared) 2 2 T.c_shared.F sc_shared rfl rfl (by decide) fun i cdv A outer s H E hr => (pb_scons (pb_set (i := 0) sc_shared.nd rfl (by first | exact Or.inl rfl | exact Or.inr rfl) (pb_cb call_abs os_abs (by rfl) T.z_abs (by decide +kernel) (pb_cons (pb_var 0) pb_nil)))
    (pb_scons (pb_set (i := 1) sc_shared.nd rfl (by first | exact Or.inl rfl | exact Or.inr rfl) (pb_cb call_abs os_abs (by rfl) T.z_abs (by decide +kernel) (pb_cons (pb_var 1) pb_nil)))
    (pb_scons (pb_while 100000 PassesOwn.never (pb_tcmp or_gt os_gt (pb_var 1) pb_int (nm_Gt _)) (pb_sone (pb_par (i := 0) (j := 1) rfl sc_shared.nd rfl rfl (by decide) rfl rfl (pb_var 1) (pb_op op_mod os_mod (pb_var 0) (pb_var 1)))))
    (pb_sone (pb_ret (pb_var 0))))))
theorem ok_lowest (T : Txt K mg w) : FnOk P w K mg base CX0 2 T.a_lowest T.d_lowest ["numbers"] (spOf K lsG 1 (F_lowest)) :=
  fn_pb2 (Tx := exT K) (xa := xa0) (m_lowest) 3 1 T.c_lowest.F sc_lowest rfl rfl (by decide) fun i cdv A outer s H E hr => (pb_scons (pb_set (i := 1) sc_lowest.nd rfl (by first | exact Or.inl rfl | exact Or.inr rfl) pb_int)
    (pb_scons (pb_for PassesOwn.never rfl (pb_items rfl (pb_var 0)) (pg_name (i := 2) sc_lowest.nd rfl (by first | exact Or.inl rfl | exact Or.inr rfl)) (ts_name 2) (pb_frz 1 (pb_sone (pb_set (i := 1) sc_lowest.nd rfl (by first | exact Or.inl rfl | exact Or.inr rfl) (pb_call (F := F_shared) (ok_shared T) (hr.mono (by decide)) (by rfl) T.c_shared.g T.c_shared.F.kp T.c_shared.b (pb_cons (pb_var 1) (pb_cons (pb_var 2) pb_nil)) (len_cons (len_cons len_nil)))))))
    (pb_sone (pb_ret (pb_ct (cl_tuple rfl) os_tuple (by rfl) T.z_tuple (by decide +kernel) (pb_cons (pb_lc (own := [("number", 2)]) rfl sc_lowest.nd (pb_items rfl (pb_var 0)) (blkOk_by (own := [("number", 2)]) (by rfl)) (fun _ _ _ _ _ => (pg_name (i := 2) sc_lowest.nd rfl (by first | exact Or.inl rfl | exact Or.inr rfl))) (ts_name 2) (by decide) (fun _ _ _ _ _ => pts_yes) (fun _ _ _ _ _ => (pb_op op_fdivW os_div (pb_var 2) (pb_var 1)))) pb_nil))))))
theorem ok_is_corner (T : Txt K mg w) : FnOk P w K mg base CX0 3 T.a_is_corner T.d_is_corner ["thing"] (spOf K lsG 1 (F_is_corner)) :=
  fn_pb2 (Tx := exT K) (xa := xa0) (m_is_corner) 2 1 T.c_is_corner.F sc_is_corner rfl rfl (by decide) fun i cdv A outer s H E hr => (pb_scons (pb_sif (PW.pt (pb_or (pb_not (pb_val (pb_isi .tuple rfl (by rfl) T.z_isinstance (by rfl) T.z_tuple (by decide +kernel) (pb_var 0)))) (pb_or1 (pb_tcmp (or_ne rfl hr.units) os_ne (pb_cb (cl_len rfl) os_len (by rfl) T.z_len (by decide +kernel) (pb_cons (pb_var 0) pb_nil)) pb_int (nm_NotEq _))))) (pb_sone (pb_ret pb_bl)) pb_snil)
    (pb_scons (pb_sif (PW.pt (pb_or (pb_not (pb_val (pb_cb (cl_all rfl rfl) os_all (by rfl) T.z_all (by decide +kernel) (pb_cons (pb_lc (own := [("number", 1)]) rfl sc_is_corner.nd (pb_items rfl (pb_var 0)) (blkOk_by (own := [("number", 1)]) (by rfl)) (fun _ _ _ _ _ => (pg_name (i := 1) sc_is_corner.nd rfl (by first | exact Or.inl rfl | exact Or.inr rfl))) (ts_name 1) (by decide) (fun _ _ _ _ _ => pts_yes) (fun _ _ _ _ _ => (pb_andV (pb_call (F := F_is_whole) (ok_is_whole T) (hr.mono (by decide)) (by rfl) T.c_is_whole.g T.c_is_whole.F.kp T.c_is_whole.b (pb_cons (pb_var 1) pb_nil) (len_cons len_nil)) (pb_one (pb_cmp or_ge os_ge (pb_var 1) pb_int (nm_GtE _)))))) pb_nil)))) (pb_or1 (pb_tcmp (or_eq rfl hr.units) os_eq (pb_cb (cl_sumA rfl rfl) os_sumA (by rfl) T.z_sum (by decide +kernel) (pb_cons (pb_var 0) pb_nil)) pb_int (nm_Eq _))))) (pb_sone (pb_ret pb_bl)) pb_snil)
    (pb_sone (pb_ret (pb_cmp (or_eq rfl hr.units) os_eq (pb_call (F := F_lowest) (ok_lowest T) (hr.mono (by decide)) (by rfl) T.c_lowest.g T.c_lowest.F.kp T.c_lowest.b (pb_cons (pb_var 0) pb_nil) (len_cons len_nil)) (pb_var 0) (nm_Eq _))))))
theorem ok_turn_of (T : Txt K mg w) : FnOk P w K mg base CX0 1 T.a_turn_of T.d_turn_of ["a", "b", "c"] (spOf K lsG 3 (F_turn_of)) :=
  fn_pb2 (Tx := exT K) (xa := xa0) (m_turn_of) 6 3 T.c_turn_of.F sc_turn_of rfl rfl (by decide) fun i cdv A outer s H E hr => (pb_scons (pb_set (i := 3) sc_turn_of.nd rfl (by first | exact Or.inl rfl | exact Or.inr rfl) (pb_op op_sub os_sub (pb_op op_mulW os_mul (pb_ix (ir_ix rfl) os_ix (pb_var 1) pb_int (fun _ _ => rfl)) (pb_ix (ir_ix rfl) os_ix (pb_var 2) pb_int (fun _ _ => rfl))) (pb_op op_mulW os_mul (pb_ix (ir_ix rfl) os_ix (pb_var 1) pb_int (fun _ _ => rfl)) (pb_ix (ir_ix rfl) os_ix (pb_var 2) pb_int (fun _ _ => rfl)))))
    (pb_scons (pb_set (i := 4) sc_turn_of.nd rfl (by first | exact Or.inl rfl | exact Or.inr rfl) (pb_op op_sub os_sub (pb_op op_mulW os_mul (pb_ix (ir_ix rfl) os_ix (pb_var 1) pb_int (fun _ _ => rfl)) (pb_ix (ir_ix rfl) os_ix (pb_var 2) pb_int (fun _ _ => rfl))) (pb_op op_mulW os_mul (pb_ix (ir_ix rfl) os_ix (pb_var 1) pb_int (fun _ _ => rfl)) (pb_ix (ir_ix rfl) os_ix (pb_var 2) pb_int (fun _ _ => rfl)))))
    (pb_scons (pb_set (i := 5) sc_turn_of.nd rfl (by first | exact Or.inl rfl | exact Or.inr rfl) (pb_op op_sub os_sub (pb_op op_mulW os_mul (pb_ix (ir_ix rfl) os_ix (pb_var 1) pb_int (fun _ _ => rfl)) (pb_ix (ir_ix rfl) os_ix (pb_var 2) pb_int (fun _ _ => rfl))) (pb_op op_mulW os_mul (pb_ix (ir_ix rfl) os_ix (pb_var 1) pb_int (fun _ _ => rfl)) (pb_ix (ir_ix rfl) os_ix (pb_var 2) pb_int (fun _ _ => rfl)))))
    (pb_sone (pb_ret (pb_op (or_add rfl) os_add (pb_op (or_add rfl) os_add (pb_op op_mulW os_mul (pb_ix (ir_ix rfl) os_ix (pb_var 0) pb_int (fun _ _ => rfl)) (pb_var 3)) (pb_op op_mulW os_mul (pb_ix (ir_ix rfl) os_ix (pb_var 0) pb_int (fun _ _ => rfl)) (pb_var 4))) (pb_op op_mulW os_mul (pb_ix (ir_ix rfl) os_ix (pb_var 0) pb_int (fun _ _ => rfl)) (pb_var 5))))))))
theorem ok_goes_round (T : Txt K mg w) : FnOk P w K mg base CX0 2 T.a_goes_round T.d_goes_round ["corners"] (spOf K lsG 1 (F_goes_round)) :=
  fn_pb2 (Tx := exT K) (xa := xa0) (m_goes_round) 4 1 T.c_goes_round.F sc_goes_round rfl rfl (by decide) fun i cdv A outer s H E hr => (pb_scons (pb_set (i := 1) sc_goes_round.nd rfl (by first | exact Or.inl rfl | exact Or.inr rfl) (pb_cb (cl_len rfl) os_len (by rfl) T.z_len (by decide +kernel) (pb_cons (pb_var 0) pb_nil)))
    (pb_scons (pb_for PassesOwn.never rfl (pb_range1 (by rfl) T.z_range (pb_var 1)) (pg_name (i := 2) sc_goes_round.nd rfl (by first | exact Or.inl rfl | exact Or.inr rfl)) (ts_name 2) (pb_sone (pb_for PassesOwn.never rfl (pb_range2 (by rfl) T.z_range (pb_cons (pb_op (or_add rfl) os_add (pb_var 2) pb_int) (pb_cons (pb_op op_sub os_sub (pb_op (or_add rfl) os_add (pb_var 2) (pb_var 1)) pb_int) pb_nil)) (hl := (len_cons (len_cons len_nil)))) (pg_name (i := 3) sc_goes_round.nd rfl (by first | exact Or.inl rfl | exact Or.inr rfl)) (ts_name 3) (pb_sone (pb_sif (pb_tcmp or_le os_le (pb_call (F := F_turn_of) (ok_turn_of T) (hr.mono (by decide)) (by rfl) T.c_turn_of.g T.c_turn_of.F.kp T.c_turn_of.b (pb_cons (pb_ix (ir_ix rfl) os_ix (pb_var 0) (pb_op op_sub os_sub (pb_var 2) pb_int) (fun _ _ => rfl)) (pb_cons (pb_ix (ir_ix rfl) os_ix (pb_var 0) (pb_var 2) (fun _ _ => rfl)) (pb_cons (pb_ix (ir_ix rfl) os_ix (pb_var 0) (pb_op op_mod os_mod (pb_var 3) (pb_var 1)) (fun _ _ => rfl)) pb_nil))) (len_cons (len_cons (len_cons len_nil)))) pb_int (nm_LtE _)) (pb_sone (pb_ret pb_bl)) pb_snil)))))
    (pb_sone (pb_ret pb_bl))))
theorem ok_is_shape (T : Txt K mg w) : FnOk P w K mg base CX0 4 T.a_is_shape T.d_is_shape ["thing"] (spOf K lsG 1 (F_is_shape)) :=
  fn_pb2 (Tx := exT K) (xa := xa0) (m_is_shape) 3 1 T.c_is_shape.F sc_is_shape rfl rfl (by decide) fun i cdv A outer s H E hr => (pb_scons (pb_sif (PW.pt (pb_or (pb_not (pb_val (pb_isi .tuple rfl (by rfl) T.z_isinstance (by rfl) T.z_tuple (by decide +kernel) (pb_var 0)))) (pb_or (pb_tcmp or_lt os_lt (pb_cb (cl_len rfl) os_len (by rfl) T.z_len (by decide +kernel) (pb_cons (pb_var 0) pb_nil)) pb_int (nm_Lt _)) (pb_or1 (pb_not (pb_val (pb_cb (cl_all rfl rfl) os_all (by rfl) T.z_all (by decide +kernel) (pb_cons (pb_lc (own := [("part", 1)]) rfl sc_is_shape.nd (pb_items rfl (pb_var 0)) (blkOk_by (own := [("part", 1)]) (by rfl)) (fun _ _ _ _ _ => (pg_name (i := 1) sc_is_shape.nd rfl (by first | exact Or.inl rfl | exact Or.inr rfl))) (ts_name 1) (by decide) (fun _ _ _ _ _ => pts_yes) (fun _ _ _ _ _ => (pb_call (F := F_is_corner) (ok_is_corner T) (hr.mono (by decide)) (by rfl) T.c_is_corner.g T.c_is_corner.F.kp T.c_is_corner.b (pb_cons (pb_var 1) pb_nil) (len_cons len_nil)))) pb_nil)))))))) (pb_sone (pb_ret pb_bl)) pb_snil)
    (pb_sone (pb_ret (pb_andV (pb_call (F := F_goes_round) (ok_goes_round T) (hr.mono (by decide)) (by rfl) T.c_goes_round.g T.c_goes_round.F.kp T.c_goes_round.b (pb_cons (pb_var 0) pb_nil) (len_cons len_nil)) (pb_one (pb_cb (cl_all rfl rfl) os_all (by rfl) T.z_all (by decide +kernel) (pb_cons (pb_lc (own := [("corner", 2)]) rfl sc_is_shape.nd (pb_items rfl (pb_slice (ml := (some (mC (.int 1)))) (mh := none) rfl (pb_var 0) pb_int True.intro)) (blkOk_by (own := [("corner", 2)]) (by rfl)) (fun _ _ _ _ _ => (pg_name (i := 2) sc_is_shape.nd rfl (by first | exact Or.inl rfl | exact Or.inr rfl))) (ts_name 2) (by decide) (fun _ _ _ _ _ => pts_yes) (fun _ _ _ _ _ => (pb_cmp (or_ltD rfl (hu65 hr)) os_ltD (pb_ix (ir_ix rfl) os_ix (pb_var 0) pb_int (fun _ _ => rfl)) (pb_var 2) (nm_Lt _)))) pb_nil)))))))
theorem ok__law_whole (T : Txt K mg w) : FnOk P w K mg base CX0 1 T.a__law_whole T.d__law_whole ["_law_thing"] (spOf K lsG 1 (F__law_whole)) :=
  fn_pb2 (Tx := exT K) (xa := xa0) (m__law_whole) 1 1 T.c__law_whole.F sc__law_whole rfl rfl (by decide) fun i cdv A outer s H E hr => (pb_sone (pb_ret (pb_andV (pb_isi .int rfl (by rfl) T.z_isinstance (by rfl) T.z_int (by decide +kernel) (pb_var 0)) (pb_one (pb_notV (pb_isi .bool rfl (by rfl) T.z_isinstance (by rfl) T.z_bool (by decide +kernel) (pb_var 0)))))))
theorem ok__law_is_price (T : Txt K mg w) : FnOk P w K mg base CX0 3 T.a__law_is_price T.d__law_is_price ["_law_thing"] (spOf K lsG 1 (F__law_is_price)) :=
  fn_pb2 (Tx := exT K) (xa := xa0) (m__law_is_price) 2 1 T.c__law_is_price.F sc__law_is_price rfl rfl (by decide) fun i cdv A outer s H E hr => (pb_scons (pb_sif (PW.pt (pb_or (pb_not (pb_val (pb_isi .tuple rfl (by rfl) T.z_isinstance (by rfl) T.z_tuple (by decide +kernel) (pb_var 0)))) (pb_or1 (pb_tcmp (or_ne rfl hr.units) os_ne (pb_cb (cl_len rfl) os_len (by rfl) T.z_len (by decide +kernel) (pb_cons (pb_var 0) pb_nil)) pb_int (nm_NotEq _))))) (pb_sone (pb_ret pb_bl)) pb_snil)
    (pb_scons (pb_sif (PW.pt (pb_or (pb_not (pb_val (pb_cb (cl_all rfl rfl) os_all (by rfl) T.z_all (by decide +kernel) (pb_cons (pb_lc (own := [("_law_number", 1)]) rfl sc__law_is_price.nd (pb_items rfl (pb_var 0)) (blkOk_by (own := [("_law_number", 1)]) (by rfl)) (fun _ _ _ _ _ => (pg_name (i := 1) sc__law_is_price.nd rfl (by first | exact Or.inl rfl | exact Or.inr rfl))) (ts_name 1) (by decide) (fun _ _ _ _ _ => pts_yes) (fun _ _ _ _ _ => (pb_andV (pb_call (F := F__law_whole) (ok__law_whole T) (hr.mono (by decide)) (by rfl) T.c__law_whole.g T.c__law_whole.F.kp T.c__law_whole.b (pb_cons (pb_var 1) pb_nil) (len_cons len_nil)) (pb_one (pb_cmp or_ge os_ge (pb_var 1) pb_int (nm_GtE _)))))) pb_nil)))) (pb_or1 (pb_tcmp (or_eq rfl hr.units) os_eq (pb_cb (cl_maxA rfl rfl) os_maxA (by rfl) T.z_max (by decide +kernel) (pb_cons (pb_var 0) pb_nil)) pb_int (nm_Eq _))))) (pb_sone (pb_ret pb_bl)) pb_snil)
    (pb_sone (pb_ret (pb_cmp (or_eq rfl hr.units) os_eq (pb_call (F := F__law_lowest) (ok__law_lowest T) (hr.mono (by decide)) (by rfl) T.c__law_lowest.g T.c__law_lowest.F.kp T.c__law_lowest.b (pb_cons (pb_var 0) pb_nil) (len_cons len_nil)) (pb_var 0) (nm_Eq _))))))
theorem ok__law_turn (T : Txt K mg w) : FnOk P w K mg base CX0 1 T.a__law_turn T.d__law_turn ["_law_a", "_law_b", "_law_c"] (spOf K lsG 3 (F__law_turn)) :=
  fn_pb2 (Tx := exT K) (xa := xa0) (m__law_turn) 4 3 T.c__law_turn.F sc__law_turn rfl rfl (by decide) fun i cdv A outer s H E hr => (pb_scons (pb_set (i := 3) sc__law_turn.nd rfl (by first | exact Or.inl rfl | exact Or.inr rfl) (pb_op op_mulW os_mul (pb_ix (ir_ix rfl) os_ix (pb_var 2) pb_int (fun _ _ => rfl)) (pb_op op_sub os_sub (pb_op op_mulW os_mul (pb_ix (ir_ix rfl) os_ix (pb_var 0) pb_int (fun _ _ => rfl)) (pb_ix (ir_ix rfl) os_ix (pb_var 1) pb_int (fun _ _ => rfl))) (pb_op op_mulW os_mul (pb_ix (ir_ix rfl) os_ix (pb_var 0) pb_int (fun _ _ => rfl)) (pb_ix (ir_ix rfl) os_ix (pb_var 1) pb_int (fun _ _ => rfl))))))
    (pb_scons (pb_set (i := 3) sc__law_turn.nd rfl (by first | exact Or.inl rfl | exact Or.inr rfl) (pb_op op_sub os_sub (pb_var 3) (pb_op op_mulW os_mul (pb_ix (ir_ix rfl) os_ix (pb_var 2) pb_int (fun _ _ => rfl)) (pb_op op_sub os_sub (pb_op op_mulW os_mul (pb_ix (ir_ix rfl) os_ix (pb_var 0) pb_int (fun _ _ => rfl)) (pb_ix (ir_ix rfl) os_ix (pb_var 1) pb_int (fun _ _ => rfl))) (pb_op op_mulW os_mul (pb_ix (ir_ix rfl) os_ix (pb_var 0) pb_int (fun _ _ => rfl)) (pb_ix (ir_ix rfl) os_ix (pb_var 1) pb_int (fun _ _ => rfl)))))))
    (pb_sone (pb_ret (pb_op (or_add rfl) os_add (pb_var 3) (pb_op op_mulW os_mul (pb_ix (ir_ix rfl) os_ix (pb_var 2) pb_int (fun _ _ => rfl)) (pb_op op_sub os_sub (pb_op op_mulW os_mul (pb_ix (ir_ix rfl) os_ix (pb_var 0) pb_int (fun _ _ => rfl)) (pb_ix (ir_ix rfl) os_ix (pb_var 1) pb_int (fun _ _ => rfl))) (pb_op op_mulW os_mul (pb_ix (ir_ix rfl) os_ix (pb_var 0) pb_int (fun _ _ => rfl)) (pb_ix (ir_ix rfl) os_ix (pb_var 1) pb_int (fun _ _ => rfl))))))))))
theorem ok__law_is_shape (T : Txt K mg w) : FnOk P w K mg base CX0 4 T.a__law_is_shape T.d__law_is_shape ["_law_thing"] (spOf K lsG 1 (F__law_is_shape)) :=
  fn_pb2 (Tx := exT K) (xa := xa0) (m__law_is_shape) 7 1 T.c__law_is_shape.F sc__law_is_shape rfl rfl (by decide) fun i cdv A outer s H E hr => (pb_scons (pb_sif (PW.pt (pb_or (pb_not (pb_val (pb_isi .tuple rfl (by rfl) T.z_isinstance (by rfl) T.z_tuple (by decide +kernel) (pb_var 0)))) (pb_or (pb_tcmp or_lt os_lt (pb_cb (cl_len rfl) os_len (by rfl) T.z_len (by decide +kernel) (pb_cons (pb_var 0) pb_nil)) pb_int (nm_Lt _)) (pb_or1 (pb_not (pb_val (pb_cb (cl_all rfl rfl) os_all (by rfl) T.z_all (by decide +kernel) (pb_cons (pb_lc (own := [("_law_part", 5)]) rfl sc__law_is_shape.nd (pb_items rfl (pb_var 0)) (blkOk_by (own := [("_law_part", 5)]) (by rfl)) (fun _ _ _ _ _ => (pg_name (i := 5) sc__law_is_shape.nd rfl (by first | exact Or.inl rfl | exact Or.inr rfl))) (ts_name 5) (by decide) (fun _ _ _ _ _ => pts_yes) (fun _ _ _ _ _ => (pb_call (F := F__law_is_price) (ok__law_is_price T) (hr.mono (by decide)) (by rfl) T.c__law_is_price.g T.c__law_is_price.F.kp T.c__law_is_price.b (pb_cons (pb_var 5) pb_nil) (len_cons len_nil)))) pb_nil)))))))) (pb_sone (pb_ret pb_bl)) pb_snil)
    (pb_scons (pb_sif (pb_not (pb_val (pb_cb (cl_all rfl rfl) os_all (by rfl) T.z_all (by decide +kernel) (pb_cons (pb_lc (own := [("_law_corner", 6)]) rfl sc__law_is_shape.nd (pb_items rfl (pb_slice (ml := (some (mC (.int 1)))) (mh := none) rfl (pb_var 0) pb_int True.intro)) (blkOk_by (own := [("_law_corner", 6)]) (by rfl)) (fun _ _ _ _ _ => (pg_name (i := 6) sc__law_is_shape.nd rfl (by first | exact Or.inl rfl | exact Or.inr rfl))) (ts_name 6) (by decide) (fun _ _ _ _ _ => pts_yes) (fun _ _ _ _ _ => (pb_cmp (or_ltD rfl (hu65 hr)) os_ltD (pb_ix (ir_ix rfl) os_ix (pb_var 0) pb_int (fun _ _ => rfl)) (pb_var 6) (nm_Lt _)))) pb_nil)))) (pb_sone (pb_ret pb_bl)) pb_snil)
    (pb_scons (pb_for PassesOwn.never rfl (pb_range1 (by rfl) T.z_range (pb_cb (cl_len rfl) os_len (by rfl) T.z_len (by decide +kernel) (pb_cons (pb_var 0) pb_nil))) (pg_name (i := 1) sc__law_is_shape.nd rfl (by first | exact Or.inl rfl | exact Or.inr rfl)) (ts_name 1) (pb_scons (pb_par (i := 2) (j := 3) rfl sc__law_is_shape.nd rfl rfl (by decide) rfl rfl (pb_ix (ir_ix rfl) os_ix (pb_var 0) (pb_op op_sub os_sub (pb_var 1) pb_int) (fun _ _ => rfl)) (pb_ix (ir_ix rfl) os_ix (pb_var 0) (pb_var 1) (fun _ _ => rfl)))
    (pb_sone (pb_for PassesOwn.never rfl (pb_range1 (by rfl) T.z_range (pb_cb (cl_len rfl) os_len (by rfl) T.z_len (by decide +kernel) (pb_cons (pb_var 0) pb_nil))) (pg_name (i := 4) sc__law_is_shape.nd rfl (by first | exact Or.inl rfl | exact Or.inr rfl)) (ts_name 4) (pb_sone (pb_sif (PW.pt (pb_and (pb_tcmp (or_ne rfl hr.units) os_ne (pb_var 4) (pb_var 1) (nm_NotEq _)) (pb_and (pb_tcmp (or_ne rfl hr.units) os_ne (pb_var 4) (pb_op op_mod os_mod (pb_op op_sub os_sub (pb_var 1) pb_int) (pb_cb (cl_len rfl) os_len (by rfl) T.z_len (by decide +kernel) (pb_cons (pb_var 0) pb_nil))) (nm_NotEq _)) (pb_and1 (pb_tcmp or_le os_le (pb_call (F := F__law_turn) (ok__law_turn T) (hr.mono (by decide)) (by rfl) T.c__law_turn.g T.c__law_turn.F.kp T.c__law_turn.b (pb_cons (pb_var 2) (pb_cons (pb_var 3) (pb_cons (pb_ix (ir_ix rfl) os_ix (pb_var 0) (pb_var 4) (fun _ _ => rfl)) pb_nil))) (len_cons (len_cons (len_cons len_nil)))) pb_int (nm_LtE _)))))) (pb_sone (pb_ret pb_bl)) pb_snil))))))
    (pb_sone (pb_ret pb_bl)))))
theorem ok_law (T : Txt K mg w) {f : Addr} {fd : FuncData} (F : FnP K "law" s_law f fd) (hp : ∀ s : LS, s.Ok → s.cnt = 0 → ∃ g', m_law (.un :: .dat (.ref s.a) :: List.replicate 4 .un) s = .ok (.rt (.dat (.bl true))) g') : FnOk P w K mg base CX0 14 f fd ["_law_script"] (spLaw K) := by
  refine F.fun.ok sc_law (fun vs H Q E h => ?_) (fun cdv A outer s H vs Q E hr h => ?_)
  · obtain ⟨a, ns, rfl, _⟩ := h
    rfl
  · obtain ⟨a, ns, rfl, hS, hl, q⟩ := h
    refine ⟨_, pss_cons (ps_set (i := 1) sc_law.nd rfl (by first | exact Or.inl rfl | exact Or.inr rfl) (pe_call (ok__law_start T) (hr.mono (by decide)) (by rfl) T.c__law_start.g T.c__law_start.F.kp T.c__law_start.b .nil pass0 (pa_cons (pv 0) pa_nil)))
      (pss_ex (fun i => (show PSs _ _ (RS (LB K (exT K) i xa0) W0 (m_law)) from
    (pb_frz 1 (pb_scons (pb_set (i := 2) sc_law.nd rfl (by first | exact Or.inl rfl | exact Or.inr rfl) (pb_call (F := F__law_draw) (ok__law_draw T) (hr.mono (by decide)) (by rfl) T.c__law_draw.g T.c__law_draw.F.kp T.c__law_draw.b (pb_cons (pb_var 1) (pb_cons pb_int pb_nil)) (len_cons (len_cons len_nil))))
    (pb_frz 1 (pb_scons (pb_set (i := 3) sc_law.nd rfl (by first | exact Or.inl rfl | exact Or.inr rfl) (pb_call (F := F__law_shape) (ok__law_shape T) (hr.mono (by decide)) (by rfl) T.c__law_shape.g T.c__law_shape.F.kp T.c__law_shape.b (pb_cons (pb_var 1) (pb_cons pb_int (pb_cons (pb_ix (ir_ix rfl) os_ix (pb_lst (pb_cons pb_int (pb_cons pb_int (pb_cons (pb_op op_pow os_pow pb_int pb_int) pb_nil)))) (pb_call (F := F__law_draw) (ok__law_draw T) (hr.mono (by decide)) (by rfl) T.c__law_draw.g T.c__law_draw.F.kp T.c__law_draw.b (pb_cons (pb_var 1) (pb_cons pb_int pb_nil)) (len_cons (len_cons len_nil))) (fun _ _ => rfl)) pb_nil))) (len_cons (len_cons (len_cons len_nil)))))
    (pb_frz 1 (pb_scons (pb_sif (pb_tcmp (or_eq rfl hr.units) os_eq (pb_call (F := F__law_draw) (ok__law_draw T) (hr.mono (by decide)) (by rfl) T.c__law_draw.g T.c__law_draw.F.kp T.c__law_draw.b (pb_cons (pb_var 1) (pb_cons pb_int pb_nil)) (len_cons (len_cons len_nil))) pb_int (nm_Eq _)) (pb_frz 1 (pb_sone (pb_set (i := 3) sc_law.nd rfl (by first | exact Or.inl rfl | exact Or.inr rfl) (pb_call (F := F__law_ring) (ok__law_ring T) (hr.mono (by decide)) (by rfl) T.c__law_ring.g T.c__law_ring.F.kp T.c__law_ring.b (pb_cons (pb_var 1) pb_nil) (len_cons len_nil))))) pb_snil)
    (pb_scons (pb_set (i := 4) sc_law.nd rfl (by first | exact Or.inl rfl | exact Or.inr rfl) (pb_var 3))
    (pb_scons (pb_sif (pb_tcmp (or_eq rfl hr.units) os_eq (pb_var 2) pb_int (nm_Eq _)) (pb_frz 3 (pb_frz 1 (pb_sone (pb_set (i := 4) sc_law.nd rfl (by first | exact Or.inl rfl | exact Or.inr rfl) (pb_call (F := (F__law_odd 10)) (ok__law_odd T 10) (hr.mono (by decide)) (by rfl) T.c__law_odd.g T.c__law_odd.F.kp T.c__law_odd.b (pb_cons (pb_var 1) (pb_cons (pb_var 3) pb_nil)) (len_cons (len_cons len_nil))))))) (pb_sone (pb_sif (pb_tcmp or_gt os_gt (pb_var 2) pb_int (nm_Gt _)) (pb_frz 2 (pb_frz 3 (pb_frz 1 (pb_sone (pb_set (i := 4) sc_law.nd rfl (by first | exact Or.inl rfl | exact Or.inr rfl) (pb_call (F := F__law_amiss) (ok__law_amiss T) (hr.mono (by decide)) (by rfl) T.c__law_amiss.g T.c__law_amiss.F.kp T.c__law_amiss.b (pb_cons (pb_var 1) (pb_cons (pb_var 3) (pb_cons (pb_var 2) pb_nil))) (len_cons (len_cons (len_cons len_nil))))))))) pb_snil)))
    (pb_frz 4 (pb_scons (pb_set (i := 5) sc_law.nd rfl (by first | exact Or.inl rfl | exact Or.inr rfl) (pb_call (F := F_is_shape) (ok_is_shape T) (hr.mono (by decide)) (by rfl) T.c_is_shape.g T.c_is_shape.F.kp T.c_is_shape.b (pb_cons (pb_var 4) pb_nil) (len_cons len_nil)))
    (pb_frz 4 (pb_scons (pb_sif (PW.pt (pb_or (pb_not (pb_val (pb_isi .bool rfl (by rfl) T.z_isinstance (by rfl) T.z_bool (by decide +kernel) (pb_var 5)))) (pb_or1 (pb_tcmp (or_ne rfl hr.units) os_ne (pb_var 5) (pb_call (F := F__law_is_shape) (ok__law_is_shape T) (hr.mono (by decide)) (by rfl) T.c__law_is_shape.g T.c__law_is_shape.F.kp T.c__law_is_shape.b (pb_cons (pb_var 4) pb_nil) (len_cons len_nil)) (nm_NotEq _))))) (pb_sone (pb_ret pb_bl)) pb_snil)
    (pb_frz 3 (pb_sone (pb_ret (pb_andV (pb_cmp op_isBl os_is2 (pb_call (F := F_is_shape) (ok_is_shape T) (hr.mono (by decide)) (by rfl) T.c_is_shape.g T.c_is_shape.F.kp T.c_is_shape.b (pb_cons (pb_var 3) pb_nil) (len_cons len_nil)) pb_bl (nm_Is _)) (pb_andV (pb_cmp op_isBl os_is2 (pb_call (F := F_is_shape) (ok_is_shape T) (hr.mono (by decide)) (by rfl) T.c_is_shape.g T.c_is_shape.F.kp T.c_is_shape.b (pb_cons (pb_con T.k_WHOLE (by rfl)) pb_nil) (len_cons len_nil)) pb_bl (nm_Is _)) (pb_one (pb_cmp (or_eq rfl hr.units) os_eq (pb_con T.k_WHOLE (by rfl)) (pb_tup (pb_cons (pb_tup (pb_cons pb_int (pb_cons pb_int (pb_cons pb_int pb_nil)))) (pb_cons (pb_tup (pb_cons pb_int (pb_cons pb_int (pb_cons pb_int pb_nil)))) (pb_cons (pb_tup (pb_cons pb_int (pb_cons pb_int (pb_cons pb_int pb_nil)))) pb_nil)))) (nm_Eq _))))))))))))))))))))))), ?_⟩
    refine ⟨_, rfl, a, ns, rfl, hS, hl, fun i ls H' k1 k2 k3 k4 k5 k6 k7 => ⟨i, law_rest k3 (hp ls k1 k2) q⟩⟩
end
def dd__law_start : He.DefD := ⟨("_law_start", none), "_law_start", "_law_start", defArgs s__law_start, defBody s__law_start, defScope s__law_start, [], []⟩
def dd__law_mix : He.DefD := ⟨("_law_mix", none), "_law_mix", "_law_mix", defArgs s__law_mix, defBody s__law_mix, defScope s__law_mix, [], []⟩
def dd__law_draw : He.DefD := ⟨("_law_draw", none), "_law_draw", "_law_draw", defArgs s__law_draw, defBody s__law_draw, defScope s__law_draw, [], []⟩
def dd__law_worth : He.DefD := ⟨("_law_worth", none), "_law_worth", "_law_worth", defArgs s__law_worth, defBody s__law_worth, defScope s__law_worth, [], []⟩
def dd__law_shared : He.DefD := ⟨("_law_shared", none), "_law_shared", "_law_shared", defArgs s__law_shared, defBody s__law_shared, defScope s__law_shared, [], []⟩
def dd__law_lowest : He.DefD := ⟨("_law_lowest", none), "_law_lowest", "_law_lowest", defArgs s__law_lowest, defBody s__law_lowest, defScope s__law_lowest, [], []⟩
def dd__law_cut : He.DefD := ⟨("_law_cut", none), "_law_cut", "_law_cut", defArgs s__law_cut, defBody s__law_cut, defScope s__law_cut, [], []⟩
def dd__law_side : He.DefD := ⟨("_law_side", none), "_law_side", "_law_side", defArgs s__law_side, defBody s__law_side, defScope s__law_side, [], []⟩
def dd__law_shape : He.DefD := ⟨("_law_shape", none), "_law_shape", "_law_shape", defArgs s__law_shape, defBody s__law_shape, defScope s__law_shape, [], []⟩
def dd__law_ring : He.DefD := ⟨("_law_ring", none), "_law_ring", "_law_ring", defArgs s__law_ring, defBody s__law_ring, defScope s__law_ring, [], []⟩
def dd__law_odd : He.DefD := ⟨("_law_odd", none), "_law_odd", "_law_odd", defArgs s__law_odd, defBody s__law_odd, defScope s__law_odd, [], []⟩
def dd__law_number_amiss : He.DefD := ⟨("_law_number_amiss", none), "_law_number_amiss", "_law_number_amiss", defArgs s__law_number_amiss, defBody s__law_number_amiss, defScope s__law_number_amiss, [], []⟩
def dd__law_corner_amiss : He.DefD := ⟨("_law_corner_amiss", none), "_law_corner_amiss", "_law_corner_amiss", defArgs s__law_corner_amiss, defBody s__law_corner_amiss, defScope s__law_corner_amiss, [], []⟩
def dd__law_amiss : He.DefD := ⟨("_law_amiss", none), "_law_amiss", "_law_amiss", defArgs s__law_amiss, defBody s__law_amiss, defScope s__law_amiss, [], []⟩
def dd_is_whole : He.DefD := ⟨("is_whole", none), "is_whole", "is_whole", defArgs s_is_whole, defBody s_is_whole, defScope s_is_whole, [], []⟩
def dd_shared : He.DefD := ⟨("shared", none), "shared", "shared", defArgs s_shared, defBody s_shared, defScope s_shared, [], []⟩
def dd_lowest : He.DefD := ⟨("lowest", none), "lowest", "lowest", defArgs s_lowest, defBody s_lowest, defScope s_lowest, [], []⟩
def dd_is_corner : He.DefD := ⟨("is_corner", none), "is_corner", "is_corner", defArgs s_is_corner, defBody s_is_corner, defScope s_is_corner, [], []⟩
def dd_turn_of : He.DefD := ⟨("turn_of", none), "turn_of", "turn_of", defArgs s_turn_of, defBody s_turn_of, defScope s_turn_of, [], []⟩
def dd_goes_round : He.DefD := ⟨("goes_round", none), "goes_round", "goes_round", defArgs s_goes_round, defBody s_goes_round, defScope s_goes_round, [], []⟩
def dd_is_shape : He.DefD := ⟨("is_shape", none), "is_shape", "is_shape", defArgs s_is_shape, defBody s_is_shape, defScope s_is_shape, [], []⟩
def dd__law_whole : He.DefD := ⟨("_law_whole", none), "_law_whole", "_law_whole", defArgs s__law_whole, defBody s__law_whole, defScope s__law_whole, [], []⟩
def dd__law_is_price : He.DefD := ⟨("_law_is_price", none), "_law_is_price", "_law_is_price", defArgs s__law_is_price, defBody s__law_is_price, defScope s__law_is_price, [], []⟩
def dd__law_turn : He.DefD := ⟨("_law_turn", none), "_law_turn", "_law_turn", defArgs s__law_turn, defBody s__law_turn, defScope s__law_turn, [], []⟩
def dd__law_is_shape : He.DefD := ⟨("_law_is_shape", none), "_law_is_shape", "_law_is_shape", defArgs s__law_is_shape, defBody s__law_is_shape, defScope s__law_is_shape, [], []⟩
def dd_law : He.DefD := ⟨("law", none), "law", "law", defArgs s_law, defBody s_law, defScope s_law, [], []⟩
def hfn : List He.DefD := [dd__law_start, dd__law_mix, dd__law_draw, dd__law_worth, dd__law_shared, dd__law_lowest, dd__law_cut, dd__law_side, dd__law_shape, dd__law_ring, dd__law_odd, dd__law_number_amiss, dd__law_corner_amiss, dd__law_amiss, dd_is_whole, dd_shared, dd_lowest, dd_is_corner, dd_turn_of, dd_goes_round, dd_is_shape, dd__law_whole, dd__law_is_price, dd__law_turn, dd__law_is_shape, dd_law]
def hfa : List He.Fa := [.glo "_law_start", .glo "_law_mix", .glo "_law_draw", .glo "_law_worth", .glo "_law_shared", .glo "_law_lowest", .glo "_law_cut", .glo "_law_side", .glo "_law_shape", .glo "_law_ring", .glo "_law_odd", .glo "_law_number_amiss", .glo "_law_corner_amiss", .glo "_law_amiss", .glo "is_whole", .glo "shared", .glo "lowest", .glo "is_corner", .glo "turn_of", .glo "goes_round", .glo "is_shape", .glo "_law_whole", .glo "_law_is_price", .glo "_law_turn", .glo "_law_is_shape", .glo "law", .free "abs", .free "all", .free "any", .free "bool", .free "int", .free "isinstance", .free "len", .free "list", .free "max", .free "min", .free "range", .free "sum", .free "tuple", .free "zip"]
def hts : List He.Tab := []
def hex (K : Frag) : Bool := (conG K "WHOLE" (.tup [(.tup [(.int 0), (.int 0), (.int 1)]), (.tup [(.int 1), (.int 0), (.int 0)]), (.tup [(.int 0), (.int 1), (.int 0)])]) && true)
abbrev HR : PySem.W.OpenRow := PySem.W.OpenLaw.row PySem.Challenge.rw_pricebend_k41_shapes_looked_at
abbrev hk : PySem.W.Hook := hookY 4 hfa hfn hts hex
def hob (s : PySem.W.SharedT) : He.AlX := obsY 4 hfa hfn hts hex (HandSHeadRun.getT s)
theorem hob_eq (s : PySem.W.SharedT) : hob s = hk.obs s.abs := obsY_eq (HandSHeadRun.getT_eq s)
theorem hrun (w : World) : HandSHeadRun.RunEq HR (PySem.W.view HR.prog [30]) hk hob 2260 ["turn_of", "is_whole", "shared", "lowest", "is_corner", "goes_round", "is_shape", "_law_start", "_law_draw", "_law_mix", "_law_whole", "_law_shared", "_law_lowest", "_law_turn", "_law_worth", "_law_is_price", "_law_is_shape", "_law_cut", "_law_side", "_law_shape", "_law_ring", "_law_number_amiss", "_law_corner_amiss", "_law_odd", "_law_amiss", "WHOLE"] w := by
  intro os
  kernel_rfl
theorem facts {P : Program} {w : World} {K : Frag} {h : Heap} {mg : Str → Option Value} {f : Addr} (X : K.In h) (G : h.Ns mainGlobals mg) (hla : mg ("law" : Str) = some (.ref f)) (c0 : He.SaysX hfa hfn hts [] hex w h K) (hp : ∀ s : LS, s.Ok → s.cnt = 0 → ∃ g', m_law (.un :: .dat (.ref s.a) :: List.replicate 4 .un) s = .ok (.rt (.dat (.bl true))) g') :
    ∃ fd : FuncData, (∀ (s : Shared) (v : Value), BindsTo s fd ⟨[v], []⟩ [("_law_script", v)]) ∧ ∀ base : Heap, K.In base → base.Ns mainGlobals mg → FnOk P w K mg base CX0 14 f fd ["_law_script"] (spLaw K) := by
  have c := c0.t.d
  have m0 := c0.more
  obtain ⟨n0, m1⟩ := He.ba (show (_ && _) = true from m0)
  obtain ⟨d__law_start, D__law_start⟩ := c.def_ 0 (d := dd__law_start) rfl
  obtain ⟨d__law_mix, D__law_mix⟩ := c.def_ 1 (d := dd__law_mix) rfl
  obtain ⟨d__law_draw, D__law_draw⟩ := c.def_ 2 (d := dd__law_draw) rfl
  obtain ⟨d__law_worth, D__law_worth⟩ := c.def_ 3 (d := dd__law_worth) rfl
  obtain ⟨d__law_shared, D__law_shared⟩ := c.def_ 4 (d := dd__law_shared) rfl
  obtain ⟨d__law_lowest, D__law_lowest⟩ := c.def_ 5 (d := dd__law_lowest) rfl
  obtain ⟨d__law_cut, D__law_cut⟩ := c.def_ 6 (d := dd__law_cut) rfl
  obtain ⟨d__law_side, D__law_side⟩ := c.def_ 7 (d := dd__law_side) rfl
  obtain ⟨d__law_shape, D__law_shape⟩ := c.def_ 8 (d := dd__law_shape) rfl
  obtain ⟨d__law_ring, D__law_ring⟩ := c.def_ 9 (d := dd__law_ring) rfl
  obtain ⟨d__law_odd, D__law_odd⟩ := c.def_ 10 (d := dd__law_odd) rfl
  obtain ⟨d__law_number_amiss, D__law_number_amiss⟩ := c.def_ 11 (d := dd__law_number_amiss) rfl
  obtain ⟨d__law_corner_amiss, D__law_corner_amiss⟩ := c.def_ 12 (d := dd__law_corner_amiss) rfl
  obtain ⟨d__law_amiss, D__law_amiss⟩ := c.def_ 13 (d := dd__law_amiss) rfl
  obtain ⟨d_is_whole, D_is_whole⟩ := c.def_ 14 (d := dd_is_whole) rfl
  obtain ⟨d_shared, D_shared⟩ := c.def_ 15 (d := dd_shared) rfl
  obtain ⟨d_lowest, D_lowest⟩ := c.def_ 16 (d := dd_lowest) rfl
  obtain ⟨d_is_corner, D_is_corner⟩ := c.def_ 17 (d := dd_is_corner) rfl
  obtain ⟨d_turn_of, D_turn_of⟩ := c.def_ 18 (d := dd_turn_of) rfl
  obtain ⟨d_goes_round, D_goes_round⟩ := c.def_ 19 (d := dd_goes_round) rfl
  obtain ⟨d_is_shape, D_is_shape⟩ := c.def_ 20 (d := dd_is_shape) rfl
  obtain ⟨d__law_whole, D__law_whole⟩ := c.def_ 21 (d := dd__law_whole) rfl
  obtain ⟨d__law_is_price, D__law_is_price⟩ := c.def_ 22 (d := dd__law_is_price) rfl
  obtain ⟨d__law_turn, D__law_turn⟩ := c.def_ 23 (d := dd__law_turn) rfl
  obtain ⟨d__law_is_shape, D__law_is_shape⟩ := c.def_ 24 (d := dd__law_is_shape) rfl
  obtain ⟨d_law, D_law⟩ := c.def_ 25 (d := dd_law) rfl
  have e := hla.symm.trans (He.glo_ok X G (c.fact 25 (f := .glo "law") rfl))
  cases e
  have T : Txt K mg w := {
    a__law_start := _, d__law_start := d__law_start, c__law_start := ⟨D__law_start, He.glo_ok X G (c.fact 0 (f := .glo "_law_start") rfl), FunD.bindsN D__law_start fun _ _ _ _ _ _ us hl => match us, hl with | [_], _ => rfl⟩,
    a__law_mix := _, d__law_mix := d__law_mix, c__law_mix := ⟨D__law_mix, He.glo_ok X G (c.fact 1 (f := .glo "_law_mix") rfl), FunD.bindsN D__law_mix fun _ _ _ _ _ _ us hl => match us, hl with | [_], _ => rfl⟩,
    a__law_draw := _, d__law_draw := d__law_draw, c__law_draw := ⟨D__law_draw, He.glo_ok X G (c.fact 2 (f := .glo "_law_draw") rfl), FunD.bindsN D__law_draw fun _ _ _ _ _ _ us hl => match us, hl with | [_, _], _ => rfl⟩,
    a__law_worth := _, d__law_worth := d__law_worth, c__law_worth := ⟨D__law_worth, He.glo_ok X G (c.fact 3 (f := .glo "_law_worth") rfl), FunD.bindsN D__law_worth fun _ _ _ _ _ _ us hl => match us, hl with | [_, _], _ => rfl⟩,
    a__law_shared := _, d__law_shared := d__law_shared, c__law_shared := ⟨D__law_shared, He.glo_ok X G (c.fact 4 (f := .glo "_law_shared") rfl), FunD.bindsN D__law_shared fun _ _ _ _ _ _ us hl => match us, hl with | [_, _], _ => rfl⟩,
    a__law_lowest := _, d__law_lowest := d__law_lowest, c__law_lowest := ⟨D__law_lowest, He.glo_ok X G (c.fact 5 (f := .glo "_law_lowest") rfl), FunD.bindsN D__law_lowest fun _ _ _ _ _ _ us hl => match us, hl with | [_], _ => rfl⟩,
    a__law_cut := _, d__law_cut := d__law_cut, c__law_cut := ⟨D__law_cut, He.glo_ok X G (c.fact 6 (f := .glo "_law_cut") rfl), FunD.bindsN D__law_cut fun _ _ _ _ _ _ us hl => match us, hl with | [_, _], _ => rfl⟩,
    a__law_side := _, d__law_side := d__law_side, c__law_side := ⟨D__law_side, He.glo_ok X G (c.fact 7 (f := .glo "_law_side") rfl), FunD.bindsN D__law_side fun _ _ _ _ _ _ us hl => match us, hl with | [_, _], _ => rfl⟩,
    a__law_shape := _, d__law_shape := d__law_shape, c__law_shape := ⟨D__law_shape, He.glo_ok X G (c.fact 8 (f := .glo "_law_shape") rfl), FunD.bindsN D__law_shape fun _ _ _ _ _ _ us hl => match us, hl with | [_, _, _], _ => rfl⟩,
    a__law_ring := _, d__law_ring := d__law_ring, c__law_ring := ⟨D__law_ring, He.glo_ok X G (c.fact 9 (f := .glo "_law_ring") rfl), FunD.bindsN D__law_ring fun _ _ _ _ _ _ us hl => match us, hl with | [_], _ => rfl⟩,
    a__law_odd := _, d__law_odd := d__law_odd, c__law_odd := ⟨D__law_odd, He.glo_ok X G (c.fact 10 (f := .glo "_law_odd") rfl), FunD.bindsN D__law_odd fun _ _ _ _ _ _ us hl => match us, hl with | [_, _], _ => rfl⟩,
    a__law_number_amiss := _, d__law_number_amiss := d__law_number_amiss, c__law_number_amiss := ⟨D__law_number_amiss, He.glo_ok X G (c.fact 11 (f := .glo "_law_number_amiss") rfl), FunD.bindsN D__law_number_amiss fun _ _ _ _ _ _ us hl => match us, hl with | [_, _], _ => rfl⟩,
    a__law_corner_amiss := _, d__law_corner_amiss := d__law_corner_amiss, c__law_corner_amiss := ⟨D__law_corner_amiss, He.glo_ok X G (c.fact 12 (f := .glo "_law_corner_amiss") rfl), FunD.bindsN D__law_corner_amiss fun _ _ _ _ _ _ us hl => match us, hl with | [_, _, _], _ => rfl⟩,
    a__law_amiss := _, d__law_amiss := d__law_amiss, c__law_amiss := ⟨D__law_amiss, He.glo_ok X G (c.fact 13 (f := .glo "_law_amiss") rfl), FunD.bindsN D__law_amiss fun _ _ _ _ _ _ us hl => match us, hl with | [_, _, _], _ => rfl⟩,
    a_is_whole := _, d_is_whole := d_is_whole, c_is_whole := ⟨D_is_whole, He.glo_ok X G (c.fact 14 (f := .glo "is_whole") rfl), FunD.bindsN D_is_whole fun _ _ _ _ _ _ us hl => match us, hl with | [_], _ => rfl⟩,
    a_shared := _, d_shared := d_shared, c_shared := ⟨D_shared, He.glo_ok X G (c.fact 15 (f := .glo "shared") rfl), FunD.bindsN D_shared fun _ _ _ _ _ _ us hl => match us, hl with | [_, _], _ => rfl⟩,
    a_lowest := _, d_lowest := d_lowest, c_lowest := ⟨D_lowest, He.glo_ok X G (c.fact 16 (f := .glo "lowest") rfl), FunD.bindsN D_lowest fun _ _ _ _ _ _ us hl => match us, hl with | [_], _ => rfl⟩,
    a_is_corner := _, d_is_corner := d_is_corner, c_is_corner := ⟨D_is_corner, He.glo_ok X G (c.fact 17 (f := .glo "is_corner") rfl), FunD.bindsN D_is_corner fun _ _ _ _ _ _ us hl => match us, hl with | [_], _ => rfl⟩,
    a_turn_of := _, d_turn_of := d_turn_of, c_turn_of := ⟨D_turn_of, He.glo_ok X G (c.fact 18 (f := .glo "turn_of") rfl), FunD.bindsN D_turn_of fun _ _ _ _ _ _ us hl => match us, hl with | [_, _, _], _ => rfl⟩,
    a_goes_round := _, d_goes_round := d_goes_round, c_goes_round := ⟨D_goes_round, He.glo_ok X G (c.fact 19 (f := .glo "goes_round") rfl), FunD.bindsN D_goes_round fun _ _ _ _ _ _ us hl => match us, hl with | [_], _ => rfl⟩,
    a_is_shape := _, d_is_shape := d_is_shape, c_is_shape := ⟨D_is_shape, He.glo_ok X G (c.fact 20 (f := .glo "is_shape") rfl), FunD.bindsN D_is_shape fun _ _ _ _ _ _ us hl => match us, hl with | [_], _ => rfl⟩,
    a__law_whole := _, d__law_whole := d__law_whole, c__law_whole := ⟨D__law_whole, He.glo_ok X G (c.fact 21 (f := .glo "_law_whole") rfl), FunD.bindsN D__law_whole fun _ _ _ _ _ _ us hl => match us, hl with | [_], _ => rfl⟩,
    a__law_is_price := _, d__law_is_price := d__law_is_price, c__law_is_price := ⟨D__law_is_price, He.glo_ok X G (c.fact 22 (f := .glo "_law_is_price") rfl), FunD.bindsN D__law_is_price fun _ _ _ _ _ _ us hl => match us, hl with | [_], _ => rfl⟩,
    a__law_turn := _, d__law_turn := d__law_turn, c__law_turn := ⟨D__law_turn, He.glo_ok X G (c.fact 23 (f := .glo "_law_turn") rfl), FunD.bindsN D__law_turn fun _ _ _ _ _ _ us hl => match us, hl with | [_, _, _], _ => rfl⟩,
    a__law_is_shape := _, d__law_is_shape := d__law_is_shape, c__law_is_shape := ⟨D__law_is_shape, He.glo_ok X G (c.fact 24 (f := .glo "_law_is_shape") rfl), FunD.bindsN D__law_is_shape fun _ _ _ _ _ _ us hl => match us, hl with | [_], _ => rfl⟩,
    z_abs := He.free_ok X G (c.fact 26 (f := .free "abs") rfl),
    z_all := He.free_ok X G (c.fact 27 (f := .free "all") rfl),
    z_any := He.free_ok X G (c.fact 28 (f := .free "any") rfl),
    z_bool := He.free_ok X G (c.fact 29 (f := .free "bool") rfl),
    z_int := He.free_ok X G (c.fact 30 (f := .free "int") rfl),
    z_isinstance := He.free_ok X G (c.fact 31 (f := .free "isinstance") rfl),
    z_len := He.free_ok X G (c.fact 32 (f := .free "len") rfl),
    z_list := He.free_ok X G (c.fact 33 (f := .free "list") rfl),
    z_max := He.free_ok X G (c.fact 34 (f := .free "max") rfl),
    z_min := He.free_ok X G (c.fact 35 (f := .free "min") rfl),
    z_range := He.free_ok X G (c.fact 36 (f := .free "range") rfl),
    z_sum := He.free_ok X G (c.fact 37 (f := .free "sum") rfl),
    z_tuple := He.free_ok X G (c.fact 38 (f := .free "tuple") rfl),
    z_zip := He.free_ok X G (c.fact 39 (f := .free "zip") rfl),
    k_WHOLE := conG_ok X G (by first | exact .inl trivial | exact .inr rfl) n0 }
  have b := FunD.bindsA (ps := ["_law_script"]) D_law fun _ _ _ _ _ _ us hl => match us, hl with | [_], _ => rfl
  exact ⟨d_law, fun s v => b s [v] rfl, fun base _ _ => ok_law T D_law hp⟩
end G_k41
open PySem PySem.W PySem.Calls PyProof.Rows L2 PB
namespace G_k41
theorem law_holds (hp : ∀ s : LS, s.Ok → s.cnt = 0 → ∃ g', m_law (.un :: .dat (.ref s.a) :: List.replicate 4 .un) s = .ok (.rt (.dat (.bl true))) g') : PySem.Challenge.rw_pricebend_k41_shapes_looked_at.Holds := by
  w_on; o_law
  refine HandSHeadRun.head_any (r := PySem.W.OpenLaw.row PySem.Challenge.rw_pricebend_k41_shapes_looked_at) (q := PySem.W.view (PySem.W.OpenLaw.row PySem.Challenge.rw_pricebend_k41_shapes_looked_at).prog [30]) (H := hk) (ob := hob) (M := 2260) (loose := ["turn_of", "is_whole", "shared", "lowest", "is_corner", "goes_round", "is_shape", "_law_start", "_law_draw", "_law_mix", "_law_whole", "_law_shared", "_law_lowest", "_law_turn", "_law_worth", "_law_is_price", "_law_is_shape", "_law_cut", "_law_side", "_law_shape", "_law_ring", "_law_number_amiss", "_law_corner_amiss", "_law_odd", "_law_amiss", "WHOLE"]) (d := HandSHeadRun.topDef (PySem.W.OpenLaw.row PySem.Challenge.rw_pricebend_k41_shapes_looked_at).prog 30) (kwd := []) hob_eq
    (by kernel_rfl) (fun s => by kernel_rfl) hrun (by kernel_rfl) (by kernel_rfl) (by kernel_rfl) (by rfl) (by first | assumption | decide +kernel) (by decide +kernel) ⟨rfl, rfl, rfl, rfl, rfl, by decide +kernel⟩ ?hw ?hc
  case hw => w_witness2
  case hc =>
    refine L2.walk_ofE (l := PySem.Challenge.rw_pricebend_k41_shapes_looked_at) (n := 63) (k := 14) (x := "_law_script") (CX := L2.CX0) rfl (by decide) (by kernel_rfl) ⟨rfl, by decide, by decide⟩ ?F (fun _ _ _ _ z => z)
    intro w mg fa h Y G hmg0
    obtain ⟨K, KX, c⟩ := Y
    have hmg : mg ("law" : PySem.Str) = some (.ref fa) := by
      have e : (HandSHeadRun.topDef (PySem.W.OpenLaw.row PySem.Challenge.rw_pricebend_k41_shapes_looked_at).prog 30).name = ("law" : PySem.Str) := by kernel_rfl
      rw [← e]
      exact hmg0
    obtain ⟨fd, hb, hF⟩ := facts (P := (PySem.Challenge.rw_pricebend_k41_shapes_looked_at).prog) (w := w) KX G hmg c hp
    exact ⟨K, fd, spLaw K, KX, hb, fun H a ns hl _ hS => ⟨a, ns, rfl, hS, hl, fun _ => rfl⟩, hF⟩
end G_k41
theorem PySem.Challenge.cw_pricebend_k41_shapes_looked_at_holds : PySem.Challenge.rw_pricebend_k41_shapes_looked_at.Holds := by
  exact G_k41.law_holds G_k41.law_pure
