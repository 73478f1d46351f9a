import PyProof.Rows.All
import Wide.All
import OpenK.AllK
import Wide.FinOn
import HandS.ForMost
import HandS.Flow
import HandS.Wide
import HandS.Zip
import HandS.TupAny
import HandS.Deep
import HandS.Style
import HandS.IsInst
import HandS.NoneIn
import HandS.Codes
import HandS.Defaults
import HandS.Head0
import HandS.Head1
import HandS.Head2
import HandS.HeadEnd
import HandS.HeadHook1
import HandS.HeadHook2
import HandS.HeadHook3
import HandS.HeadHook4
import KE.KRevSl
import HandS.ForExc
import HandS.ExcInit
import HandS.HotCalls
import HandS.ExcField
import HandS.CallLocal
import KE.KExcIs
import HandS.ExcIs
import HandS.Dict
import HandS.TupMul
import PyProof.StrOps2
import HandS.TupLe
import KE.DataMinMax
import KE.SortData
import KE.KDictDisplayH
import HandS.Iter
import PyProof.ListStr
import HandS.StrMore
import KE.GoesMore
import PyProof.EnumMake
import HandS.Conv
import HandS.ReCall
import HandS.Strs
import PySem.Challenge.RW_pricebend_k65_how_many
set_option linter.all false
set_option maxRecDepth 100000
namespace PB
/-- data -/
inductive D where
  | non | bl (b : Bool) | int (i : Int) | str (s : List Nat) | tup (ds : List D) | lst (ds : List D) | ref (a : Nat) | dct (t : Bool) (ks vs : List D)
instance : Inhabited D := ⟨.non⟩
structure Xn where
  cls : Nat
  fld : Option D
/-- what a piece of code comes to: a value, an exception, or it is not known -/
inductive Rs (γ α : Type) where
  | ok (a : α) (g : γ) | ex (x : Xn) (g : γ) | no
/-- a name's slot: nothing known; data; a list that this name alone holds; a caught exception; a thing that stands beside -/
inductive Sl where
  | un | dat (d : D) | own (ds : List D) | xc (x : Xn) | gh (k : Nat) | owd (t : Bool) (ks vs : List D)
/-- a value: data that may be kept; a new list; a list that a name holds -/
inductive Rv where
  | dat (d : D) | own (ds : List D) | bor (ds : List D) | odt (t : Bool) (ks vs : List D) | bdt (t : Bool) (ks vs : List D)
abbrev Env := List Sl
inductive Fl where
  | nx (e : Env) | rt (r : Rv) | bk (e : Env) | ct (e : Env)
section
variable {γ α β : Type}
def Rs.bind (m : Rs γ α) (f : α → γ → Rs γ β) : Rs γ β := match m with
  | .ok a g => f a g
  | .ex x g => .ex x g
  | .no => .no
@[simp] theorem Rs.bind_ok (a : α) (g : γ) (f : α → γ → Rs γ β) : (Rs.ok a g).bind f = f a g := rfl
@[simp] theorem Rs.bind_no (f : α → γ → Rs γ β) : (Rs.no : Rs γ α).bind f = .no := rfl
@[simp] theorem Rs.bind_ex (x : Xn) (g : γ) (f : α → γ → Rs γ β) : (Rs.ex x g).bind f = .ex x g := rfl
def ofO (o : Option α) (g : γ) : Rs γ α := match o with
  | some a => .ok a g
  | none => .no
@[simp] theorem ofO_some (a : α) (g : γ) : ofO (some a) g = Rs.ok a g := rfl
@[simp] theorem ofO_none (g : γ) : (ofO none g : Rs γ α) = Rs.no := rfl
end
abbrev ME (γ : Type) := Env → γ → Rs γ Rv
abbrev MT (γ : Type) := Env → γ → Rs γ Bool
abbrev MA (γ : Type) := Env → γ → Rs γ (List Rv)
abbrev MI (γ : Type) := Env → γ → Rs γ (List D)
abbrev MS (γ : Type) := Env → γ → Rs γ Fl
/-- a def: its arguments, what it comes to -/
abbrev MF (γ : Type) := List D → γ → Rs γ Rv
def gt : Env → Nat → Sl
  | [], _ => .un
  | s :: _, 0 => s
  | _ :: r, i + 1 => gt r i
def st : Env → Nat → Sl → Env
  | [], _, _ => []
  | _ :: r, 0, x => x :: r
  | s :: r, i + 1, x => s :: st r i x
@[simp] def Rv.val : Rv → D
  | .dat d => d
  | .own ds => .lst ds
  | .bor ds => .lst ds
  | .odt t ks vs => .dct t ks vs
  | .bdt t ks vs => .dct t ks vs
/-- the value as it may be kept within something -/
@[simp] def Rv.sto : Rv → Option D
  | .dat d => some d
  | .own ds => some (.lst ds)
  | .bor _ => none
  | .odt t ks vs => some (.dct t ks vs)
  | .bdt _ _ _ => none
/-- .. as a slot's -/
@[simp] def Rv.slot : Rv → Option Sl
  | .dat d => some (.dat d)
  | .own ds => some (.own ds)
  | .bor _ => none
  | .odt t ks vs => some (.owd t ks vs)
  | .bdt _ _ _ => none
/-- the items of a list of either kind -/
@[simp] def Rv.items : Rv → Option (List D)
  | .dat (.lst ds) => some ds
  | .own ds => some ds
  | .bor ds => some ds
  | _ => none
def stoL : List Rv → Option (List D)
  | [] => some []
  | r :: rs => match r.sto, stoL rs with
    | some d, some ds => some (d :: ds)
    | _, _ => none
abbrev SZ : Nat := 16777216
def ixN (n : Nat) (i : Int) : Option Nat := if 0 ≤ i then (if i < n then some i.toNat else none) else if -(n : Int) ≤ i then some (i + n).toNat else none
def atI {α : Type} (xs : List α) (i : Int) : Option α := (ixN xs.length i).bind fun j => xs[j]?
mutual
def eqv : D → D → Bool
  | .non, .non => true
  | .bl a, .bl b => a == b
  | .bl a, .int j => (if a then 1 else 0) == j
  | .int i, .bl b => i == (if b then 1 else 0)
  | .int i, .int j => i == j
  | .str x, .str y => x == y
  | .tup xs, .tup ys => eqvL xs ys
  | .lst xs, .lst ys => eqvL xs ys
  | _, _ => false
def eqvL : List D → List D → Bool
  | [], [] => true
  | x :: xs, y :: ys => eqv x y && eqvL xs ys
  | _, _ => false
end
mutual
/-- no references within, not deeper than n -/
def okE : Nat → D → Bool
  | _, .non => true
  | _, .bl _ => true
  | _, .int _ => true
  | _, .str _ => true
  | 0, .tup _ => false
  | 0, .lst _ => false
  | n + 1, .tup ds => okL n ds
  | n + 1, .lst ds => okL n ds
  | _, .ref _ => false
  | _, .dct _ _ _ => false
def okL : Nat → List D → Bool
  | _, [] => true
  | n, d :: ds => okE n d && okL n ds
end
/-- scalars -/
@[simp] def scl : D → Bool
  | .non => true | .bl _ => true | .int _ => true | .str _ => true | _ => false
def eqD (x y : D) : Option Bool := if okE 60 x = true ∧ okE 60 y = true then some (eqv x y) else none
abbrev Op1 := Rv → Option Rv
abbrev Op2 := Rv → Rv → Option Rv
def MulOk (i j : Int) : Prop := i.natAbs.log2 + j.natAbs.log2 < 1000000
instance (i j : Int) : Decidable (MulOk i j) := inferInstanceAs (Decidable (_ < _))
def DivOk (j : Int) : Prop := 0 < j ∧ j.natAbs.log2 < 9000
instance (j : Int) : Decidable (DivOk j) := inferInstanceAs (Decidable (_ ∧ _))
def PowOk (i j : Int) : Prop := 0 ≤ j ∧ j ≤ 1000000 ∧ i.natAbs < 2 ^ 64
instance (i j : Int) : Decidable (PowOk i j) := inferInstanceAs (Decidable (_ ∧ _))
def RngOk (n : Int) : Prop := n.natAbs.log2 < 62
instance (n : Int) : Decidable (RngOk n) := inferInstanceAs (Decidable (_ < _))
/-- a + b -/
def oAdd : Op2
  | .dat (.int i), .dat (.int j) => some (.dat (.int (i + j)))
  | .dat (.str s), .dat (.str t) => if s.length + t.length ≤ SZ then some (.dat (.str (s ++ t))) else none
  | .dat (.tup s), .dat (.tup t) => if s.length + t.length ≤ SZ then some (.dat (.tup (s ++ t))) else none
  | x, y => match x.items, y.items with
    | some s, some t => if s.length + t.length ≤ SZ then some (.own (s ++ t)) else none
    | _, _ => none
def oSub : Op2
  | .dat (.int i), .dat (.int j) => some (.dat (.int (i - j)))
  | _, _ => none
def oMul : Op2
  | .dat (.int i), .dat (.int j) => if MulOk i j then some (.dat (.int (i * j))) else none
  | _, _ => none
/-- a list, so many times -/
def oRep : Op2
  | .own ds, .dat (.int k) => if ds.length * k.toNat ≤ SZ ∧ RngOk k then some (.own (List.replicate k.toNat ds).flatten) else none
  | _, _ => none
def oDiv : Op2
  | .dat (.int i), .dat (.int j) => if DivOk j then some (.dat (.int (i / j))) else none
  | _, _ => none
def oMod : Op2
  | .dat (.int i), .dat (.int j) => if 0 < j then some (.dat (.int (i % j))) else none
  | _, _ => none
def oPow : Op2
  | .dat (.int i), .dat (.int j) => if PowOk i j then some (.dat (.int (i ^ j.toNat))) else none
  | _, _ => none
def oNeg : Op1
  | .dat (.int i) => some (.dat (.int (-i)))
  | _ => none
def dB (b : Bool) : Rv := .dat (.bl b)
def oEq : Op2 := fun x y => (eqD x.val y.val).map dB
def oNe : Op2 := fun x y => (eqD x.val y.val).map fun b => dB (!b)
def oLt : Op2
  | .dat (.int i), .dat (.int j) => some (dB (decide (i < j)))
  | _, _ => none
def oLe : Op2
  | .dat (.int i), .dat (.int j) => some (dB (decide (i ≤ j)))
  | _, _ => none
def oGt : Op2
  | .dat (.int i), .dat (.int j) => some (dB (decide (j < i)))
  | _, _ => none
def oGe : Op2
  | .dat (.int i), .dat (.int j) => some (dB (decide (j ≤ i)))
  | _, _ => none
@[simp] def isNon : D → Bool
  | .non => true
  | _ => false
def oIsN : Op1
  | .dat (.ref _) => none
  | .odt _ _ _ => none
  | .bdt _ _ _ => none
  | x => some (dB (isNon x.val))
/-- a[i] -/
def oIx : Op2
  | .dat (.tup ds), .dat (.int i) => (atI ds i).map .dat
  | .dat (.str s), .dat (.int i) => (atI s i).map fun c => .dat (.str [c])
  | x, .dat (.int i) => match x.items with
    | some ds => (atI ds i).map .dat
    | none => none
  | _, _ => none
abbrev OpN := List Rv → Option Rv
def oLen : OpN
  | [.dat (.str s)] => some (.dat (.int s.length))
  | [.dat (.tup ds)] => some (.dat (.int ds.length))
  | [x] => x.items.map fun ds => .dat (.int ds.length)
  | _ => none
def oAbs : OpN
  | [.dat (.int i)] => some (.dat (.int (if i < 0 then -i else i)))
  | _ => none
def oMax2 : OpN
  | [.dat (.int i), .dat (.int j)] => some (.dat (.int (if j > i then j else i)))
  | _ => none
def oMin2 : OpN
  | [.dat (.int i), .dat (.int j)] => some (.dat (.int (if j < i then j else i)))
  | _ => none
/-- a list of dInts -/
def dInts : List D → Option (List Int)
  | [] => some []
  | .int i :: ds => (dInts ds).map (i :: ·)
  | _ :: _ => none
def dBls : List D → Option (List Bool)
  | [] => some []
  | .bl b :: ds => (dBls ds).map (b :: ·)
  | _ :: _ => none
def dStrs : List D → Option (List (List Nat))
  | [] => some []
  | .str b :: ds => (dStrs ds).map (b :: ·)
  | _ :: _ => none
def oSum : OpN
  | [x] => match x.items with
    | some ds => (dInts ds).map fun ns => .dat (.int ns.sum)
    | none => none
  | _ => none
def lmin : Int → List Int → Int
  | m, [] => m
  | m, x :: xs => lmin (if x < m then x else m) xs
def oAll : OpN
  | [x] => match x.items with
    | some ds => (dBls ds).map fun bs => dB (bs.all id)
    | none => none
  | _ => none
/-- tuple(x) -/
def oTuple : OpN
  | [.dat (.tup ds)] => some (.dat (.tup ds))
  | [x] => x.items.map fun ds => .dat (.tup ds)
  | _ => none
/-- int(x) of an int, a bool -/
def oInt : OpN
  | [.dat (.int i)] => some (.dat (.int i))
  | [.dat (.bl b)] => some (.dat (.int (if b then 1 else 0)))
  | _ => none
/-- isinstance(x, T), T a built-in class -/
inductive Ty where
  | int | bool | str | tuple | list
@[simp] def isTy : Ty → D → Bool
  | .int, .int _ => true
  | .int, .bl _ => true
  | .bool, .bl _ => true
  | .str, .str _ => true
  | .tuple, .tup _ => true
  | .list, .lst _ => true
  | _, _ => false
def oIs (T : Ty) : Op1
  | .dat (.ref _) => none
  | .dat (.dct _ _ _) => none
  | .odt _ _ _ => none
  | .bdt _ _ _ => none
  | x => some (dB (isTy T x.val))
def joinL (sep : List Nat) : List (List Nat) → List Nat
  | [] => []
  | [x] => x
  | x :: y :: r => x ++ sep ++ joinL sep (y :: r)
/-- sep.join(xs) -/
def oJoin (sep : List Nat) (x : Rv) : Option Rv := match x.items with
  | some ds => match dStrs ds with
    | some ss => if (ss.map List.length).sum + sep.length * ss.length ≤ SZ then some (.dat (.str (joinL sep ss))) else none
    | none => none
  | none => none
/-- the truth of a value -/
def oTru : Rv → Option Bool
  | .dat .non => some false
  | .dat (.bl b) => some b
  | .dat (.int i) => some (i != 0)
  | .dat (.str s) => some (!s.isEmpty)
  | .dat (.tup s) => some (!s.isEmpty)
  | .dat (.ref _) => none
  | x => x.items.map fun ds => !ds.isEmpty
section
variable {γ : Type}
def mVar (i : Nat) : ME γ := fun e g => match gt e i with
  | .dat d => .ok (.dat d) g
  | .own ds => .ok (.bor ds) g
  | .owd t ks vs => .ok (.bdt t ks vs) g
  | _ => .no
def mC (d : D) : ME γ := fun _ g => .ok (.dat d) g
def mOp1 (f : Op1) (a : ME γ) : ME γ := fun e g => (a e g).bind fun x g1 => ofO (f x) g1
def mOp2 (f : Op2) (a b : ME γ) : ME γ := fun e g => (a e g).bind fun x g1 => (b e g1).bind fun y g2 => ofO (f x y) g2
def mNil : MA γ := fun _ g => .ok [] g
def mCons (a : ME γ) (r : MA γ) : MA γ := fun e g => (a e g).bind fun x g1 => (r e g1).bind fun xs g2 => .ok (x :: xs) g2
def mOpN (f : OpN) (a : MA γ) : ME γ := fun e g => (a e g).bind fun xs g1 => ofO (f xs) g1
def mTup (a : MA γ) : ME γ := fun e g => (a e g).bind fun xs g1 => match stoL xs with
  | some ds => if ds.length ≤ SZ then .ok (.dat (.tup ds)) g1 else .no
  | none => .no
def mLst (a : MA γ) : ME γ := fun e g => (a e g).bind fun xs g1 => match stoL xs with
  | some ds => if ds.length ≤ SZ then .ok (.own ds) g1 else .no
  | none => .no
def mIf (t : MT γ) (a b : ME γ) : ME γ := fun e g => (t e g).bind fun c g1 => match c with
  | true => a e g1
  | false => b e g1
/-- and, or, not of truths, as values -/
def mAndV (a b : ME γ) : ME γ := fun e g => (a e g).bind fun x g1 => match x with
  | .dat (.bl true) => b e g1
  | .dat (.bl false) => .ok (dB false) g1
  | _ => .no
def mOrV (a b : ME γ) : ME γ := fun e g => (a e g).bind fun x g1 => match x with
  | .dat (.bl true) => .ok (dB true) g1
  | .dat (.bl false) => b e g1
  | _ => .no
def mNotV (a : ME γ) : ME γ := fun e g => (a e g).bind fun x g1 => match x with
  | .dat (.bl c) => .ok (dB (!c)) g1
  | _ => .no
/-- tests -/
def mTest (a : ME γ) : MT γ := fun e g => (a e g).bind fun x g1 => match x with
  | .dat (.bl c) => .ok c g1
  | _ => .no
def mTru (a : ME γ) : MT γ := fun e g => (a e g).bind fun x g1 => ofO (oTru x) g1
def mAnd (a b : MT γ) : MT γ := fun e g => (a e g).bind fun c g1 => match c with
  | true => b e g1
  | false => .ok false g1
def mOr (a b : MT γ) : MT γ := fun e g => (a e g).bind fun c g1 => match c with
  | true => .ok true g1
  | false => b e g1
def mNot (a : MT γ) : MT γ := fun e g => (a e g).bind fun c g1 => .ok (!c) g1
/-- the call of a def that no exception leaves: no list that a name holds is handed in -/
def okO {α : Type} (r : Rs γ α) : Rs γ α := match r with
  | .ok a g => .ok a g
  | _ => .no
def mCall (F : MF γ) (a : MA γ) : ME γ := fun e g => (a e g).bind fun xs g1 => match stoL xs with
  | some ds => okO (F ds g1)
  | none => .no
/-- a text's method, of one argument, of none -/
def mS1 (f : List Nat → Rv → Option Rv) (a b : ME γ) : ME γ := fun e g => (a e g).bind fun x g1 => match x with
  | .dat (.str s) => (b e g1).bind fun y g2 => ofO (f s y) g2
  | _ => .no
def seqOf : Rv → Option (List D)
  | .dat (.tup ds) => some ds
  | .dat (.lst ds) => some ds
  | .own ds => some ds
  | _ => none
def mItems (a : ME γ) : MI γ := fun e g => (a e g).bind fun x g1 => ofO (seqOf x) g1
def rng (i : Int) : Nat → List D
  | 0 => []
  | n + 1 => .int i :: rng (i + 1) n
def mRange1 (a : ME γ) : MI γ := fun e g => (a e g).bind fun x g1 => match x with
  | .dat (.int n) => if RngOk n then .ok (rng 0 n.toNat) g1 else .no
  | _ => .no
def zipD : List D → List D → List D
  | x :: xs, y :: ys => .tup [x, y] :: zipD xs ys
  | _, _ => []
/-- zip of two lists, of two tuples -/
def zip2 : Rv → Rv → Option (List D)
  | .dat (.tup xs), .dat (.tup ys) => some (zipD xs ys)
  | .dat (.lst xs), .dat (.lst ys) => some (zipD xs ys)
  | .dat (.lst xs), .own ys => some (zipD xs ys)
  | .own xs, .dat (.lst ys) => some (zipD xs ys)
  | .own xs, .own ys => some (zipD xs ys)
  | _, _ => none
def mZip2 (a b : ME γ) : MI γ := fun e g => (a e g).bind fun x g1 => (b e g1).bind fun y g2 => ofO (zip2 x y) g2
abbrev MG := D → Env → Option Env
def tgN (i : Nat) : MG := fun d e => some (st e i (.dat d))
def tgL : List Nat → List D → Env → Option Env
  | [], [], e => some e
  | i :: is, d :: ds, e => tgL is ds (st e i (.dat d))
  | _, _, _ => none
def tgT (is : List Nat) : MG := fun d e => match d with
  | .tup ds => tgL is ds e
  | _ => none
def wp : Env → List Nat → Env
  | e, [] => e
  | e, i :: is => wp (st e i .un) is
def lcL (tg : MG) (c : MT γ) (a : ME γ) (e : Env) : List D → List D → γ → Rs γ Rv
  | [], acc, g => .ok (.own acc) g
  | d :: ds, acc, g => match tg d e with
    | none => .no
    | some e1 => match c e1 g with
      | .ok true g1 => match a e1 g1 with
        | .ok r g2 => match r.sto with
          | some y => if acc.length < SZ then lcL tg c a e ds (acc ++ [y]) g2 else .no
          | none => .no
        | _ => .no
      | .ok false g1 => lcL tg c a e ds acc g1
      | _ => .no
def mLc (src : MI γ) (tg : MG) (c : MT γ) (a : ME γ) (own : List Nat) : ME γ := fun e g => (src e g).bind fun ds g1 => lcL tg c a (wp e own) ds [] g1
def mYes : MT γ := fun _ g => .ok true g
def mSeq (a b : MS γ) : MS γ := fun e g => (a e g).bind fun f g1 => match f with
  | .nx e1 => b e1 g1
  | .rt r => .ok (.rt r) g1
  | .bk e1 => .ok (.bk e1) g1
  | .ct e1 => .ok (.ct e1) g1
def mPass : MS γ := fun e g => .ok (.nx e) g
def mSet (i : Nat) (a : ME γ) : MS γ := fun e g => (a e g).bind fun x g1 => match x.slot with
  | some s => .ok (.nx (st e i s)) g1
  | none => .no
def mTgt (tg : MG) (a : ME γ) : MS γ := fun e g => (a e g).bind fun x g1 => match x with
  | .dat d => match tg d e with
    | some e1 => .ok (.nx e1) g1
    | none => .no
  | _ => .no
/-- a, b = x, y -/
def mPar (i j : Nat) (a b : ME γ) : MS γ := fun e g => (a e g).bind fun x g1 => (b e g1).bind fun y g2 => match x, y with
  | .dat x, .dat y => .ok (.nx (st (st e i (.dat x)) j (.dat y))) g2
  | _, _ => .no
def mDrop (a : ME γ) : MS γ := fun e g => (a e g).bind fun _ g1 => .ok (.nx e) g1
def mRet (a : ME γ) : MS γ := fun e g => (a e g).bind fun x g1 => .ok (.rt x) g1
def mRetN : MS γ := fun _ g => .ok (.rt (.dat .non)) g
def mIfS (t : MT γ) (a b : MS γ) : MS γ := fun e g => (t e g).bind fun c g1 => match c with
  | true => a e g1
  | false => b e g1
def mBreak : MS γ := fun e g => .ok (.bk e) g
def mCont : MS γ := fun e g => .ok (.ct e) g
/-- a name's own list is from now on data -/
def mFrz (i : Nat) : MS γ := fun e g => match gt e i with
  | .own ds => .ok (.nx (st e i (.dat (.lst ds)))) g
  | .owd t ks vs => .ok (.nx (st e i (.dat (.dct t ks vs)))) g
  | _ => .ok (.nx e) g
/-- x.append(e) -/
def mApp (i : Nat) (a : ME γ) : MS γ := fun e g => match gt e i with
  | .own ds => (a e g).bind fun y g1 => match y.sto with
    | some d => if ds.length < SZ then .ok (.nx (st e i (.own (ds ++ [d])))) g1 else .no
    | none => .no
  | _ => .no
/-- x[k] = e -/
def mPut (i : Nat) (k a : ME γ) : MS γ := fun e g => (a e g).bind fun y g1 => match gt e i with
  | .own ds => (k e g1).bind fun z g2 => match y.sto, z with
    | some d, .dat (.int n) => match ixN ds.length n with
      | some j => .ok (.nx (st e i (.own (ds.set j d)))) g2
      | none => .no
    | _, _ => .no
  | _ => .no
def forL (tg : MG) (b : MS γ) : List D → MS γ
  | [], e, g => .ok (.nx e) g
  | d :: ds, e, g => match tg d e with
    | none => .no
    | some e1 => match b e1 g with
      | .ok (.nx e2) g2 => forL tg b ds e2 g2
      | .ok (.ct e2) g2 => forL tg b ds e2 g2
      | .ok (.bk e2) g2 => .ok (.nx e2) g2
      | .ok (.rt r) g2 => .ok (.rt r) g2
      | .ex x g2 => .ex x g2
      | .no => .no
def mFor (src : MI γ) (tg : MG) (b : MS γ) : MS γ := fun e g => (src e g).bind fun ds g1 => forL tg b ds e g1
def mWhile (c : MT γ) (b : MS γ) : Nat → MS γ
  | 0, _, _ => .no
  | n + 1, e, g => match c e g with
    | .ok true g1 => match b e g1 with
      | .ok (.nx e2) g2 => mWhile c b n e2 g2
      | .ok (.ct e2) g2 => mWhile c b n e2 g2
      | .ok (.bk e2) g2 => .ok (.nx e2) g2
      | .ok (.rt r) g2 => .ok (.rt r) g2
      | .ex x g2 => .ex x g2
      | .no => .no
    | .ok false g1 => .ok (.nx e) g1
    | .ex x g1 => .ex x g1
    | .no => .no
/-- what is handed back: a list that a name of the def held is new for the caller -/
@[simp] def Rv.ret : Rv → Rv
  | .bor ds => .own ds
  | .bdt t ks vs => .odt t ks vs
  | r => r
/-- a def: its slots' number, its body -/
def mDef (n : Nat) (k : Nat) (b : MS γ) : MF γ := fun ds g => if ds.length = k then (match b (ds.map Sl.dat ++ List.replicate (n - k) .un) g with
  | .ok (.nx _) g1 => .ok (.dat .non) g1
  | .ok (.rt r) g1 => .ok r.ret g1
  | .ok (.bk _) _ => .no
  | .ok (.ct _) _ => .no
  | .ex x g1 => .ex x g1
  | .no => .no) else .no
end
/-- x += e of a name: numbers, texts -/
def oIAdd : Op2 := fun x y => match x, y with
  | .dat (.int _), .dat (.int _) => oAdd x y
  | .dat (.str _), .dat (.str _) => oAdd x y
  | _, _ => none
/-- is of truths -/
def oIs2 : Op2
  | .dat (.bl a), .dat (.bl b) => some (dB (decide (a = b)))
  | _, _ => none
def oIsNot2 : Op2
  | .dat (.bl a), .dat (.bl b) => some (dB (!decide (a = b)))
  | _, _ => none
/-- t[k], t a table of texts -/
def mTab {γ : Type} (tab : List (List Nat × D)) (k : ME γ) : ME γ := fun e g => (k e g).bind fun y g1 => match y with
  | .dat (.str s) => ofO ((tab.find? (fun q => q.1 == s)).map fun q => .dat q.2) g1
  | _ => .no
/-- a.f(b), a a list, what is told a number -/
def mLm {γ : Type} (f : List D → D → Option Int) (a b : ME γ) : ME γ := fun e g => (a e g).bind fun x g1 => match x.items with
  | some l => (b e g1).bind fun y g2 => ofO ((f l y.val).map fun n => .dat (.int n)) g2
  | none => .no
/-- x[::-1] -/
def oRev : Op1
  | .dat (.tup ds) => some (.dat (.tup ds.reverse))
  | .dat (.str s) => some (.dat (.str s.reverse))
  | x => x.items.map fun ds => .own ds.reverse
/-- a, b, .. = a list -/
def mTgtL {γ : Type} (is : List Nat) (a : ME γ) : MS γ := fun e g => (a e g).bind fun x g1 => match x.items with
  | some ds => match tgL is ds e with
    | some e1 => .ok (.nx e1) g1
    | none => .no
  | none => .no
/-- .. the last arguments by their defaults -/
def mCallD {γ : Type} (F : MF γ) (a : MA γ) (es : List D) : ME γ := fun e g => (a e g).bind fun xs g1 => match stoL xs with
  | some ds => okO (F (ds ++ es) g1)
  | none => .no
/-- what is known of a slot behind a try -/
def noX : Sl → Sl
  | .xc _ => .un
  | s => s
@[simp] theorem noX_un : noX .un = .un := rfl
@[simp] theorem noX_dat (d : D) : noX (.dat d) = .dat d := rfl
@[simp] theorem noX_own (d : List D) : noX (.own d) = .own d := rfl
@[simp] theorem noX_gh (k : Nat) : noX (.gh k) = .gh k := rfl
end PB
set_option linter.all false
namespace PB
structure LS where
  a : Nat
  gr : List Int
  told : Int
  cs : List Int
  cnt : Nat
/-- the slot i holds the state -/
def isSt (e : Env) (i : Nat) (s : LS) : Bool := match gt e i with
  | .dat (.ref a) => a == s.a
  | _ => false
def mTold (i : Nat) : ME LS := fun e s => if isSt e i s = true then .ok (.dat (.int s.told)) s else .no
def mCnt (i : Nat) : ME LS := fun e s => if isSt e i s = true then .ok (.dat (.int s.cnt)) s else .no
def mHasG (i : Nat) : MT LS := fun e s => if isSt e i s = true then .ok (!s.gr.isEmpty) s else .no
def mHasC (i : Nat) : MT LS := fun e s => if isSt e i s = true then .ok (!s.cs.isEmpty) s else .no
def mLenC (i : Nat) : ME LS := fun e s => if isSt e i s = true then .ok (.dat (.int s.cs.length)) s else .no
def mAtC (i : Nat) (k : ME LS) : ME LS := fun e s => if isSt e i s = true then (k e s).bind fun x s1 => match x with
  | .dat (.int n) => if isSt e i s1 = true then ofO ((atI s1.cs n).map fun v => .dat (.int v)) s1 else .no
  | _ => .no else .no
def mSetTold (i : Nat) (a : ME LS) : MS LS := fun e s => (a e s).bind fun x s1 => match x with
  | .dat (.int n) => if isSt e i s1 = true then .ok (.nx e) { s1 with told := n } else .no
  | _ => .no
def mPopG (i : Nat) : MS LS := fun e s => if isSt e i s = true then (match s.gr with
  | x :: r => .ok (.nx e) { s with gr := r, told := x }
  | [] => .no) else .no
def mIncC (i : Nat) : MS LS := fun e s => if isSt e i s = true then .ok (.nx e) { s with cnt := s.cnt + 1 } else .no
def LS.Ok (s : LS) : Prop := 0 ≤ s.told ∧ (∀ x ∈ s.gr, 0 < x) ∧ (∀ x ∈ s.cs, 0 ≤ x ∧ x < 2147483629)
end PB
set_option Elab.async false
set_option linter.all false
namespace PB
def oMin3 : OpN
  | [.dat (.int a), .dat (.int b), .dat (.int c)] => some (.dat (.int (lmin a [b, c])))
  | _ => none
/-- x.insert(k, e) -/
def mIns {γ : Type} (i : Nat) (r : MA γ) : MS γ := fun e g => match gt e i with
  | .own ds => (r e g).bind fun ys g1 => match ys with
    | [.dat (.int k), y] => match y.sto with
      | some d => if ds.length < SZ ∧ 0 ≤ k ∧ k ≤ 16777216 then .ok (.nx (st e i (.own (ds.take k.toNat ++ [d] ++ ds.drop k.toNat)))) g1 else .no
      | none => .no
    | _ => .no
  | _ => .no
/-- x.pop(k), a place that there is -/
def mPopAt {γ : Type} (i : Nat) (r : MA γ) : MS γ := fun e g => match gt e i with
  | .own ds => (r e g).bind fun ys g1 => match ys with
    | [.dat (.int k)] => if 0 ≤ k ∧ k < ds.length ∧ k ≤ 16777216 then .ok (.nx (st e i (.own (ds.eraseIdx k.toNat)))) g1 else .no
    | _ => .no
  | _ => .no
def atomB : D → Bool
  | .int _ => true
  | .str _ => true
  | _ => false
/-- a key: a tuple of numbers (true), a number or a text (false) -/
def intB : D → Bool
  | .int _ => true
  | _ => false
def keyB : Bool → D → Bool
  | true, .tup ds => ds.all intB
  | false, d => atomB d
  | _, _ => false
def dGet : List D → List D → D → Option D
  | k :: ks, v :: vs, x => if eqv k x = true then some v else dGet ks vs x
  | _, _, _ => none
def dRep : List D → List D → D → D → List D
  | k :: ks, v :: vs, x, y => (if eqv k x = true then y else v) :: dRep ks vs x y
  | _, _, _, _ => []
def dPut (ks vs : List D) (x y : D) : List D × List D := if (ks.any fun k => eqv k x) = true then (ks, dRep ks vs x y) else (ks ++ [x], vs ++ [y])
def dctOf : Sl → Option (Bool × List D × List D)
  | .owd t ks vs => some (t, ks, vs)
  | .dat (.dct t ks vs) => some (t, ks, vs)
  | _ => none
section
variable {γ : Type}
def onK (t : Bool) (y : Rv) (f : D → Option D) : Option Rv := match y with
  | .dat d => if keyB t d = true then (f d).map .dat else none
  | _ => none
/-- of a dict at the slot i: f of its keys, its values, of a key -/
def mDOp (f : List D → List D → D → Option D) (i : Nat) (k : ME γ) : ME γ := fun e g => match dctOf (gt e i) with
  | some (t, ks, vs) => (k e g).bind fun y g1 => ofO (onK t y (f ks vs)) g1
  | none => .no
/-- x[k]; k in x; k not in x; x.get(k) -/
def mDGet (i : Nat) (k : ME γ) : ME γ := mDOp dGet i k
/-- x[k] = a -/
def mDPut (i : Nat) (k a : ME γ) : MS γ := fun e g => (a e g).bind fun y g1 => match gt e i with
  | .owd t ks vs => (k e g1).bind fun z g2 => match y.sto, z with
    | some v, .dat x => if keyB t x = true ∧ ks.length < SZ then .ok (.nx (st e i (.owd t (dPut ks vs x v).1 (dPut ks vs x v).2))) g2 else .no
    | _, _ => .no
  | _ => .no
/-- x = {} -/
def mDNew (t : Bool) (i : Nat) : MS γ := fun e g => .ok (.nx (st e i (.owd t [] []))) g
end
def rngD (i : Int) : Nat → List D
  | 0 => []
  | n + 1 => .int i :: rngD (i - 1) n
/-- range(i, j), range(i, j, -1) -/
def rngA : List Rv → Option (List D)
  | [.dat (.int i), .dat (.int j)] => if RngOk i ∧ RngOk j then some (rng i (j - i).toNat) else none
  | [.dat (.int i), .dat (.int j), .dat (.int c)] => if RngOk i ∧ RngOk j ∧ c = -1 then some (rngD i (i - j).toNat) else none
  | _ => none
section
variable {γ : Type}
def mRangeA (r : MA γ) : MI γ := fun e g => (r e g).bind fun xs g1 => ofO (rngA xs) g1
end
abbrev NL := List (List D)
/-- a scalar, a tuple of such -/
def flat : D → Bool
  | .tup ds => ds.all scl
  | d => scl d
section
variable {γ : Type}
/-- [row for .. in ..]: each row new, of flat things -/
def nlL (tg : MG) (a : ME γ) (e : Env) : List D → NL → γ → Rs γ NL
  | [], acc, g => .ok acc g
  | d :: ds, acc, g => match tg d e with
    | none => .no
    | some e1 => match a e1 g with
      | .ok (.own r) g2 => if r.all flat = true ∧ acc.length < SZ then nlL tg a e ds (acc ++ [r]) g2 else .no
      | _ => .no
def mNew (src : MI γ) (tg : MG) (a : ME γ) (own : List Nat) (e : Env) (g : γ) : Rs γ NL := (src e g).bind fun ds g1 => nlL tg a (wp e own) ds [] g1
def noGh : Env → Bool
  | [] => true
  | .gh _ :: _ => false
  | _ :: e => noGh e
/-- x = [row for ..]; what changes it; return x -/
def mNestK (i : Nat) (r : Rs (γ × NL) Fl) : Rs γ Fl := match r with
  | .ok (.nx e') g2 => match gt e' i with
    | .gh _ => .ok (.rt (.own (g2.2.map .lst))) g2.1
    | _ => .no
  | _ => .no
def mNest (i : Nat) (src : MI γ) (tg : MG) (a : ME γ) (own : List Nat) (b : MS (γ × NL)) : MS γ := fun e g => if noGh e = true then (okO (mNew src tg a own e g)).bind fun n g1 => mNestK i (b (st e i (.gh 0)) (g1, n)) else .no
/-- x[a][b] -/
def mNlGet (i : Nat) (a b : ME (γ × NL)) : ME (γ × NL) := fun e g => match gt e i with
  | .gh _ => (a e g).bind fun x g1 => match x with
    | .dat (.int m) => match atI g1.2 m with
      | some _ => (b e g1).bind fun y g2 => match y with
        | .dat (.int k) => ofO (((atI g2.2 m).bind fun r => atI r k).map .dat) g2
        | _ => .no
      | none => .no
    | _ => .no
  | _ => .no
/-- x[a][b] = v -/
def mNlPut (i : Nat) (a b v : ME (γ × NL)) : MS (γ × NL) := fun e g => (v e g).bind fun z g0 => match gt e i with
  | .gh _ => (a e g0).bind fun x g1 => match x with
    | .dat (.int m) => match ixN g1.2.length m with
      | some j => (b e g1).bind fun y g2 => match z, y with
        | .dat d, .dat (.int k) => match g2.2[j]? with
          | some r => match ixN r.length k with
            | some c => if flat d = true then .ok (.nx e) (g2.1, g2.2.set j (r.set c d)) else .no
            | none => .no
          | none => .no
        | _, _ => .no
      | none => .no
    | _ => .no
  | _ => .no
/-- a def that doesn't see the rows -/
def liftF (F : MF γ) : MF (γ × NL) := fun ds g => match F ds g.1 with
  | .ok r g' => .ok r (g', g.2)
  | .ex x g' => .ex x (g', g.2)
  | .no => .no
end
/-- list(x), x a text -/
def oListS : OpN
  | [.dat (.str s)] => some (.own (s.map fun c => .str [c]))
  | _ => none
/-- a sign, so many times -/
def oRepC : Op2
  | .dat (.str [c]), .dat (.int n) => if 0 ≤ n ∧ n ≤ 1000 then some (.dat (.str (List.replicate n.toNat c))) else none
  | _, _ => none
end PB
set_option Elab.async false
set_option linter.all false
namespace PB
end PB
set_option Elab.async false
set_option linter.all false
namespace PB
end PB
set_option Elab.async false
set_option linter.all false
namespace PB
mutual
/-- no lists and no dicts within -/
def noLD : D → Bool
  | .tup ds => noLDL ds
  | .lst _ => false
  | .dct _ _ _ => false
  | _ => true
def noLDL : List D → Bool
  | [] => true
  | d :: ds => noLD d && noLDL ds
end
/-- f(..), some of the arguments lent: what comes back holds none of them -/
def lentL : List Rv → List D := List.map Rv.val
/-- a, b, c = x, y, z, of plain local names -/
def mPar3 {γ : Type} (i j k : Nat) (a b c : ME γ) : MS γ := fun e g => (a e g).bind fun x g1 => (b e g1).bind fun y g2 => (c e g2).bind fun z g3 => match x, y, z with
  | .dat x, .dat y, .dat z => .ok (.nx (st (st (st e i (.dat x)) j (.dat y)) k (.dat z))) g3
  | _, _, _ => .no
end PB
set_option Elab.async false
set_option linter.all false
namespace PB
end PB
set_option Elab.async false
set_option linter.all false
namespace PB
abbrev N3 := List NL
section
variable {γ : Type}
def c3At (n : N3) (a b c : Int) : Option D := (atI n a).bind fun r => (atI r b).bind fun q => atI q c
def c3Set (n : N3) (a b c : Int) (d : D) : Option N3 := match ixN n.length a with
  | some j => match n[j]? with
    | some r => match ixN r.length b with
      | some k => match r[k]? with
        | some q => match ixN q.length c with
          | some l => some (n.set j (r.set k (q.set l d)))
          | none => none
        | none => none
      | none => none
    | none => none
  | none => none
end
end PB
set_option Elab.async false
set_option linter.all false
namespace PB
end PB
set_option Elab.async false
set_option linter.all false
namespace PB
structure WS where
  a : Nat
  words : D
  price : D
  rest : NL
  sk : List D
  sv : List D
  qk : List D
  qv : List D
abbrev GW (γ : Type) := γ × WS
/-- rows out of lists -/
def unL : List D → Option NL
  | [] => some []
  | .lst r :: ds => (unL ds).map (r :: ·)
  | _ :: _ => none
theorem unL_map : ∀ n : NL, unL (n.map .lst) = some n
  | [] => rfl
  | r :: n => by
    show (unL (n.map .lst)).map (r :: ·) = _
    rw [unL_map n]
    rfl
theorem unL_some : ∀ {ds : List D} {n : NL}, unL ds = some n → ds = n.map .lst
  | [], n, h => by cases h; rfl
  | d :: ds, n, h => by
    cases d with
    | lst r =>
      have h : (unL ds).map (r :: ·) = some n := h
      cases k : unL ds with
      | none => rw [k] at h; cases h
      | some m =>
        rw [k] at h
        cases h
        rw [List.map_cons, unL_some k]
    | _ => cases h
section
variable {γ : Type}
def mSeqN (a : MS γ) (b : Env → γ → Rs γ NL) : Env → γ → Rs γ NL := fun e g => match a e g with
  | .ok (.nx e1) g1 => b e1 g1
  | _ => .no
def mNestN (i : Nat) (src : MI γ) (tg : MG) (a : ME γ) (own : List Nat) (b : MS (γ × NL)) : Env → γ → Rs γ NL := fun e g => if noGh e = true then (match mNew src tg a own e g with
  | .ok n g1 => match b (st e i (.gh 0)) (g1, n) with
    | .ok (.nx e') g2 => match gt e' i with
      | .gh _ => .ok g2.2 g2.1
      | _ => .no
    | _ => .no
  | _ => .no) else .no
/-- what a suite hands back, as rows -/
def NlM (m : MS γ) (n : Env → γ → Rs γ NL) : Prop := ∀ e g (r : Rv) g', m e g = .ok (.rt r) g' → ∃ nl : NL, r = .own (nl.map .lst) ∧ n e g = .ok nl g'
def NoRt (m : MS γ) : Prop := ∀ e g r g', m e g ≠ .ok (.rt r) g'
theorem NoRt.set {i : Nat} {a : ME γ} : NoRt (mSet i a) := fun e g r g' h => by
  unfold mSet at h
  cases k : a e g with
  | ok x g1 =>
    rw [k, Rs.bind_ok] at h
    split at h <;> cases h
  | ex x g1 => rw [k] at h; cases h
  | no => rw [k] at h; cases h
theorem NoRt.tgt {t : MG} {a : ME γ} : NoRt (mTgt t a) := fun e g r g' h => by
  unfold mTgt at h
  cases k : a e g with
  | ok x g1 =>
    rw [k, Rs.bind_ok] at h
    split at h
    · split at h <;> cases h
    · cases h
  | ex x g1 => rw [k] at h; cases h
  | no => rw [k] at h; cases h
theorem NlM.seq {a b : MS γ} {n : Env → γ → Rs γ NL} (h1 : NoRt a) (h2 : NlM b n) : NlM (mSeq a b) (mSeqN a n) := fun e g rs g' h => by
  unfold mSeq at h
  unfold mSeqN
  cases k : a e g with
  | ex x g1 => rw [k] at h; cases h
  | no => rw [k] at h; cases h
  | ok f g1 =>
    rw [k, Rs.bind_ok] at h
    cases f with
    | nx e1 => exact h2 e1 g1 rs g' h
    | rt r => exact absurd k (h1 e g r g1)
    | bk e1 => cases h
    | ct e1 => cases h
theorem NlM.nest {i : Nat} {src : MI γ} {tg : MG} {a : ME γ} {own : List Nat} {b : MS (γ × NL)} : NlM (mNest i src tg a own b) (mNestN i src tg a own b) := fun e g rs g' h => by
  unfold mNest at h
  unfold mNestN
  by_cases c : noGh e = true
  · rw [if_pos c] at h ⊢
    cases k : mNew src tg a own e g with
    | ex x g1 => rw [k] at h; cases h
    | no => rw [k] at h; cases h
    | ok n g1 =>
      rw [k] at h
      have h : mNestK i (b (st e i (.gh 0)) (g1, n)) = .ok (.rt rs) g' := h
      unfold mNestK at h
      dsimp only
      cases kb : b (st e i (.gh 0)) (g1, n) with
      | ex x g1 => rw [kb] at h; cases h
      | no => rw [kb] at h; cases h
      | ok f g2 =>
        rw [kb] at h
        cases f with
        | nx e1 =>
          dsimp only at h ⊢
          cases kg : gt e1 i with
          | gh y =>
            rw [kg] at h
            cases h
            exact ⟨_, rfl, rfl⟩
          | _ =>
            rw [kg] at h
            cases h
        | _ => cases h
  · rw [if_neg c] at h
    cases h
/-- x.f, f data -/
def mWyF (f : WS → D) (mo : ME (GW γ)) : ME (GW γ) := fun e g => (mo e g).bind fun x g1 => match x with
  | .dat (.ref b) => if b = g1.2.a then .ok (.dat (f g1.2)) g1 else .no
  | _ => .no
/-- x.rest[a][b] -/
def mWyRest (mo ma mb : ME (GW γ)) : ME (GW γ) := fun e g => (mo e g).bind fun x g0 => match x with
  | .dat (.ref c) => if c = g0.2.a then (ma e g0).bind fun y g1 => match y with
    | .dat (.int m) => match atI g1.2.rest m with
      | some _ => (mb e g1).bind fun z g2 => match z with
        | .dat (.int k) => ofO (((atI g2.2.rest m).bind fun r => atI r k).map .dat) g2
        | _ => .no
      | none => .no
    | _ => .no else .no
  | _ => .no
def WS.keys (w : WS) (t : Bool) : List D := if t then w.sk else w.qk
def WS.vals (w : WS) (t : Bool) : List D := if t then w.sv else w.qv
/-- x.steps[k] (true), x.many_on[k] -/
def mWyD (t : Bool) (mo mk : ME (GW γ)) : ME (GW γ) := fun e g => (mo e g).bind fun x g0 => match x with
  | .dat (.ref c) => if c = g0.2.a then (mk e g0).bind fun y g1 => match y with
    | .dat d => if keyB true d = true then ofO ((dGet (g1.2.keys t) (g1.2.vals t) d).map .dat) g1 else .no
    | _ => .no else .no
  | _ => .no
/-- x.steps[k] = a new list -/
def mWyPutS (mo mk ma : ME (GW γ)) : MS (GW γ) := fun e g => (ma e g).bind fun v g0 => match v with
  | .own ds => (mo e g0).bind fun x g1 => match x with
    | .dat (.ref c) => if c = g1.2.a ∧ noLDL ds = true then (mk e g1).bind fun y g2 => match y with
      | .dat d => if keyB true d = true ∧ g2.2.sk.length < SZ then .ok (.nx e) (g2.1, { g2.2 with sk := (dPut g2.2.sk g2.2.sv d (.lst ds)).1, sv := (dPut g2.2.sk g2.2.sv d (.lst ds)).2 }) else .no
      | _ => .no else .no
    | _ => .no
  | _ => .no
/-- x.many_on[k] = v -/
def mWyPutM (mo mk ma : ME (GW γ)) : MS (GW γ) := fun e g => (ma e g).bind fun v g0 => match v with
  | .dat r => (mo e g0).bind fun x g1 => match x with
    | .dat (.ref c) => if c = g1.2.a ∧ noLD r = true then (mk e g1).bind fun y g2 => match y with
      | .dat d => if keyB true d = true ∧ g2.2.qk.length < SZ then .ok (.nx e) (g2.1, { g2.2 with qk := (dPut g2.2.qk g2.2.qv d r).1, qv := (dPut g2.2.qk g2.2.qv d r).2 }) else .no
      | _ => .no else .no
    | _ => .no
  | _ => .no
/-- x.m(..), x a thing that methods are known of -/
def mMeth (slf : γ → Nat → Bool) (F : MF γ) (mo : ME γ) (mr : MA γ) : ME γ := fun e g => (mo e g).bind fun x g1 => match x with
  | .dat (.ref b) => if slf g1 b = true then (mr e g1).bind fun xs g2 => match stoL xs with
    | some ds => okO (F (.ref b :: ds) g2)
    | none => .no else .no
  | _ => .no
def slW (g : GW γ) (b : Nat) : Bool := b == g.2.a
/-- C(one, other, price) at the address a: the rests, then the loops -/
def mkWy (Fr : MF γ) (L : MS (GW γ)) (m : Nat) (ds : List D) (a : Nat) (g : γ) : Rs γ WS := match ds with
  | [w1, w2, pr] => if noLD w1 = true ∧ noLD w2 = true ∧ noLD pr = true then (match Fr [w1, w2, pr] g with
    | .ok (.own rs) g1 => match unL rs with
      | some n => match L (.dat (.ref a) :: .dat w1 :: .dat w2 :: .dat pr :: List.replicate m .un) (g1, ⟨a, .tup [w1, w2], pr, n, [], [], [], []⟩) with
        | .ok (.nx _) g2 => .ok g2.2 g2.1
        | _ => .no
      | none => .no
    | _ => .no) else .no
  | _ => .no
end
section
open Classical in
/-- one and the same at every address -/
noncomputable def allA {γ α : Type} (r : Nat → Rs γ α) : Rs γ α := if ∀ a, r a = r 0 then r 0 else .no
theorem allA_eq {γ α : Type} {r : Nat → Rs γ α} {x : Rs γ α} (h : ∀ a, r a = x) : allA r = x := by
  unfold allA
  rw [if_pos fun a => (h a).trans (h 0).symm]
  exact h 0
theorem allA_at {γ α : Type} {r : Nat → Rs γ α} (h : allA r ≠ .no) (a : Nat) : r a = allA r := by
  unfold allA at h ⊢
  by_cases c : ∀ a, r a = r 0
  · rw [if_pos c]
    exact c a
  · rw [if_neg c] at h
    exact absurd rfl h
variable {γ : Type}
/-- C(..).many_on[k] -/
def kWy1 (M : List D → Nat → γ → Rs γ WS) (mk : ME γ) (ds : List D) (e : Env) (g : γ) (a : Nat) : Rs γ Rv := match M ds a g with
  | .ok w g2 => (mk e g2).bind fun y g3 => match y with
    | .dat d => if keyB true d = true then ofO ((dGet w.qk w.qv d).map .dat) g3 else .no
    | _ => .no
  | _ => .no
noncomputable def mWy1 (M : List D → Nat → γ → Rs γ WS) (mr : MA γ) (mk : ME γ) : ME γ := fun e g => (mr e g).bind fun xs g1 => match stoL xs with
  | some ds => allA (kWy1 M mk ds e g1)
  | none => .no
end
end PB
namespace PB
section
variable {γ : Type}
/-- x.pop(k) again and again, x the own list at i -/
def popL (tg : MG) (k : MA γ) (i : Nat) (e : Env) : List D → List D → List D → γ → Rs γ (List D)
  | [], acc, _, g => .ok acc g
  | d :: ds, acc, xs, g => match tg d (st e i (.own xs)) with
    | none => .no
    | some e1 => match k e1 g with
      | .ok [.dat (.int n)] g1 => match xs[n.toNat]? with
        | some y => if 0 ≤ n ∧ n < xs.length ∧ n ≤ 16777216 ∧ acc.length < SZ then popL tg k i e ds (acc ++ [y]) (xs.eraseIdx n.toNat) g1 else .no
        | none => .no
      | _ => .no
/-- return "".join([x.pop(k) for ..]) -/
def mRetPop (i : Nat) (src : MI γ) (tg : MG) (k : MA γ) (own : List Nat) : MS γ := fun e g => match gt e i with
  | .own xs => (okO (src e g)).bind fun ds g1 => if i ∈ own then .no else (okO (popL tg k i (wp e own) ds [] xs g1)).bind fun acc g2 => match dStrs acc with
    | some ss => if (ss.map List.length).sum ≤ SZ then .ok (.rt (.dat (.str (joinL [] ss)))) g2 else .no
    | none => .no
  | _ => .no
/-- a[k], a any thing that is a dict -/
def dctRv : Rv → Option (Bool × List D × List D)
  | .dat (.dct t ks vs) => some (t, ks, vs)
  | .odt t ks vs => some (t, ks, vs)
  | .bdt t ks vs => some (t, ks, vs)
  | _ => none
def mDGetX (a k : ME γ) : ME γ := fun e g => (a e g).bind fun x g1 => match dctRv x with
  | some (t, ks, vs) => (k e g1).bind fun y g2 => ofO (onK t y fun d => dGet ks vs d) g2
  | none => .no
end
end PB
set_option Elab.async false
set_option linter.all false
set_option maxRecDepth 100000
set_option maxHeartbeats 4000000
namespace PB
open PySem PySem.Spec PyProof.Rows L2
abbrev Frag := PySem.W.Frag
def mkS (l : List Nat) : Str := ⟨l.toArray⟩
/-- whether tuples of the written part are met -/
class Kts where
  on : Prop
/-- a tuple of the written part -/
def KT [Kts] (K : Frag) (a : Addr) (xs : List V) : Prop :=
  Kts.on ∧ ∃ (o : Obj) (its : Array Value) (n : Nat), K.lookup a = some o ∧ o.cls = .type "tuple" ∧ o.data = .seq its n ∧ its.size ≤ sizeLine ∧ Vals xs its.toList
/-- a key as data -/
def keyD : Key → D
  | .inl i => .int i
  | .inr s => .str s.cps.toList
/-- a dict's object: its keys (tuples of numbers), where they stand, its values -/
def dPhi (a : Addr) (o : Obj) (xs : List (List Key × Addr × Value)) : Heap → Prop := fun h => ∃ es ep, h.get? a = some o ∧ o.ExactDict ∧ o.data = .dict es ep ∧ (∀ (P : Program) (w : World), es.toList = xs.map (entryOfKey (tupleKind (mixKind P w)))) ∧ (xs.map (·.1)).Nodup ∧ (a == sysModules) = false ∧ xs.length ≤ sizeLine ∧ ∀ x ∈ xs, x.1.all Sum.isLeft = true
/-- a key's tuple stands -/
def TKy [Kts] (K : Frag) (O : Addr → Prop) (H : Hp) (b : Addr) (k : List Key) : Prop := (H b = some (.tup (k.map kV)) ∧ ¬ O b) ∨ KT K b (k.map kV)
/-- a dict stands at a: its keys, its values -/
@[irreducible] def DiS [Kts] (K : Frag) (O : Addr → Prop) (H : Hp) (a : Addr) (t : Bool) (ks : List D) (us : List V) : Prop := match t with
  | true => ∃ z : Obj × List (List Key × Addr × Value), H a = some (.ext (dPhi a z.1 z.2)) ∧ ks = z.2.map (fun x => .tup (x.1.map keyD)) ∧ Vals us (z.2.map (·.2.2)) ∧ (∀ x ∈ z.2, TKy K O H x.2.1 x.1) ∧ ∀ x ∈ z.2, x.1.all Sum.isLeft = true
  | false => ∃ kvs : List (Key × V), H a = some (.dK kvs) ∧ ks = kvs.map (fun kv => keyD kv.1) ∧ us = kvs.map (·.2)
theorem DiS.tt [Kts] {K : Frag} {O : Addr → Prop} {H : Hp} {a : Addr} {ks : List D} {us : List V} : DiS K O H a true ks us ↔ ∃ (o : Obj) (xs : List (List Key × Addr × Value)), H a = some (.ext (dPhi a o xs)) ∧ ks = xs.map (fun x => .tup (x.1.map keyD)) ∧ Vals us (xs.map (·.2.2)) ∧ (∀ x ∈ xs, TKy K O H x.2.1 x.1) ∧ ∀ x ∈ xs, x.1.all Sum.isLeft = true := by
  unfold DiS
  exact ⟨fun ⟨z, q⟩ => ⟨z.1, z.2, q⟩, fun ⟨o, xs, q⟩ => ⟨(o, xs), q⟩⟩
theorem DiS.ff [Kts] {K : Frag} {O : Addr → Prop} {H : Hp} {a : Addr} {ks : List D} {us : List V} : DiS K O H a false ks us ↔ ∃ kvs : List (Key × V), H a = some (.dK kvs) ∧ ks = kvs.map (fun kv => keyD kv.1) ∧ us = kvs.map (·.2) := by
  unfold DiS
  exact Iff.rfl
theorem DiS.go [Kts] {K : Frag} {O O' : Addr → Prop} {H H' : Hp} {a : Addr} {t : Bool} {ks : List D} {us : List V} (h : DiS K O H a t ks us) (f : ∀ b o, H b = some o → ¬ O b → H' b = some o ∧ ¬ O' b) (k : ∀ o, H a = some o → H' a = some o) : DiS K O' H' a t ks us := by
  cases t with
  | true =>
    obtain ⟨o, xs, e, r1, r2, r3, r4⟩ := DiS.tt.mp h
    exact DiS.tt.mpr ⟨o, xs, k _ e, r1, r2, fun x hx => (r3 x hx).elim (fun z => .inl (f _ _ z.1 z.2)) .inr, r4⟩
  | false =>
    obtain ⟨kvs, e, r⟩ := DiS.ff.mp h
    exact DiS.ff.mpr ⟨kvs, k _ e, r⟩
theorem DiS.less [Kts] {K : Frag} {O O' : Addr → Prop} {H : Hp} {a : Addr} {t : Bool} {ks : List D} {us : List V} (h : DiS K O H a t ks us) (l : ∀ a, O' a → O a) : DiS K O' H a t ks us := h.go (fun b o e n => ⟨e, fun z => n (l b z)⟩) fun _ e => e
theorem DiS.some [Kts] {K : Frag} {O : Addr → Prop} {H : Hp} {a : Addr} {t : Bool} {ks : List D} {us : List V} (h : DiS K O H a t ks us) : ∃ o, H a = Option.some o := by
  cases t with
  | true =>
    obtain ⟨_, _, e, r⟩ := DiS.tt.mp h
    exact ⟨_, e⟩
  | false =>
    obtain ⟨kvs, e, r⟩ := DiS.ff.mp h
    exact ⟨_, e⟩
variable [Kts]
mutual
inductive At (K : Frag) (O : Addr → Prop) (H : Hp) : V → D → Prop
  | non : At K O H .non .non
  | bl (b : Bool) : At K O H (.bl b) (.bl b)
  | int (i : Int) : At K O H (.int i) (.int i)
  | str (l : List Nat) (h : l.length ≤ SZ) (h2 : l.all (· < 0x110000) = true) : At K O H (.str (mkS l)) (.str l)
  | tup {a : Addr} {xs : List V} {ds : List D} (h : (H a = some (.tup xs) ∧ ¬ O a) ∨ KT K a xs) (hs : AtL K O H xs ds) : At K O H (.ref a) (.tup ds)
  | lst {a : Addr} {xs : List V} {ds : List D} (h : Rd H a (.lst xs)) (h2 : ¬ O a) (hs : AtL K O H xs ds) : At K O H (.ref a) (.lst ds)
  | ref (a : Nat) : At K O H (.ref a) (.ref a)
  | dct {a : Addr} {t : Bool} {ks vs : List D} {us : List V} (h : DiS K O H a t ks us) (h2 : ¬ O a) (hs : AtL K O H us vs) : At K O H (.ref a) (.dct t ks vs)
inductive AtL (K : Frag) (O : Addr → Prop) (H : Hp) : List V → List D → Prop
  | nil : AtL K O H [] []
  | cons {v : V} {d : D} {xs : List V} {ds : List D} (h : At K O H v d) (hs : AtL K O H xs ds) : AtL K O H (v :: xs) (d :: ds)
end
section
variable {K : Frag} {O O' : Addr → Prop} {H H' : Hp}
theorem AtL.length : ∀ {xs : List V} {ds : List D}, AtL K O H xs ds → xs.length = ds.length
  | _, _, .nil => rfl
  | _, _, .cons _ h => by rw [List.length_cons, List.length_cons, h.length]
mutual
/-- to another heap, another set -/
theorem At.go (f : ∀ a o, H a = some o → ¬ O a → H' a = some o ∧ ¬ O' a) : ∀ {v : V} {d : D}, At K O H v d → At K O' H' v d
  | _, _, .non => .non
  | _, _, .bl b => .bl b
  | _, _, .int i => .int i
  | _, _, .str l h h2 => .str l h h2
  | _, _, .tup h hs => .tup (match h with
    | .inl ⟨h1, h2⟩ => .inl (f _ _ h1 h2)
    | .inr k => .inr k) (hs.go f)
  | _, _, .lst h h2 hs => .lst (h.elim (fun z => .inl (f _ _ z h2).1) fun ⟨o, z⟩ => .inr ⟨o, (f _ _ z h2).1⟩) (h.elim (fun z => (f _ _ z h2).2) fun ⟨_, z⟩ => (f _ _ z h2).2) (hs.go f)
  | _, _, .ref a => .ref a
  | _, _, .dct (H := _) (a := a) h h2 hs => .dct (h.go f fun o e => (f a o e h2).1) (match h, h2 with
    | h, h2 => by
      intro z
      obtain ⟨o, e⟩ : ∃ o, H a = some o := h.some
      exact (f a o e h2).2 z) (hs.go f)
theorem AtL.go (f : ∀ a o, H a = some o → ¬ O a → H' a = some o ∧ ¬ O' a) : ∀ {xs : List V} {ds : List D}, AtL K O H xs ds → AtL K O' H' xs ds
  | _, _, .nil => .nil
  | _, _, .cons h hs => .cons (h.go f) (hs.go f)
end
theorem At.less (h : ∀ a, O' a → O a) {v : V} {d : D} (x : At K O H v d) : At K O' H v d := x.go fun _ _ q n => ⟨q, fun z => n (h _ z)⟩
theorem AtL.less (h : ∀ a, O' a → O a) {v : List V} {d : List D} (x : AtL K O H v d) : AtL K O' H v d := x.go fun _ _ q n => ⟨q, fun z => n (h _ z)⟩
theorem AtL.get : ∀ {xs : List V} {ds : List D} {i : Nat} {d : D}, AtL K O H xs ds → ds[i]? = some d → ∃ v, xs[i]? = some v ∧ At K O H v d
  | _, _, _, _, .nil, h => by simp at h
  | _, _, 0, _, .cons a _, h => by
    simp at h
    subst h
    exact ⟨_, rfl, a⟩
  | _, _, i + 1, _, .cons _ r, h => by
    obtain ⟨v, e, q⟩ := AtL.get (i := i) r (by simpa using h)
    exact ⟨v, by simpa using e, q⟩
theorem AtL.app : ∀ {xs ys : List V} {ds es : List D}, AtL K O H xs ds → AtL K O H ys es → AtL K O H (xs ++ ys) (ds ++ es)
  | _, _, _, _, .nil, h => h
  | _, _, _, _, .cons a r, h => .cons a (r.app h)
theorem AtL.drop : ∀ {xs : List V} {ds : List D} (n : Nat), AtL K O H xs ds → AtL K O H (xs.drop n) (ds.drop n)
  | _, _, 0, h => h
  | _, _, _ + 1, .nil => .nil
  | _, _, n + 1, .cons _ r => r.drop n
theorem AtL.take : ∀ {xs : List V} {ds : List D} (n : Nat), AtL K O H xs ds → AtL K O H (xs.take n) (ds.take n)
  | _, _, 0, _ => .nil
  | _, _, _ + 1, .nil => .nil
  | _, _, n + 1, .cons a r => .cons a (r.take n)
theorem AtL.set : ∀ {xs : List V} {ds : List D} {v : V} {d : D} (n : Nat), AtL K O H xs ds → At K O H v d → AtL K O H (xs.set n v) (ds.set n d)
  | _, _, _, _, _, .nil, _ => .nil
  | _, _, _, _, 0, .cons _ r, h => .cons h r
  | _, _, _, _, n + 1, .cons a r, h => .cons a (r.set n h)
theorem AtL.rep {xs : List V} {ds : List D} (h : AtL K O H xs ds) : ∀ n : Nat, AtL K O H (List.replicate n xs).flatten (List.replicate n ds).flatten
  | 0 => .nil
  | n + 1 => by
    rw [List.replicate_succ, List.replicate_succ, List.flatten_cons, List.flatten_cons]
    exact h.app (h.rep n)
theorem AtL.dInts : ∀ {xs : List V} {ds : List D} {ns : List Int}, AtL K O H xs ds → PB.dInts ds = some ns → xs = ns.map V.int
  | _, _, _, .nil, h => by
    cases h
    rfl
  | _, d :: ds, ns, .cons a r, h => by
    cases d with
    | int i =>
      cases a
      unfold PB.dInts at h
      cases e : PB.dInts ds with
      | none => rw [e] at h; cases h
      | some ms =>
        rw [e] at h
        cases h
        rw [List.map_cons, r.dInts e]
    | _ => cases h
theorem AtL.dBls : ∀ {xs : List V} {ds : List D} {ns : List Bool}, AtL K O H xs ds → PB.dBls ds = some ns → xs = ns.map V.bl
  | _, _, _, .nil, h => by
    cases h
    rfl
  | _, d :: ds, ns, .cons a r, h => by
    cases d with
    | bl i =>
      cases a
      unfold PB.dBls at h
      cases e : PB.dBls ds with
      | none => rw [e] at h; cases h
      | some ms =>
        rw [e] at h
        cases h
        rw [List.map_cons, r.dBls e]
    | _ => cases h
theorem AtL.dStrs : ∀ {xs : List V} {ds : List D} {ns : List (List Nat)}, AtL K O H xs ds → PB.dStrs ds = some ns → xs = ns.map (fun l => V.str (mkS l)) ∧ ∀ l ∈ ns, l.length ≤ SZ ∧ l.all (· < 0x110000) = true
  | _, _, _, .nil, h => by
    cases h
    exact ⟨rfl, fun l h => by cases h⟩
  | _, d :: ds, ns, .cons a r, h => by
    cases d with
    | str i =>
      cases a with
      | str _ h1 h2 =>
      unfold PB.dStrs at h
      cases e : PB.dStrs ds with
      | none => rw [e] at h; cases h
      | some ms =>
        rw [e] at h
        cases h
        obtain ⟨q1, q2⟩ := r.dStrs e
        refine ⟨by rw [List.map_cons, q1], fun l hl => ?_⟩
        rcases List.mem_cons.mp hl with rfl | hl
        · exact ⟨h1, h2⟩
        · exact q2 l hl
    | _ => cases h
theorem tup_seq {a : Addr} {xs : List V} (h : (H a = some (.tup xs) ∧ ¬ O a) ∨ KT K a xs) : SqT K H a xs := h.elim (fun z => .inl (.inl z.1)) fun z => .inr z.2
end
/-- data that stand nowhere -/
inductive ScV : V → D → Prop
  | non : ScV .non .non
  | bl (b : Bool) : ScV (.bl b) (.bl b)
  | int (i : Int) : ScV (.int i) (.int i)
  | str (l : List Nat) (h : l.length ≤ SZ) (h2 : l.all (· < 0x110000) = true) : ScV (.str (mkS l)) (.str l)
theorem ScV.at {K : Frag} {O : Addr → Prop} {H : Hp} {v : V} {d : D} (h : ScV v d) : At K O H v d := by
  cases h with
  | non => exact .non
  | bl b => exact .bl b
  | int i => exact .int i
  | str l h h2 => exact .str l h h2
theorem scv_of {K : Frag} {O : Addr → Prop} {H : Hp} {v : V} {d : D} (h : At K O H v d) (s : scl d = true) : ScV v d := by
  cases h with
  | non => exact .non
  | bl b => exact .bl b
  | int i => exact .int i
  | str l h h2 => exact .str l h h2
  | tup _ _ => cases s
  | lst _ _ _ => cases s
  | ref _ => cases s
  | dct _ _ _ => cases s
/-- the classes of exceptions by number: what stands for each, the name of its field -/
structure XT where
  cl : Nat → Value
  fn : Nat → Str
def XOk (T : XT) (x : Xn) (c : Value) (od : Option Addr) (H : Hp) : Prop := c = T.cl x.cls ∧ match x.fld with
  | none => od = none
  | some d => ∃ p v, od = some p ∧ H p = some (.xd [(T.fn x.cls, v)]) ∧ ScV v d
theorem XOk.go {T : XT} {x : Xn} {c : Value} {od : Option Addr} {H H' : Hp} (h : XOk T x c od H) (k : ∀ p fs, H p = some (.xd fs) → H' p = some (.xd fs)) : XOk T x c od H' := by
  obtain ⟨h1, h2⟩ := h
  refine ⟨h1, ?_⟩
  cases hx : x.fld with
  | none =>
    rw [hx] at h2
    exact h2
  | some d =>
    rw [hx] at h2
    obtain ⟨p, v, e, q, s⟩ := h2
    exact ⟨p, v, e, k p _ q, s⟩
/-- what never changes: tuples, frozen things -/
def Sm : HO → Prop
  | .tup _ => True
  | .frz _ _ => True
  | _ => False
/-- a list, a dict stands there -/
def Cont : HO → Prop
  | .lst _ => True
  | .dK _ => True
  | .dT _ => True
  | .ext _ => True
  | .ins _ _ _ => True
  | _ => False
def Stk (o : Option HO) : Prop := (o ≠ none ∧ ∀ fs, o ≠ some (.xd fs)) ∧ ∃ u, o = some u ∧ Cont u
theorem Stk.of {o : Option HO} {u : HO} (h : o = some u) (c : Cont u) : Stk o := by
  subst h
  exact ⟨⟨(fun z => nomatch z), (fun fs z => by cases z; exact c)⟩, u, rfl, c⟩
theorem Stk.lst {o : Option HO} {xs : List V} (h : o = some (.lst xs)) : Stk o := .of h trivial
theorem Stk.same {o o' : Option HO} (h : Stk o) (k : ∀ u, o = some u → o' = some u) : Stk o' := by
  obtain ⟨_, xs, e, c⟩ := h
  exact .of (k _ e) c
theorem Stk.notS {o : Option HO} {v : HO} (h : Stk o) (hv : Sm v) : o ≠ some v := by
  obtain ⟨_, u, rfl, c⟩ := h
  intro z
  cases z
  cases v <;> first | exact hv | exact c
theorem Stk.notT {o : Option HO} (h : Stk o) (xs : List V) : o ≠ some (.tup xs) := by
  obtain ⟨_, u, rfl, c⟩ := h
  intro z
  cases z
  exact c
theorem DiS.stk {K : Frag} {O : Addr → Prop} {H : Hp} {a : Addr} {t : Bool} {ks : List D} {us : List V} (h : DiS K O H a t ks us) : Stk (H a) := by
  cases t with
  | true =>
    obtain ⟨_, _, e, r⟩ := DiS.tt.mp h
    exact .of e trivial
  | false =>
    obtain ⟨kvs, e, r⟩ := DiS.ff.mp h
    exact .of e trivial
structure Gho (γ : Type) where
  F : Addr → Prop
  I : γ → Hp → Prop
  stab : ∀ g H H', I g H → (∀ a, F a → H' a = H a) → (∀ a u, Sm u → H a = some u → H' a = some u) → I g H'
  lsts : ∀ g H a, I g H → F a → Stk (H a)
  ad : Nat → Addr
theorem Gho.stk {γ : Type} (G : Gho γ) (g : γ) (H : Hp) (a : Addr) (i : G.I g H) (f : G.F a) : Stk (H a) := G.lsts g H a i f
theorem Gho.trk {γ : Type} (G : Gho γ) (g : γ) (H : Hp) (a : Addr) (i : G.I g H) (f : G.F a) : H a ≠ none := (G.stk g H a i f).1.1
/-- what is fixed through a whole law: the written part, how exceptions stand, the things beside (a family, one is meant) -/
structure Bs (γ ι : Type) where
  K : Frag
  T : XT
  fam : ι → Gho γ
  i : ι
  xa : Addr × Value × Option Addr
/-- a run of a def: besides, what its values must not be -/
structure Act (γ ι : Type) where
  B : Bs γ ι
  X : Addr → Prop
section
variable {γ ι : Type}
abbrev Act.K (A : Act γ ι) : Frag := A.B.K
abbrev Act.G (A : Act γ ι) : Gho γ := A.B.fam A.B.i
abbrev Act.R (A : Act γ ι) (x : Xn) (c : Value) (od : Option Addr) (H : Hp) : Prop := XOk A.B.T x c od H
def Sl.hs : Sl → Bool
  | .own _ => true
  | .owd _ _ _ => true
  | _ => false
def OwnA (e : Env) (σ : L2.St) (a : Addr) : Prop := ∃ i, (gt e i).hs = true ∧ σ[i]? = some (some (.ref a))
theorem OwnA.of {e : Env} {σ : L2.St} {a : Addr} {i : Nat} {s : Sl} (h : gt e i = s) (hs : s.hs = true) (k : σ[i]? = some (some (.ref a))) : OwnA e σ a := ⟨i, by rw [h]; exact hs, k⟩
def Om (A : Act γ ι) (e : Env) (σ : L2.St) (a : Addr) : Prop := A.X a ∨ OwnA e σ a
def Mu (A : Act γ ι) (e : Env) (σ : L2.St) (a : Addr) : Prop := A.G.F a ∨ OwnA e σ a
/-- what a slot holds -/
def SlOk (B : Bs γ ι) (O : Addr → Prop) (H : Hp) (s : Sl) (x : Option (Option V)) : Prop := match s with
  | .un => True
  | .dat d => ∃ v, x = some (some v) ∧ At B.K O H v d
  | .own ds => ∃ p xs, x = some (some (.ref p)) ∧ H p = some (.lst xs) ∧ AtL B.K O H xs ds
  | .xc y => x = some (some (.ref B.xa.1)) ∧ XOk B.T y B.xa.2.1 B.xa.2.2 H
  | .gh k => x = some (some (.ref ((B.fam B.i).ad k)))
  | .owd t ks vs => ∃ p us, x = some (some (.ref p)) ∧ DiS B.K O H p t ks us ∧ AtL B.K O H us vs
structure Rep (A : Act γ ι) (e : Env) (g : γ) (σ : L2.St) (H : Hp) : Prop where
  len : σ.length = e.length
  sl : ∀ i, SlOk A.B (Om A e σ) H (gt e i) σ[i]?
  inj : ∀ i j p, (gt e i).hs = true → (gt e j).hs = true → σ[i]? = some (some (.ref p)) → σ[j]? = some (some (.ref p)) → i = j
  nx : ∀ a, OwnA e σ a → ¬ A.X a
  gh : A.G.I g H
  fx : ∀ a, A.G.F a → A.X a
  xs : ∀ a, A.X a → Stk (H a)
theorem Rep.xt {A : Act γ ι} {e : Env} {g : γ} {σ : L2.St} {H : Hp} (R : Rep A e g σ H) (a : Addr) (h : A.X a) : H a ≠ none := (R.xs a h).1.1
/-- all that stands stands on, but what stands beside -/
def ExE (A : Act γ ι) (H H' : Hp) : Prop := ∀ b o, H b = some o → ¬ A.G.F b → H' b = some o
section
variable {A : Act γ ι} {e : Env} {g g' g1 : γ} {σ : L2.St} {H H' H0 H1 : Hp} {a p : Addr}
theorem ExE.refl (H : Hp) : ExE A H H := fun _ _ h _ => h
theorem ExE.trans {H2 : Hp} (a : ExE A H H1) (b : ExE A H1 H2) : ExE A H H2 := fun x o h n => b x o (a x o h n) n
theorem ExE.back (a : ExE A H H1) (h : H1 p = none) (i' : A.G.I g' H1) : H p = none := by
  cases e : H p with
  | none => rfl
  | some o =>
    by_cases f : A.G.F p
    · exact absurd h (A.G.trk _ _ _ i' f)
    · rw [a p o e f] at h
      cases h
theorem ExE.new {o : HO} (h : H p = none) : ExE A H (upd H p o) := fun b u e _ => by
  rw [upd_ne (ne_of_none e h)]
  exact e
theorem Gho.new {G : Gho γ} {o : HO} (i : G.I g H) (h : H p = none) : G.I g (upd H p o) := G.stab _ _ _ i (fun a f => upd_ne (by
  intro z
  subst z
  exact G.trk _ _ _ i f h)) fun a u _ q => by
  rw [upd_ne (ne_of_none q h)]
  exact q
theorem OwnA.stk (R : Rep A e g σ H) (h : OwnA e σ a) : Stk (H a) := by
  obtain ⟨i, h1, h2⟩ := h
  have q := R.sl i
  cases k : gt e i with
  | own ds =>
    rw [k] at q
    obtain ⟨p, xs, e, k, _⟩ := q
    rw [h2] at e
    cases e
    exact .lst k
  | owd t ks vs =>
    rw [k] at q
    obtain ⟨p, us, e, k, _⟩ := q
    rw [h2] at e
    cases e
    exact k.stk
  | _ =>
    rw [k] at h1
    cases h1
theorem Rep.notF (R : Rep A e g σ H) (h : OwnA e σ a) : ¬ A.G.F a := fun z => R.nx a h (R.fx a z)
theorem Rep.omt (R : Rep A e g σ H) (h : Om A e σ a) : H a ≠ none := by
  rcases h with h | h
  · exact R.xt a h
  · exact (h.stk R).1.1
theorem Rep.oms (R : Rep A e g σ H) (h : Om A e σ a) : Stk (H a) := by
  rcases h with h | h
  · exact R.xs a h
  · exact h.stk R
theorem Rep.muom (R : Rep A e g σ H) (h : Mu A e σ a) : Om A e σ a := h.elim (fun z => .inl (R.fx a z)) .inr
/-- an exception's dict is nobody's -/
theorem Rep.nxd (R : Rep A e g σ H) {p : Addr} {fs : List (Str × V)} (h : H p = some (.xd fs)) : ¬ Om A e σ p := by
  rintro (z | z)
  · exact (R.xs p z).1.2 fs h
  · exact (z.stk R).1.2 fs h
/-- values are kept through an expression -/
theorem Rep.at (R : Rep A e g σ H0) (x : ExE A H H') {v : V} {d : D} (h : At A.K (Om A e σ) H v d) : At A.K (Om A e σ) H' v d :=
  h.go fun a o q n => ⟨x a o q fun z => n (.inl (R.fx a z)), n⟩
theorem Rep.atL (R : Rep A e g σ H0) (x : ExE A H H') {v : List V} {d : List D} (h : AtL A.K (Om A e σ) H v d) : AtL A.K (Om A e σ) H' v d :=
  h.go fun a o q n => ⟨x a o q fun z => n (.inl (R.fx a z)), n⟩
theorem Rep.exe (R : Rep A e g σ H) (x : ExE A H H') (i : A.G.I g' H') : Rep A e g' σ H' where
  len := R.len
  sl := fun j => by
    have q := R.sl j
    cases h : gt e j with
    | un => trivial
    | dat d =>
      rw [h] at q
      obtain ⟨v, e1, a⟩ := q
      exact ⟨v, e1, R.at x a⟩
    | own ds =>
      rw [h] at q
      obtain ⟨p, xs, e1, k, a⟩ := q
      exact ⟨p, xs, e1, x p _ k (R.notF (.of h rfl e1)), R.atL x a⟩
    | xc y =>
      rw [h] at q
      exact ⟨q.1, q.2.go fun p fs k => x p _ k fun z => R.nxd k (.inl (R.fx p z))⟩
    | gh k =>
      rw [h] at q
      exact q
    | owd t ks vs =>
      rw [h] at q
      obtain ⟨p, us, e1, k, a⟩ := q
      exact ⟨p, us, e1, k.go (fun a o q n => ⟨x a o q fun z => n (.inl (R.fx a z)), n⟩) fun o e => x p o e (R.notF (.of h rfl e1)), R.atL x a⟩
  inj := R.inj
  nx := R.nx
  gh := i
  fx := R.fx
  xs := fun a ha => by
    by_cases f : A.G.F a
    · exact A.G.stk _ _ _ i f
    · exact (R.xs a ha).same fun u q => x a u q f
end
/-- what an expression's value is: H0 the heap ahead of it -/
def VOk (A : Act γ ι) (e : Env) (σ : L2.St) (H0 H : Hp) (r : Rv) (v : V) : Prop := match r with
  | .dat d => At A.K (Om A e σ) H v d
  | .own ds => ∃ p xs, v = .ref p ∧ H0 p = none ∧ H p = some (.lst xs) ∧ AtL A.K (fun a => Om A e σ a ∨ a = p) H xs ds
  | .bor ds => ∃ p xs, v = .ref p ∧ OwnA e σ p ∧ H p = some (.lst xs) ∧ AtL A.K (Om A e σ) H xs ds
  | .odt t ks vs => ∃ p us, v = .ref p ∧ H0 p = none ∧ DiS A.K (fun a => Om A e σ a ∨ a = p) H p t ks us ∧ AtL A.K (fun a => Om A e σ a ∨ a = p) H us vs
  | .bdt t ks vs => ∃ p us, v = .ref p ∧ OwnA e σ p ∧ DiS A.K (Om A e σ) H p t ks us ∧ AtL A.K (Om A e σ) H us vs
section
variable {A : Act γ ι} {e : Env} {g g' g1 : γ} {σ : L2.St} {H H' H0 H1 : Hp} {p : Addr} {r : Rv} {v : V}
theorem VOk.step (R : Rep A e g σ H0) (x : ExE A H H') (h : VOk A e σ H0 H r v) : VOk A e σ H0 H' r v := by
  cases r with
  | dat d => exact At.go (fun a o q n => ⟨x a o q fun z => n (.inl (R.fx a z)), n⟩) h
  | own ds =>
    obtain ⟨p, xs, e1, h0, k, a⟩ := h
    refine ⟨p, xs, e1, h0, x p _ k fun z => R.xt p (R.fx p z) h0, a.go fun a o q n => ⟨x a o q fun z => n (.inl (.inl (R.fx a z))), n⟩⟩
  | bor ds =>
    obtain ⟨p, xs, e1, h0, k, a⟩ := h
    exact ⟨p, xs, e1, h0, x p _ k (R.notF h0), a.go fun a o q n => ⟨x a o q fun z => n (.inl (R.fx a z)), n⟩⟩
  | odt t ks vs =>
    obtain ⟨p, us, e1, h0, k, a⟩ := h
    have f : ∀ b o, H b = some o → ¬ (Om A e σ b ∨ b = p) → H' b = some o ∧ ¬ (Om A e σ b ∨ b = p) := fun a o q n => ⟨x a o q fun z => n (.inl (.inl (R.fx a z))), n⟩
    exact ⟨p, us, e1, h0, k.go f fun o q => x p o q fun z => R.xt p (R.fx p z) h0, a.go f⟩
  | bdt t ks vs =>
    obtain ⟨p, us, e1, h0, k, a⟩ := h
    have f : ∀ b o, H b = some o → ¬ Om A e σ b → H' b = some o ∧ ¬ Om A e σ b := fun a o q n => ⟨x a o q fun z => n (.inl (R.fx a z)), n⟩
    exact ⟨p, us, e1, h0, k.go f fun o q => x p o q (R.notF h0), a.go f⟩
/-- from a later beginning -/
theorem VOk.pre (x : ExE A H0 H1) (i : A.G.I g1 H1) (h : VOk A e σ H1 H r v) : VOk A e σ H0 H r v := by
  cases r with
  | dat d => exact h
  | own ds =>
    obtain ⟨p, xs, e1, h0, k, a⟩ := h
    exact ⟨p, xs, e1, x.back h0 i, k, a⟩
  | bor ds => exact h
  | odt t ks vs =>
    obtain ⟨p, us, e1, h0, k, a⟩ := h
    exact ⟨p, us, e1, x.back h0 i, k, a⟩
  | bdt t ks vs => exact h
/-- the value as a datum, of what a def may be handed -/
theorem VOk.weak (R : Rep A e g σ H0) (h : VOk A e σ H0 H r v) : At A.K A.X H v r.val := by
  cases r with
  | dat d => exact At.less (fun a z => .inl z) h
  | own ds =>
    obtain ⟨p, xs, e1, h0, k, a⟩ := h
    subst e1
    exact .lst (.inl k) (fun z => R.xt p z h0) (a.less fun a z => .inl (.inl z))
  | bor ds =>
    obtain ⟨p, xs, e1, h0, k, a⟩ := h
    subst e1
    exact .lst (.inl k) (R.nx p h0) (a.less fun a z => .inl z)
  | odt t ks vs =>
    obtain ⟨p, us, e1, h0, k, a⟩ := h
    subst e1
    exact .dct (k.less fun a z => .inl (.inl z)) (fun z => R.xt p z h0) (a.less fun a z => .inl (.inl z))
  | bdt t ks vs =>
    obtain ⟨p, us, e1, h0, k, a⟩ := h
    subst e1
    exact .dct (k.less fun a z => .inl z) (R.nx p h0) (a.less fun a z => .inl z)
theorem VOk.sto (R : Rep A e g σ H0) {d : D} (h : VOk A e σ H0 H r v) (hs : r.sto = some d) : At A.K (Om A e σ) H v d := by
  cases r with
  | dat d' =>
    cases hs
    exact h
  | own ds =>
    cases hs
    obtain ⟨p, xs, e1, h0, k, a⟩ := h
    subst e1
    exact .lst (.inl k) (fun z => R.omt z h0) (a.less fun a z => .inl z)
  | bor ds => cases hs
  | odt t ks vs =>
    cases hs
    obtain ⟨p, us, e1, h0, k, a⟩ := h
    subst e1
    exact .dct (k.less fun a z => .inl z) (fun z => R.omt z h0) (a.less fun a z => .inl z)
  | bdt t ks vs => cases hs
/-- the items of a list of either kind -/
theorem VOk.items (R : Rep A e g σ H0) {ds : List D} (h : VOk A e σ H0 H r v) (hs : r.items = some ds) : ∃ p xs, v = .ref p ∧ Rd H p (.lst xs) ∧ AtL A.K (Om A e σ) H xs ds := by
  cases r with
  | dat d' =>
    cases d' with
    | lst es =>
      cases hs
      cases h with
      | lst h1 h2 h3 => exact ⟨_, _, rfl, h1, h3⟩
    | _ => cases hs
  | own es =>
    cases hs
    obtain ⟨p, xs, e1, h0, k, a⟩ := h
    exact ⟨p, xs, e1, .inl k, a.less fun a z => .inl z⟩
  | bor es =>
    cases hs
    obtain ⟨p, xs, e1, h0, k, a⟩ := h
    exact ⟨p, xs, e1, .inl k, a⟩
  | odt t ks vs => cases hs
  | bdt t ks vs => cases hs
/-- a new list -/
theorem VOk.mk (x : ExE A H0 H) (i : A.G.I g1 H) {xs : List V} {ds : List D} (h : AtL A.K (Om A e σ) H xs ds) (hp : H p = none) :
    VOk A e σ H0 (upd H p (.lst xs)) (.own ds) (.ref p) :=
  ⟨p, xs, rfl, x.back hp i, upd_same, h.go fun a o q n => ⟨by rw [upd_ne (ne_of_none q hp)]; exact q, fun z => z.elim n fun e => ne_of_none q hp e⟩⟩
theorem At.mkT (R : Rep A e g σ H0) (x : ExE A H0 H) (i : A.G.I g1 H) {xs : List V} {ds : List D} (h : AtL A.K (Om A e σ) H xs ds) (hp : H p = none) :
    At A.K (Om A e σ) (upd H p (.tup xs)) (.ref p) (.tup ds) :=
  .tup (.inl ⟨upd_same, fun z => R.omt z (x.back hp i)⟩) (h.go fun a o q n => ⟨by rw [upd_ne (ne_of_none q hp)]; exact q, n⟩)
end
inductive VOkL (A : Act γ ι) (e : Env) (σ : L2.St) (H0 H : Hp) : List Rv → List V → Prop
  | nil : VOkL A e σ H0 H [] []
  | cons {r : Rv} {v : V} {rs : List Rv} {vs : List V} (h : VOk A e σ H0 H r v) (hs : VOkL A e σ H0 H rs vs) : VOkL A e σ H0 H (r :: rs) (v :: vs)
section
variable {A : Act γ ι} {e : Env} {g g' g1 : γ} {σ : L2.St} {H H' H0 H1 : Hp}
theorem VOkL.pre (x : ExE A H0 H1) (i : A.G.I g1 H1) {r : List Rv} {v : List V} (h : VOkL A e σ H1 H r v) : VOkL A e σ H0 H r v := by
  induction h with
  | nil => exact .nil
  | cons h _ ih => exact .cons (h.pre x i) ih
theorem VOkL.sto (R : Rep A e g σ H0) {rs : List Rv} {vs : List V} (h : VOkL A e σ H0 H rs vs) : ∀ {ds : List D}, stoL rs = some ds → AtL A.K (Om A e σ) H vs ds := by
  induction h with
  | nil =>
    intro ds hs
    cases hs
    exact .nil
  | @cons r v rs vs h _ ih =>
    intro ds hs
    unfold stoL at hs
    cases e1 : r.sto with
    | none => rw [e1] at hs; cases hs
    | some d =>
      cases e2 : stoL rs with
      | none => rw [e1, e2] at hs; cases hs
      | some es =>
        rw [e1, e2] at hs
        cases hs
        exact .cons (h.sto R e1) (ih e2)
end
abbrev WX := Value → Option Addr → L2.St → Hp → Prop
abbrev W0 : WX := fun _ _ _ _ => False
/-- what is wanted of a result that began at H -/
def RK {α β : Type} (P : Act γ ι → Env → L2.St → Hp → Hp → α → β → Prop) (A : Act γ ι) (W : WX) (e : Env) (σ : L2.St) (H : Hp) (r : Rs γ α) (Q : β → Hp → Prop) : Prop := match r with
  | .ok a g' => ∀ b H', ExE A H H' → A.G.I g' H' → P A e σ H H' a b → Q b H'
  | .ex x g' => ∀ c od H', ExE A H H' → A.G.I g' H' → A.R x c od H' → W c od σ H'
  | .no => False
def RG {α β : Type} (P : Act γ ι → Env → L2.St → Hp → Hp → α → β → Prop) (B : Bs γ ι) (W : WX) (m : Env → γ → Rs γ α) : L2.St → Hp → (β → Hp → Prop) → Prop :=
  fun σ H Q => ∃ (S : Addr → Prop) (e : Env) (g : γ), Rep ⟨B, S⟩ e g σ H ∧ RK P ⟨B, S⟩ W e σ H (m e g) Q
abbrev PB_ : Act γ ι → Env → L2.St → Hp → Hp → Bool → Bool → Prop := fun _ _ _ _ _ a b => a = b
abbrev RE (B : Bs γ ι) (W : WX) (m : ME γ) : TE := RG VOk B W m
abbrev RT (B : Bs γ ι) (W : WX) (m : MT γ) : TT := RG PB_ B W m
abbrev RA (B : Bs γ ι) (W : WX) (m : MA γ) : TA := RG VOkL B W m
theorem RK.bind {α β α' β' : Type} {P : Act γ ι → Env → L2.St → Hp → Hp → α → β → Prop} {P' : Act γ ι → Env → L2.St → Hp → Hp → α' → β' → Prop} {A : Act γ ι} {W : WX} {e : Env} {σ : L2.St} {H H1 : Hp} {m : Rs γ α'} {f : α' → γ → Rs γ α} {Q : β → Hp → Prop} {k : β' → Hp → Prop}
    (x : ExE A H H1) (h : RK P A W e σ H (m.bind f) Q) (hk : ∀ a g1 b H2, ExE A H1 H2 → ExE A H H2 → A.G.I g1 H2 → P' A e σ H1 H2 a b → RK P A W e σ H (f a g1) Q → k b H2) : RK P' A W e σ H1 m k := by
  cases m with
  | no => exact h
  | ex y g => exact fun c od H' x' => h c od H' (x.trans x')
  | ok a g => exact fun b H' x' i p => hk a g b H' x' (x.trans x') i p h
theorem RK.ofO {α β : Type} {P : Act γ ι → Env → L2.St → Hp → Hp → α → β → Prop} {A : Act γ ι} {W : WX} {e : Env} {σ : L2.St} {H : Hp} {o : Option α} {g : γ} {Q : β → Hp → Prop} (h : RK P A W e σ H (PB.ofO o g) Q) :
    ∃ a, o = some a ∧ ∀ b H', ExE A H H' → A.G.I g H' → P A e σ H H' a b → Q b H' := by
  cases o with
  | none => exact h.elim
  | some a => exact ⟨a, rfl, h⟩
end
theorem pe_w {X : Cx} {e : Expr} {t t' : TE} (h : PE X e t) (w : ∀ σ H Q, t' σ H Q → t σ H Q) : PE X e t' := ⟨fun pins s σ H Q I q => h.run pins s σ H Q I (w σ H Q q)⟩
theorem pt_w {X : Cx} {e : Expr} {t t' : TT} (h : PT X e t) (w : ∀ σ H Q, t' σ H Q → t σ H Q) : PT X e t' := ⟨fun pins s σ H Q I q => h.run pins s σ H Q I (w σ H Q q)⟩
theorem pw_w {X : Cx} {e : Expr} {t t' : TT} (h : PW X e t) (w : ∀ σ H Q, t' σ H Q → t σ H Q) : PW X e t' := ⟨fun wh pins s σ H Q I q => h.run wh pins s σ H Q I (w σ H Q q)⟩
theorem pa_w {X : Cx} {e : List Expr} {t t' : TA} (h : PA X e t) (w : ∀ σ H Q, t' σ H Q → t σ H Q) : PA X e t' := ⟨fun pos pins s σ H Q I q => h.run pos pins s σ H Q I (w σ H Q q)⟩
theorem pi_w {X : Cx} {tg e : Expr} {t t' : TI} (h : PI X tg e t) (w : ∀ σ H Q, t' σ H Q → t σ H Q) : PI X tg e t' := ⟨fun pins s σ H Q I q => h.run pins s σ H Q I (w σ H Q q)⟩
theorem ps_w {X : Cx} {e : Stmt} {t t' : TS} (h : PS X e t) (w : ∀ D σ H, t' D σ H → t D σ H) : PS X e t' := ⟨fun pins s σ H D I q => h.run pins s σ H D I (w D σ H q)⟩
theorem pss_w {X : Cx} {e : List Stmt} {t t' : TS} (h : PSs X e t) (w : ∀ D σ H, t' D σ H → t D σ H) : PSs X e t' := ⟨fun pins s σ H D I q => h.run pins s σ H D I (w D σ H q)⟩
theorem OpR.or {X : Cx} {f : Value → Value → Sem Value} {r r' : R2} (h : OpR X f r) (h' : OpR X f r') : OpR X f (fun x y H Q => r x y H Q ∨ r' x y H Q) := by
  intro pins s σ H x y v u Q I rx ry q
  rcases q with q | q
  · exact h pins s σ H x y v u Q I rx ry q
  · exact h' pins s σ H x y v u Q I rx ry q
theorem OpR.w {X : Cx} {f : Value → Value → Sem Value} {r r' : R2} (h : OpR X f r) (w : ∀ x y H Q, r' x y H Q → r x y H Q) : OpR X f r' := fun pins s σ H x y v u Q I rx ry q => h pins s σ H x y v u Q I rx ry (w _ _ _ _ q)
section
variable {γ ι : Type} {B : Bs γ ι} {W : WX} {X : Cx} {pos : Pos}
/-- the heap is as it was, or has one thing more -/
def Nw (H H' : Hp) : Prop := H' = H ∨ ∃ p o, H p = none ∧ H' = upd H p o
theorem Nw.exe {A : Act γ ι} {H H' : Hp} (h : Nw H H') : ExE A H H' := by
  rcases h with rfl | ⟨p, o, h, rfl⟩
  · exact .refl _
  · exact .new h
theorem Nw.gh {G : Gho γ} {g : γ} {H H' : Hp} (h : Nw H H') (i : G.I g H) : G.I g H' := by
  rcases h with rfl | ⟨p, o, h, rfl⟩
  · exact i
  · exact Gho.new i h
/-- what an operation by values is to show -/
def OpS2 (B : Bs γ ι) (f : Op2) (r : R2) : Prop := ∀ (S : Addr → Prop) (e : Env) (g g1 : γ) (σ : L2.St) (H0 H : Hp) (x y z : Rv) (vx vy : V) (Q : VK), Rep ⟨B, S⟩ e g σ H0 → ExE ⟨B, S⟩ H0 H → (B.fam B.i).I g1 H →
  VOk ⟨B, S⟩ e σ H0 H x vx → VOk ⟨B, S⟩ e σ H0 H y vy → f x y = some z → (∀ v H', Nw H H' → VOk ⟨B, S⟩ e σ H0 H' z v → Q v H') → r vx vy H Q
def OpS1 (B : Bs γ ι) (f : Op1) (r : V → Hp → VK → Prop) : Prop := ∀ (S : Addr → Prop) (e : Env) (g g1 : γ) (σ : L2.St) (H0 H : Hp) (x z : Rv) (vx : V) (Q : VK), Rep ⟨B, S⟩ e g σ H0 → ExE ⟨B, S⟩ H0 H → (B.fam B.i).I g1 H →
  VOk ⟨B, S⟩ e σ H0 H x vx → f x = some z → (∀ v H', Nw H H' → VOk ⟨B, S⟩ e σ H0 H' z v → Q v H') → r vx H Q
def OpSN (B : Bs γ ι) (f : OpN) (r : List V → Hp → VK → Prop) : Prop := ∀ (S : Addr → Prop) (e : Env) (g g1 : γ) (σ : L2.St) (H0 H : Hp) (xs : List Rv) (z : Rv) (vs : List V) (Q : VK), Rep ⟨B, S⟩ e g σ H0 → ExE ⟨B, S⟩ H0 H → (B.fam B.i).I g1 H →
  VOkL ⟨B, S⟩ e σ H0 H xs vs → f xs = some z → (∀ v H', Nw H H' → VOk ⟨B, S⟩ e σ H0 H' z v → Q v H') → r vs H Q
theorem re_op2 {f : Op2} {r : R2} (hs : OpS2 B f r) {a b : ME γ} {σ : L2.St} {H : Hp} {Q : VK} (h : RE B W (mOp2 f a b) σ H Q) : tOp r (RE B W a) (RE B W b) σ H Q := by
  obtain ⟨S, e, g, R, h⟩ := h
  refine ⟨S, e, g, R, RK.bind (.refl H) h fun x g1 vx H1 _ x1 i1 o1 h1 => ?_⟩
  refine ⟨S, e, g1, R.exe x1 i1, RK.bind x1 h1 fun y g2 vy H2 x12 x2 i2 o2 h2 => ?_⟩
  obtain ⟨z, ez, q⟩ := h2.ofO
  exact hs S e g g2 σ H H2 x y z vx vy Q R x2 i2 (o1.step R x12) (o2.pre x1 i1) ez fun v H' n o => q v H' (x2.trans n.exe) (n.gh i2) o
theorem re_op1 {f : Op1} {r : V → Hp → VK → Prop} (hs : OpS1 B f r) {a : ME γ} {σ : L2.St} {H : Hp} {Q : VK} (h : RE B W (mOp1 f a) σ H Q) : tUn r (RE B W a) σ H Q := by
  obtain ⟨S, e, g, R, h⟩ := h
  refine ⟨S, e, g, R, RK.bind (.refl H) h fun x g1 vx H1 _ x1 i1 o1 h1 => ?_⟩
  obtain ⟨z, ez, q⟩ := h1.ofO
  exact hs S e g g1 σ H H1 x z vx Q R x1 i1 o1 ez fun v H' n o => q v H' (x1.trans n.exe) (n.gh i1) o
theorem re_opN {f : OpN} {r : List V → Hp → VK → Prop} (hs : OpSN B f r) {a : MA γ} {σ : L2.St} {H : Hp} {Q : VK} (h : RE B W (mOpN f a) σ H Q) : tCB r (RA B W a) σ H Q := by
  obtain ⟨S, e, g, R, h⟩ := h
  refine ⟨S, e, g, R, RK.bind (.refl H) h fun x g1 vx H1 _ x1 i1 o1 h1 => ?_⟩
  obtain ⟨z, ez, q⟩ := h1.ofO
  exact hs S e g g1 σ H H1 x z vx Q R x1 i1 o1 ez fun v H' n o => q v H' (x1.trans n.exe) (n.gh i1) o
/-- names, constants -/
theorem re_var {i : Nat} {σ : L2.St} {H : Hp} {Q : VK} (h : RE B W (mVar i) σ H Q) : tVar i σ H Q := by
  obtain ⟨S, e, g, R, h⟩ := h
  have q := R.sl i
  unfold mVar at h
  cases k : gt e i with
  | un =>
    rw [k] at h
    exact h.elim
  | dat d =>
    rw [k] at h q
    obtain ⟨v, e1, a⟩ := q
    exact ⟨v, e1, h v H (.refl H) R.gh a⟩
  | own ds =>
    rw [k] at h q
    obtain ⟨p, xs, e1, h1, a⟩ := q
    exact ⟨.ref p, e1, h (.ref p) H (.refl H) R.gh ⟨p, xs, rfl, .of k rfl e1, h1, a⟩⟩
  | xc y =>
    rw [k] at h
    exact h.elim
  | gh y =>
    rw [k] at h
    exact h.elim
  | owd t ks vs =>
    rw [k] at h q
    obtain ⟨p, us, e1, h1, a⟩ := q
    exact ⟨.ref p, e1, h (.ref p) H (.refl H) R.gh ⟨p, us, rfl, .of k rfl e1, h1, a⟩⟩
theorem pb_var (i : Nat) {x : Str} (hN : X.N[i]? = some x := by rfl) (hv : Vis X.env.scope x := by first | exact Or.inl rfl | exact Or.inr (Or.inl rfl) | exact Or.inr (Or.inr rfl)) (hd : (x == ("__debug__" : Str)) = false := by decide)
    (hcd : (x == ("__classdict__" : Str)) = false := by decide) : PE X (.Name x pos) (RE B W (mVar i)) := pe_w (pe_var hN hv hd hcd) fun _ _ _ => re_var
theorem re_c {v : V} {d : D} (ha : ∀ O H, At B.K O H v d) {σ : L2.St} {H : Hp} {Q : VK} (h : RE B W (mC d) σ H Q) : tC v σ H Q := by
  obtain ⟨S, e, g, R, h⟩ := h
  exact h v H (.refl H) R.gh (ha _ _)
theorem pb_int {i j} : PE X (.Constant (.int i) j pos) (RE B W (mC (.int i))) := pe_w pe_int fun _ _ _ => re_c fun _ _ => .int i
theorem pb_bl {b j} : PE X (.Constant (.bool b) j pos) (RE B W (mC (.bl b))) := pe_w pe_bl fun _ _ _ => re_c fun _ _ => .bl b
theorem str_mk {s : Str} {l : List Nat} (h : s = mkS l) (h1 : decide (l.length ≤ SZ) = true) (h2 : l.all (· < 0x110000) = true) (K : Frag) (O : Addr → Prop) (H : Hp) : At K O H (.str s) (.str l) := by
  rw [h]
  exact .str l (of_decide_eq_true h1) h2
theorem pb_str {x : Str} {j} (l : List Nat) (h : x = mkS l := by decide +kernel) (h1 : decide (l.length ≤ SZ) = true := by decide +kernel) (h2 : l.all (· < 0x110000) = true := by decide +kernel) : PE X (.Constant (.str x) j pos) (RE B W (mC (.str l))) :=
  pe_w pe_str fun _ _ _ => re_c fun O H => str_mk h h1 h2 _ O H
/-- a module's constant, a def, a class -/
theorem pb_glob {x : Str} {v : V} {u : Value} (d : D) (hg : Gl X x) (hm : X.mg x = some u) (r : RelV v u) (ha : ∀ O H, At B.K O H v d) (hd : (x == ("__debug__" : Str)) = false := by decide) : PE X (.Name x pos) (RE B W (mC d)) :=
  pe_w (pe_glob hg hm r hd) fun _ _ _ => re_c ha
variable {a b c : Expr} {ma mb mc : ME γ}
theorem pb_op {op : Operator} {f : Op2} {r : R2} (ho : OpR X (binaryOp op) r) (hs : OpS2 B f r) (ha : PE X a (RE B W ma)) (hb : PE X b (RE B W mb)) : PE X (.BinOp a op b pos) (RE B W (mOp2 f ma mb)) :=
  pe_w (pe_op ho ha hb) fun _ _ _ => re_op2 hs
theorem pb_un {op : UnaryOp} {f : Op1} {r : V → Hp → VK → Prop} (ho : UnR X (unaryOp op) r) (hs : OpS1 B f r) (ha : PE X a (RE B W ma)) : PE X (.UnaryOp op a pos) (RE B W (mOp1 f ma)) :=
  pe_w (pe_un ho ha) fun _ _ _ => re_op1 hs
theorem pb_cmp {op : CmpOp} {f : Op2} {r : R2} (ho : OpR X (compareOp op) r) (hs : OpS2 B f r) (ha : PE X a (RE B W ma)) (hb : PE X b (RE B W mb)) (hm : behindInMarks op b = false) : PE X (.Compare a [op] [b] pos) (RE B W (mOp2 f ma mb)) :=
  pe_w (pe_cmpR ho ha hb hm) fun _ _ _ => re_op2 hs
theorem pb_ix {f : Op2} {r : R2} (ho : IxR X r) (hs : OpS2 B f r) (ha : PE X a (RE B W ma)) (hb : PE X b (RE B W mb)) (hp : PlainIx b) : PE X (.Subscript a b pos) (RE B W (mOp2 f ma mb)) :=
  pe_w (pe_ix ho ha hb hp) fun _ _ _ => re_op2 hs
end
end PB
set_option Elab.async false
set_option linter.all false
set_option maxRecDepth 100000
set_option maxHeartbeats 4000000
namespace PB
open PySem PySem.Spec PyProof.Rows L2
variable [Kts]
mutual
def toPy : D → PyData
  | .non => .none
  | .bl b => .bool b
  | .int i => .int i
  | .str l => .str (mkS l)
  | .tup ds => .tuple (toPyL ds)
  | .lst ds => .list (toPyL ds)
  | .ref _ => .none
  | .dct _ _ _ => .none
def toPyL : List D → List PyData
  | [] => []
  | d :: ds => toPy d :: toPyL ds
end
theorem mkS_inj {l m : List Nat} (h : mkS l = mkS m) : l = m := by
  have := congrArg (fun s => s.cps.toList) h
  simpa [mkS] using this
theorem mkS_beq (l m : List Nat) : (mkS l == mkS m) = (l == m) := by
  by_cases h : l = m
  · subst h
    simp
  · have h2 : ¬ mkS l = mkS m := fun z => h (mkS_inj z)
    rw [beq_eq_false_iff_ne.mpr h, beq_eq_false_iff_ne.mpr h2]
theorem mkS_len (l : List Nat) : (mkS l).length = l.length := by simp [mkS, Str.length]
theorem mkS_list (l : List Nat) : (mkS l).cps.toList = l := by simp [mkS]
mutual
theorem eqv_toPy : ∀ (x y : D), (∃ n, okE n x = true) → (∃ n, okE n y = true) → PyData.eqv (toPy x) (toPy y) = eqv x y
  | .non, y, _, hy => by cases y <;> first | rfl | (obtain ⟨n, h⟩ := hy; cases n <;> simp [okE] at h)
  | .bl _, y, _, hy => by cases y <;> first | rfl | (obtain ⟨n, h⟩ := hy; cases n <;> simp [okE] at h)
  | .int _, y, _, hy => by cases y <;> first | rfl | (obtain ⟨n, h⟩ := hy; cases n <;> simp [okE] at h)
  | .str _, y, _, hy => by cases y <;> first | rfl | exact mkS_beq _ _ | (obtain ⟨n, h⟩ := hy; cases n <;> simp [okE] at h)
  | .tup xs, y, hx, hy => by
    cases y with
    | tup ys => exact eqvL_toPy xs ys (by obtain ⟨n, h⟩ := hx; cases n <;> simp [okE] at h; exact ⟨_, h⟩) (by obtain ⟨n, h⟩ := hy; cases n <;> simp [okE] at h; exact ⟨_, h⟩)
    | ref _ => obtain ⟨n, h⟩ := hy; cases n <;> simp [okE] at h
    | _ => rfl
  | .lst xs, y, hx, hy => by
    cases y with
    | lst ys => exact eqvL_toPy xs ys (by obtain ⟨n, h⟩ := hx; cases n <;> simp [okE] at h; exact ⟨_, h⟩) (by obtain ⟨n, h⟩ := hy; cases n <;> simp [okE] at h; exact ⟨_, h⟩)
    | ref _ => obtain ⟨n, h⟩ := hy; cases n <;> simp [okE] at h
    | _ => rfl
  | .ref _, _, hx, _ => by obtain ⟨n, h⟩ := hx; cases n <;> simp [okE] at h
theorem eqvL_toPy : ∀ (xs ys : List D), (∃ n, okL n xs = true) → (∃ n, okL n ys = true) → PyData.eqvAll (toPyL xs) (toPyL ys) = eqvL xs ys
  | [], ys, _, _ => by cases ys <;> rfl
  | x :: xs, [], _, _ => rfl
  | x :: xs, y :: ys, hx, hy => by
    obtain ⟨n, hx⟩ := hx
    obtain ⟨m, hy⟩ := hy
    simp only [okL, Bool.and_eq_true] at hx hy
    show (PyData.eqv (toPy x) (toPy y) && PyData.eqvAll (toPyL xs) (toPyL ys)) = (eqv x y && eqvL xs ys)
    rw [eqv_toPy x y ⟨n, hx.1⟩ ⟨m, hy.1⟩, eqvL_toPy xs ys ⟨n, hx.2⟩ ⟨m, hy.2⟩]
end
section
variable {K : Frag} {O : Addr → Prop} {H : Hp}
mutual
theorem dp_of : ∀ {v : V} {d : D} {n : Nat}, At K O H v d → okE n d = true → Dp K H v (toPy d)
  | _, _, _, .non, _ => .non
  | _, _, _, .bl b, _ => .bl b
  | _, _, _, .int i, _ => .int i
  | _, _, _, .str l _ _, _ => .str _
  | _, _, 0, .tup _ _, e => by simp [okE] at e
  | _, _, 0, .lst _ _ _, e => by simp [okE] at e
  | _, _, n + 1, .tup h hs, e => .tup (tup_seq h) (dpL_of hs e)
  | _, _, n + 1, .lst h _ hs, e => .lst (.inl h) (dpL_of hs e)
  | _, _, 0, .ref _, e => by simp [okE] at e
  | _, _, _ + 1, .ref _, e => by simp [okE] at e
theorem dpL_of : ∀ {xs : List V} {ds : List D} {n : Nat}, AtL K O H xs ds → okL n ds = true → DpAll K H xs (toPyL ds)
  | _, _, _, .nil, _ => .nil
  | _, _, n, .cons h hs, e => by
    simp only [okL, Bool.and_eq_true] at e
    exact .cons (dp_of h e.1) (dpL_of hs e.2)
end
mutual
theorem lay_of : ∀ {v : V} {d : D} {n : Nat}, At K O H v d → okE n d = true → (toPy d).canLay0 = true ∧ (toPy d).depth ≤ n
  | _, _, _, .non, _ => ⟨by simp [toPy, PyData.canLay0], by simp [toPy, PyData.depth]⟩
  | _, _, _, .bl b, _ => ⟨by simp [toPy, PyData.canLay0], by simp [toPy, PyData.depth]⟩
  | _, _, _, .int i, _ => ⟨by simp [toPy, PyData.canLay0], by simp [toPy, PyData.depth]⟩
  | _, _, _, .str l _ h, _ => ⟨by
      simp only [toPy, PyData.canLay0, PyData.strOk, mkS]
      first
        | simpa using h
        | (unfold PyData.strOk; simpa using h), by simp [toPy, PyData.depth]⟩
  | _, _, 0, .tup _ _, e => by simp [okE] at e
  | _, _, 0, .lst _ _ _, e => by simp [okE] at e
  | _, _, n + 1, .tup h hs, e => by
    obtain ⟨h1, h2⟩ := layL_of hs e
    exact ⟨by simpa [toPy, PyData.canLay0] using h1, by simp only [toPy, PyData.depth]; omega⟩
  | _, _, n + 1, .lst h _ hs, e => by
    obtain ⟨h1, h2⟩ := layL_of hs e
    exact ⟨by simpa [toPy, PyData.canLay0] using h1, by simp only [toPy, PyData.depth]; omega⟩
  | _, _, 0, .ref _, e => by simp [okE] at e
  | _, _, _ + 1, .ref _, e => by simp [okE] at e
theorem layL_of : ∀ {xs : List V} {ds : List D} {n : Nat}, AtL K O H xs ds → okL n ds = true → PyData.canLayAll0 (toPyL ds) = true ∧ PyData.depthAll (toPyL ds) ≤ n
  | _, _, _, .nil, _ => ⟨by simp [toPyL, PyData.canLayAll0], by simp [toPyL, PyData.depthAll]⟩
  | _, _, n, .cons h hs, e => by
    simp only [okL, Bool.and_eq_true] at e
    obtain ⟨h1, h2⟩ := lay_of h e.1
    obtain ⟨h3, h4⟩ := layL_of hs e.2
    exact ⟨by simp [toPyL, PyData.canLayAll0, h1, h3], by simp only [toPyL, PyData.depthAll]; omega⟩
end
theorem shaped_of {v : V} {d : D} {n : Nat} (h : At K O H v d) (e : okE n d = true) (hn : n ≤ 64) : SeqAt.shaped (toPy d) = true := by
  obtain ⟨h1, h2⟩ := lay_of h e
  unfold SeqAt.shaped
  rw [h1, decide_eq_true (by omega)]
  rfl
end
theorem szle {n : Nat} (h : n ≤ SZ) : n ≤ sizeLine := by
  rw [sizeLine_eq]
  exact h
theorem szlt {n : Nat} (h : n < SZ) : n < sizeLine := by
  rw [sizeLine_eq]
  exact h
theorem ixN_eq (n : Nat) (i : Int) : PB.ixN n i = L2.ixN n i := rfl
theorem AtL.atI {K : Frag} {O : Addr → Prop} {H : Hp} {xs : List V} {ds : List D} {i : Int} {d : D} (h : AtL K O H xs ds) (e : PB.atI ds i = some d) : ∃ v, L2.atI xs i = some v ∧ At K O H v d := by
  unfold PB.atI at e
  unfold L2.atI
  rw [h.length]
  rw [ixN_eq] at e
  cases q : L2.ixN ds.length i with
  | none =>
    rw [q] at e
    cases e
  | some j =>
    rw [q] at e
    exact h.get (by simpa using e)
section
variable {X : Cx}
theorem lstR {pins : List (Addr × Obj)} {σ : L2.St} {H : Hp} {s : Shared} {a : Addr} {xs : List V} (I : Inv X pins σ H s) (h : Rd H a (.lst xs)) :
    xs.length ≤ sizeLine ∧ ∃ (its : List Value) (n : Nat), Vals xs its ∧ xs.length = its.length ∧ s.heap.get? a = some { cls := .type "list", data := .seq its.toArray n } := by
  obtain ⟨z, its, n, r, e⟩ := (show ObjOk X.prog X.w H s.heap a (.lst xs) from Rd.ok h I.hok)
  exact ⟨z, its, n, r, r.length, e⟩
def rCatR : R2 := fun x y H Q => ∃ l b xs zs, x = .ref l ∧ y = .ref b ∧ Rd H l (.lst xs) ∧ Rd H b (.lst zs) ∧ xs.length + zs.length ≤ sizeLine ∧ ∀ p, H p = none → Q (.ref p) (upd H p (.lst (xs ++ zs)))
theorem op_catR : OpR X (binaryOp .Add) rCatR := by
  intro pn s0 σ0 H0 va vb ua ub Q I ra rb hyp
  obtain ⟨pa, pb, la, lb, rfl, rfl, h1, h2, hsz, hq⟩ := hyp
  cases ra
  cases rb
  obtain ⟨_, ia, ka, r1, n1, g1⟩ := lstR I h1
  obtain ⟨_, ib, kb, r2, n2, g2⟩ := lstR I h2
  have hl : ia.length + ib.length ≤ sizeLine := by omega
  have e0 : ia.toArray ++ ib.toArray = (ia ++ ib).toArray := by simp
  refine PySem.P.add_list g1 g2 ?_ (by simpa using hl)
  rw [e0]
  exact ⟨.ref _, _, I.lnew (t' := s0.toks) (r1.append r2) (by rw [List.length_append, n1, n2]; exact hl), rfl, hq _ I.fresh⟩
end
section
variable {γ ι : Type} {B : Bs γ ι} {X : Cx}
theorem os_add : OpS2 B oAdd (fun x y H Q => rI0 (fun i j => .int (i + j)) x y H Q ∨ (∃ i j, x = .str i ∧ y = .str j ∧ i.length + j.length ≤ sizeLine ∧ Q (.str (i ++ j)) H) ∨ rCatA B.K x y H Q ∨ rCatR x y H Q) := by
  intro S e g g1 σ H0 H x y z vx vy Q R x0 i1 ox oy hz hq
  unfold oAdd at hz
  split at hz
  · rename_i i j
    cases hz
    cases ox
    cases oy
    exact .inl ⟨i, j, rfl, rfl, hq _ H (.inl rfl) (.int _)⟩
  · rename_i s t
    split at hz
    · rename_i hl
      cases hz
      cases ox with
      | str _ h1 h2 =>
      cases oy with
      | str _ h3 h4 =>
      refine .inr (.inl ⟨mkS s, mkS t, rfl, rfl, by rw [mkS_len, mkS_len]; exact szle hl, ?_⟩)
      have ee : mkS s ++ mkS t = mkS (s ++ t) := by
        apply TL.ext_tl
        rw [TL.tl_append]
        rfl
      rw [ee]
      refine hq _ H (.inl rfl) (.str _ (by simpa using hl) ?_)
      rw [List.all_append, h2, h4]
      rfl
    · cases hz
  · rename_i s t
    split at hz
    · rename_i hl
      cases hz
      have oxc := ox
      have oyc := oy
      cases ox with
      | @tup a xs _ h1 h2 =>
      cases oy with
      | @tup b ys _ h3 h4 =>
      refine .inr (.inr (.inl ⟨a, b, xs, ys, rfl, rfl, tup_seq h1, tup_seq h3, by rw [h2.length, h4.length]; exact szle hl, fun ex => ?_, fun _ ey => ?_, fun _ _ p hp => ?_⟩))
      · subst ex
        cases h2
        exact hq _ H (.inl rfl) oyc
      · subst ey
        cases h4
        refine hq _ H (.inl rfl) ?_
        show At _ _ _ _ _
        rw [List.append_nil]
        exact oxc
      · exact hq _ _ (.inr ⟨p, _, hp, rfl⟩) (At.mkT R x0 i1 (h2.app h4) hp)
    · cases hz
  · split at hz
    · rename_i s t hs ht
      split at hz
      · rename_i hl
        cases hz
        obtain ⟨p, xs, rfl, hp, ap⟩ := ox.items R hs
        obtain ⟨q, ys, rfl, hq', aq⟩ := oy.items R ht
        refine .inr (.inr (.inr ⟨p, q, xs, ys, rfl, rfl, hp, hq', by rw [ap.length, aq.length]; exact szle hl, fun l hl => ?_⟩))
        exact hq _ _ (.inr ⟨l, _, hl, rfl⟩) (VOk.mk x0 i1 (ap.app aq) hl)
      · cases hz
    · cases hz
theorem or_add (hK : B.K = X.K) : OpR X (binaryOp .Add) (fun x y H Q => rI0 (fun i j => .int (i + j)) x y H Q ∨ (∃ i j, x = .str i ∧ y = .str j ∧ i.length + j.length ≤ sizeLine ∧ Q (.str (i ++ j)) H) ∨ rCatA B.K x y H Q ∨ rCatR x y H Q) := by
  rw [hK]
  exact OpR.or op_add (OpR.or op_add_str (OpR.or op_catA op_catR))
theorem os_I0 {g : Int → Int → Int} {f : Op2} (hf : ∀ x y z, f x y = some z → ∃ i j, x = .dat (.int i) ∧ y = .dat (.int j) ∧ z = .dat (.int (g i j))) : OpS2 B f (rI0 fun i j => .int (g i j)) := by
  intro S e g' g1 σ H0 H x y z vx vy Q R x0 i1 ox oy hz hq
  obtain ⟨i, j, rfl, rfl, rfl⟩ := hf x y z hz
  cases ox
  cases oy
  exact ⟨i, j, rfl, rfl, hq _ H (.inl rfl) (.int _)⟩
theorem os_IB {g : Int → Int → Bool} {f : Op2} (hf : ∀ x y z, f x y = some z → ∃ i j, x = .dat (.int i) ∧ y = .dat (.int j) ∧ z = .dat (.bl (g i j))) : OpS2 B f (rI0 fun i j => .bl (g i j)) := by
  intro S e g' g1 σ H0 H x y z vx vy Q R x0 i1 ox oy hz hq
  obtain ⟨i, j, rfl, rfl, rfl⟩ := hf x y z hz
  cases ox
  cases oy
  exact ⟨i, j, rfl, rfl, hq _ H (.inl rfl) (.bl _)⟩
theorem os_I {C : Int → Int → Prop} {g : Int → Int → Int} {f : Op2} (hf : ∀ x y z, f x y = some z → ∃ i j, x = .dat (.int i) ∧ y = .dat (.int j) ∧ C i j ∧ z = .dat (.int (g i j))) : OpS2 B f (rI C fun i j => .int (g i j)) := by
  intro S e g' g1 σ H0 H x y z vx vy Q R x0 i1 ox oy hz hq
  obtain ⟨i, j, rfl, rfl, c, rfl⟩ := hf x y z hz
  cases ox
  cases oy
  exact ⟨i, j, rfl, rfl, c, hq _ H (.inl rfl) (.int _)⟩
theorem os_sub : OpS2 B oSub (rI0 fun i j => .int (i - j)) := os_I0 fun x y z h => by
  unfold oSub at h
  split at h
  · cases h
    exact ⟨_, _, rfl, rfl, rfl⟩
  · cases h
theorem os_mul : OpS2 B oMul (rI CMulW fun i j => .int (i * j)) := os_I fun x y z h => by
  unfold oMul at h
  split at h
  · split at h
    · rename_i c
      cases h
      exact ⟨_, _, rfl, rfl, c, rfl⟩
    · cases h
  · cases h
theorem os_div : OpS2 B oDiv (rI CDivW fun i j => .int (i / j)) := os_I fun x y z h => by
  unfold oDiv at h
  split at h
  · split at h
    · rename_i c
      cases h
      exact ⟨_, _, rfl, rfl, c, rfl⟩
    · cases h
  · cases h
theorem os_mod : OpS2 B oMod (rI (fun _ j => 0 < j) fun i j => .int (i % j)) := os_I fun x y z h => by
  unfold oMod at h
  split at h
  · split at h
    · rename_i c
      cases h
      exact ⟨_, _, rfl, rfl, c, rfl⟩
    · cases h
  · cases h
theorem os_pow : OpS2 B oPow (rI CPow fun i j => .int (i ^ j.toNat)) := os_I fun x y z h => by
  unfold oPow at h
  split at h
  · split at h
    · rename_i c
      cases h
      exact ⟨_, _, rfl, rfl, c, rfl⟩
    · cases h
  · cases h
theorem os_neg : OpS1 B oNeg (rU fun i => .int (-i)) := by
  intro S e g g1 σ H0 H x z vx Q R x0 i1 ox hz hq
  unfold oNeg at hz
  split at hz
  · cases hz
    cases ox
    exact ⟨_, rfl, hq _ H (.inl rfl) (.int _)⟩
  · cases hz
theorem or_lt : OpR X (compareOp .Lt) (rI0 fun i j => .bl (decide (i < j))) := opB0 fun _ _ _ _ _ _ _ q => lt_int q
theorem or_gt : OpR X (compareOp .Gt) (rI0 fun i j => .bl (decide (j < i))) := opB0 fun _ _ _ _ _ _ _ q => gt_int q
theorem or_ge : OpR X (compareOp .GtE) (rI0 fun i j => .bl (decide (j ≤ i))) := opB0 fun _ _ _ _ _ _ _ q => ge_int q
theorem os_lt : OpS2 B oLt (rI0 fun i j => .bl (decide (i < j))) := os_IB fun x y z h => by
  unfold oLt at h
  split at h
  · cases h
    exact ⟨_, _, rfl, rfl, rfl⟩
  · cases h
theorem os_gt : OpS2 B oGt (rI0 fun i j => .bl (decide (j < i))) := os_IB fun x y z h => by
  unfold oGt at h
  split at h
  · cases h
    exact ⟨_, _, rfl, rfl, rfl⟩
  · cases h
theorem os_eq : OpS2 B oEq (rEqD B.K) := by
  intro S e g g1 σ H0 H x y z vx vy Q R x0 i1 ox oy hz hq
  unfold oEq eqD at hz
  split at hz
  · rename_i c
    cases hz
    have ax := ox.weak R
    have ay := oy.weak R
    refine ⟨_, _, dp_of ax c.1, dp_of ay c.2, shaped_of ax c.1 (by omega), shaped_of ay c.2 (by omega), ?_⟩
    rw [eqv_toPy _ _ ⟨_, c.1⟩ ⟨_, c.2⟩]
    exact hq _ H (.inl rfl) (.bl _)
  · cases hz
theorem os_ne : OpS2 B oNe (rNeD B.K) := by
  intro S e g g1 σ H0 H x y z vx vy Q R x0 i1 ox oy hz hq
  unfold oNe eqD at hz
  split at hz
  · rename_i c
    cases hz
    have ax := ox.weak R
    have ay := oy.weak R
    refine ⟨_, _, dp_of ax c.1, dp_of ay c.2, shaped_of ax c.1 (by omega), shaped_of ay c.2 (by omega), ?_⟩
    rw [eqv_toPy _ _ ⟨_, c.1⟩ ⟨_, c.2⟩]
    exact hq _ H (.inl rfl) (.bl _)
  · cases hz
theorem or_eq (hK : B.K = X.K) (hu : X.A.units + 64 < cLine) : OpR X (compareOp .Eq) (rEqD B.K) := by
  rw [hK]
  exact op_eqD hu
theorem or_ne (hK : B.K = X.K) (hu : X.A.units + 64 < cLine) : OpR X (compareOp .NotEq) (rNeD B.K) := by
  rw [hK]
  exact op_neD hu
theorem os_ix : OpS2 B oIx (rIx B.K) := by
  intro S e g g1 σ H0 H x y z vx vy Q R x0 i1 ox oy hz hq
  unfold oIx at hz
  split at hz
  · rename_i ds i
    cases oy
    cases ox with
    | @tup a xs _ h1 h2 =>
    cases k : PB.atI ds i with
    | none =>
      rw [k] at hz
      cases hz
    | some d =>
      rw [k] at hz
      cases hz
      obtain ⟨v, e1, a1⟩ := h2.atI k
      exact .inr (.inl ⟨a, xs, i, v, rfl, rfl, tup_seq h1, e1, hq _ H (.inl rfl) a1⟩)
  · rename_i s i
    cases oy
    cases ox with
    | str _ h1 h2 =>
    cases k : PB.atI s i with
    | none =>
      rw [k] at hz
      cases hz
    | some c =>
      rw [k] at hz
      cases hz
      refine .inr (.inr ⟨mkS s, i, c, rfl, rfl, by rw [mkS_len]; exact szle h1, by rw [mkS_list]; exact k, hq _ H (.inl rfl) (At.str [c] (by show 1 ≤ 16777216; omega) ?_)⟩)
      have hm : c ∈ s := by
        unfold PB.atI at k
        cases q : PB.ixN s.length i with
        | none =>
          rw [q] at k
          cases k
        | some j =>
          rw [q] at k
          exact List.mem_of_getElem? (by simpa using k)
      rw [List.all_eq_true] at h2
      rw [List.all_cons, h2 c hm]
      rfl
  · split at hz
    · rename_i ds hs
      obtain ⟨p, xs, rfl, hp, ap⟩ := ox.items R hs
      cases oy
      rename_i i _ _ _
      cases k : PB.atI ds i with
      | none =>
        rw [k] at hz
        cases hz
      | some d =>
        rw [k] at hz
        cases hz
        obtain ⟨v, e1, a1⟩ := ap.atI k
        exact .inl ⟨p, xs, i, v, rfl, rfl, (.inl hp), e1, hq _ H (.inl rfl) a1⟩
    · cases hz
  · cases hz
theorem ir_ix (hK : B.K = X.K) : IxR X (rIx B.K) := by
  rw [hK]
  exact ix_seq
theorem os_len : OpSN B oLen (fun xs H Q => ∃ x n, xs = [x] ∧ LenV B.K x H n ∧ Q (.int n) H) := by
  intro S e g g1 σ H0 H xs z vs Q R x0 i1 os hz hq
  unfold oLen at hz
  split at hz
  · cases hz
    cases os with
    | cons o os =>
    cases os
    cases o with
    | str _ h1 h2 => exact ⟨_, _, rfl, ⟨by rw [mkS_len]; exact szle h1, (mkS_len _).symm⟩, hq _ H (.inl rfl) (.int _)⟩
  · cases hz
    cases os with
    | cons o os =>
    cases os
    cases o with
    | @tup a ys _ h1 h2 => exact ⟨_, _, rfl, .inr ⟨ys, tup_seq h1, h2.length.symm⟩, hq _ H (.inl rfl) (.int _)⟩
  · rename_i x _ _
    cases k : x.items with
    | none =>
      rw [k] at hz
      cases hz
    | some ds =>
      rw [k] at hz
      cases hz
      cases os with
      | cons o os =>
      cases os
      obtain ⟨p, ys, rfl, hp, ap⟩ := o.items R k
      exact ⟨_, ds.length, rfl, .inl ⟨ys, (.inl hp), ap.length.symm⟩, hq _ H (.inl rfl) (.int _)⟩
  · cases hz
theorem cl_len (hK : B.K = X.K) : CallR X (.builtin "len") (fun xs H Q => ∃ x n, xs = [x] ∧ LenV B.K x H n ∧ Q (.int n) H) := by
  rw [hK]
  exact call_len
theorem os_max2 : OpSN B oMax2 (fun xs H Q => ∃ i j, xs = [.int i, .int j] ∧ Q (.int (if j > i then j else i)) H) := by
  intro S e g g1 σ H0 H xs z vs Q R x0 i1 os hz hq
  unfold oMax2 at hz
  split at hz
  · cases hz
    cases os with
    | cons o os =>
    cases os with
    | cons o2 os =>
    cases os
    cases o
    cases o2
    exact ⟨_, _, rfl, hq _ H (.inl rfl) (.int _)⟩
  · cases hz
theorem os_min2 : OpSN B oMin2 (fun xs H Q => ∃ i j, xs = [.int i, .int j] ∧ Q (.int (if j < i then j else i)) H) := by
  intro S e g g1 σ H0 H xs z vs Q R x0 i1 os hz hq
  unfold oMin2 at hz
  split at hz
  · cases hz
    cases os with
    | cons o os =>
    cases os with
    | cons o2 os =>
    cases os
    cases o
    cases o2
    exact ⟨_, _, rfl, hq _ H (.inl rfl) (.int _)⟩
  · cases hz
theorem os_sum : OpSN B oSum (rSum B.K) := by
  intro S e g g1 σ H0 H xs z vs Q R x0 i1 os hz hq
  unfold oSum at hz
  split at hz
  · split at hz
    · rename_i ds k
      cases e2 : dInts ds with
      | none =>
        rw [e2] at hz
        cases hz
      | some ns =>
        rw [e2] at hz
        cases hz
        cases os with
        | cons o os =>
        cases os
        obtain ⟨p, ys, rfl, hp, ap⟩ := o.items R k
        rw [ap.dInts e2] at hp
        exact ⟨p, ns, rfl, (.inl hp), hq _ H (.inl rfl) (.int _)⟩
    · cases hz
  · cases hz
theorem lmin_mem : ∀ (n : Int) (ns : List Int), lmin n ns ∈ n :: ns ∧ ∀ y ∈ n :: ns, lmin n ns ≤ y
  | n, [] => by simp [lmin]
  | n, x :: xs => by
    obtain ⟨h1, h2⟩ := lmin_mem (if x < n then x else n) xs
    unfold lmin
    have h3 := h2 _ List.mem_cons_self
    have h4 : (if x < n then x else n) ≤ n ∧ (if x < n then x else n) ≤ x := by split <;> omega
    refine ⟨?_, fun y hy => ?_⟩
    · rcases List.mem_cons.mp h1 with h | h
      · rw [h]
        split <;> simp
      · simp [h]
    · rcases List.mem_cons.mp hy with e | hy
      · rw [e]
        exact Int.le_trans h3 h4.1
      · rcases List.mem_cons.mp hy with e | hy
        · rw [e]
          exact Int.le_trans h3 h4.2
        · exact h2 _ (List.mem_cons_of_mem _ hy)
theorem os_all : OpSN B oAll (rAll B.K) := by
  intro S e g g1 σ H0 H xs z vs Q R x0 i1 os hz hq
  unfold oAll at hz
  split at hz
  · split at hz
    · rename_i ds k
      cases e2 : dBls ds with
      | none =>
        rw [e2] at hz
        cases hz
      | some ns =>
        rw [e2] at hz
        cases hz
        cases os with
        | cons o os =>
        cases os
        obtain ⟨p, ys, rfl, hp, ap⟩ := o.items R k
        rw [ap.dBls e2] at hp
        exact ⟨p, ns, rfl, (.inl hp), hq _ H (.inl rfl) (.bl _)⟩
    · cases hz
  · cases hz
theorem os_tuple : OpSN B oTuple (fun xs H Q => ∃ p ys, xs = [.ref p] ∧ ((SqL B.K H p ys ∧ ∀ l, H l = none → Q (.ref l) (upd H l (.tup ys))) ∨ (SqT B.K H p ys ∧ Q (.ref p) H))) := by
  intro S e g g1 σ H0 H xs z vs Q R x0 i1 os hz hq
  unfold oTuple at hz
  split at hz
  · cases hz
    cases os with
    | cons o os =>
    cases os
    have oc := o
    cases o with
    | @tup a ys ds h1 h2 => exact ⟨a, ys, rfl, .inr ⟨tup_seq h1, hq _ H (.inl rfl) oc⟩⟩
  · rename_i x _
    cases k : x.items with
    | none =>
      rw [k] at hz
      cases hz
    | some ds =>
      rw [k] at hz
      cases hz
      cases os with
      | cons o os =>
      cases os
      obtain ⟨p, ys, rfl, hp, ap⟩ := o.items R k
      exact ⟨p, ys, rfl, .inl ⟨(.inl hp), fun l hl => hq _ _ (.inr ⟨l, _, hl, rfl⟩) (At.mkT R x0 i1 ap hl)⟩⟩
  · cases hz
theorem os_int : OpSN B oInt (fun xs H Q => (∃ i, xs = [.int i] ∧ Q (.int i) H) ∨ ∃ k, xs = [.bl k] ∧ Q (.int (if k then 1 else 0)) H) := by
  intro S e g g1 σ H0 H xs z vs Q R x0 i1 os hz hq
  unfold oInt at hz
  split at hz
  · cases hz
    cases os with
    | cons o os =>
    cases os
    cases o
    exact .inl ⟨_, rfl, hq _ H (.inl rfl) (.int _)⟩
  · cases hz
    cases os with
    | cons o os =>
    cases os
    cases o
    exact .inr ⟨_, rfl, hq _ H (.inl rfl) (.int _)⟩
  · cases hz
theorem cl_sum (hK : B.K = X.K) (hc : X.calm = true) : CallR X (.builtin "sum") (rSum B.K) := by
  rw [hK]
  exact cr_sum hc
theorem cl_all (hK : B.K = X.K) (hc : X.calm = true) : CallR X (.builtin "all") (rAll B.K) := by
  rw [hK]
  exact cr_all hc
theorem cl_tuple (hK : B.K = X.K) : CallR X (.type "tuple") (fun xs H Q => ∃ p ys, xs = [.ref p] ∧ ((SqL B.K H p ys ∧ ∀ l, H l = none → Q (.ref l) (upd H l (.tup ys))) ∨ (SqT B.K H p ys ∧ Q (.ref p) H))) := by
  rw [hK]
  exact call_tuple_of
end
end PB
set_option Elab.async false
set_option linter.all false
set_option maxRecDepth 100000
set_option maxHeartbeats 4000000
namespace PB
open PySem PySem.Spec PyProof.Rows L2
variable [Kts]
section
variable {γ ι : Type} {B : Bs γ ι} {W : WX} {X : Cx} {pos : Pos} {a b c e : Expr} {es : List Expr} {ma mb mc : ME γ} {mr : MA γ} {ta tb tc : MT γ}
theorem pb_nil : PA X [] (RA B W mNil) := pa_w pa_nil fun σ H Q ⟨S, e, g, R, h⟩ => h [] H (.refl H) R.gh .nil
theorem pb_cons (ha : PE X e (RE B W ma)) (hr : PA X es (RA B W mr)) (hs : starEach (e :: es) X.env = (false, eval e X.env) :: starEach es X.env := by rfl) : PA X (e :: es) (RA B W (mCons ma mr)) := by
  refine pa_w (pa_cons ha hr hs) fun σ H Q ⟨S, e, g, R, h⟩ => ?_
  refine ⟨S, e, g, R, RK.bind (.refl H) h fun x g1 vx H1 _ x1 i1 o1 h1 => ?_⟩
  refine ⟨S, e, g1, R.exe x1 i1, RK.bind x1 h1 fun y g2 vy H2 x12 x2 i2 o2 h2 => ?_⟩
  exact h2 (vx :: vy) H2 x2 i2 (.cons (o1.step R x12) (o2.pre x1 i1))
theorem pb_tup {x1} (h : PA X es (RA B W mr)) : PE X (.Tuple es x1 pos) (RE B W (mTup mr)) := by
  refine pe_w (pe_tup h) fun σ H Q ⟨S, e, g, R, h⟩ => ?_
  refine ⟨S, e, g, R, RK.bind (.refl H) h fun x g1 vx H1 _ x1 i1 o1 h1 => ?_⟩
  split at h1
  · rename_i ds hs
    split at h1
    · rename_i hl
      have al := o1.sto R hs
      exact ⟨by rw [al.length]; exact szle hl, fun p hp => h1 _ _ (x1.trans (.new hp)) (Gho.new i1 hp) (At.mkT R x1 i1 al hp)⟩
    · exact h1.elim
  · exact h1.elim
theorem pb_lst (h : PA X es (RA B W mr)) : PE X (.List es pos) (RE B W (mLst mr)) := by
  refine pe_w (pe_lst h) fun σ H Q ⟨S, e, g, R, h⟩ => ?_
  refine ⟨S, e, g, R, RK.bind (.refl H) h fun x g1 vx H1 _ x1 i1 o1 h1 => ?_⟩
  split at h1
  · rename_i ds hs
    split at h1
    · rename_i hl
      have al := o1.sto R hs
      exact ⟨by rw [al.length]; exact szle hl, fun p hp => h1 _ _ (x1.trans (.new hp)) (Gho.new i1 hp) (VOk.mk x1 i1 al hp)⟩
    · exact h1.elim
  · exact h1.elim
/-- a built-in function by its name -/
theorem pb_cb {x : Str} {p : Pos} {id : String} {f : OpN} {r : List V → Hp → VK → Prop} (hc : CallR X (.builtin id) r) (hs : OpSN B f r) (hg : Gl X x) (hm : X.mg x = none) (hv : bootBuiltins x = some (.builtin id)) (ha : PA X (e :: es) (RA B W mr)) (hn : x ≠ "__name__" := by decide) (hdb : (x == ("__debug__" : Str)) = false := by decide)
    (he : starEach (e :: es) X.env = (false, eval e X.env) :: starEach es X.env := by rfl) (hpl : (backTo pos (starEach es X.env)).any (·.1) = false := by rfl) : PE X (.Call (.Name x p) (e :: es) [] pos) (RE B W (mOpN f mr)) :=
  pe_w (pe_callB hc hg hm hv ha hn hdb he hpl) fun _ _ _ => re_opN hs
theorem pb_ct {x : Str} {p : Pos} {T : String} {f : OpN} {r : List V → Hp → VK → Prop} (hc : CallR X (.type T) r) (hs : OpSN B f r) (hg : Gl X x) (hm : X.mg x = none) (hv : bootBuiltins x = some (.type T)) (ha : PA X (e :: es) (RA B W mr)) (hn : x ≠ "__name__" := by decide) (hdb : (x == ("__debug__" : Str)) = false := by decide)
    (he : starEach (e :: es) X.env = (false, eval e X.env) :: starEach es X.env := by rfl) (hpl : (backTo pos (starEach es X.env)).any (·.1) = false := by rfl) : PE X (.Call (.Name x p) (e :: es) [] pos) (RE B W (mOpN f mr)) :=
  pe_w (pe_callTy hc hg hm hv ha hn hdb he hpl) fun _ _ _ => re_opN hs
/-- going on from a later heap -/
theorem RK.late {A : Act γ ι} {e : Env} {g1 : γ} {σ : L2.St} {H H1 : Hp} {r : Rs γ Rv} {Q : VK} (x1 : ExE A H H1) (i1 : A.G.I g1 H1) (h : RK VOk A W e σ H r Q) : RK VOk A W e σ H1 r Q := by
  cases r with
  | no => exact h
  | ex y g => exact fun c od H' x' => h c od H' (x1.trans x')
  | ok y g => exact fun v H' x' i o => h v H' (x1.trans x') i (o.pre x1 i1)
theorem RK.lateB {A : Act γ ι} {e : Env} {σ : L2.St} {H H1 : Hp} {r : Rs γ Bool} {Q : Bool → Hp → Prop} (x1 : ExE A H H1) (h : RK PB_ A W e σ H r Q) : RK PB_ A W e σ H1 r Q := by
  cases r with
  | no => exact h
  | ex y g => exact fun c od H' x' => h c od H' (x1.trans x')
  | ok y g => exact fun v H' x' i o => h v H' (x1.trans x') i o
theorem pb_one {op} (h : PE X a (RE B W ma)) : PE X (.BoolOp op [a] pos) (RE B W ma) := pe_one h
theorem pb_andV {rest : List Expr} (ha : PE X a (RE B W ma)) (hb : PE X (.BoolOp .And (b :: rest) pos) (RE B W mb)) : PE X (.BoolOp .And (a :: b :: rest) pos) (RE B W (mAndV ma mb)) := by
  refine pe_w (pe_and ha hb) fun σ H Q ⟨S, e, g, R, h⟩ => ?_
  refine ⟨S, e, g, R, RK.bind (.refl H) h fun x g1 vx H1 _ x1 i1 o1 h1 => ?_⟩
  split at h1
  · cases o1
    refine ⟨true, rfl, ?_⟩
    rw [if_pos rfl]
    exact ⟨S, e, g1, R.exe x1 i1, h1.late x1 i1⟩
  · cases o1
    refine ⟨false, rfl, ?_⟩
    rw [if_neg Bool.false_ne_true]
    exact h1 _ H1 x1 i1 (.bl _)
  · exact h1.elim
theorem pb_notV (ha : PE X a (RE B W ma)) : PE X (.UnaryOp .Not a pos) (RE B W (mNotV ma)) := by
  refine pe_w (pe_not ha) fun σ H Q ⟨S, e, g, R, h⟩ => ?_
  refine ⟨S, e, g, R, RK.bind (.refl H) h fun x g1 vx H1 _ x1 i1 o1 h1 => ?_⟩
  split at h1
  · cases o1
    exact ⟨_, rfl, h1 _ H1 x1 i1 (.bl _)⟩
  · exact h1.elim
theorem rt_test {σ : L2.St} {H : Hp} {Q : Bool → Hp → Prop} (h : RT B W (mTest ma) σ H Q) : RE B W ma σ H fun x H' => ∃ k, x = .bl k ∧ Q k H' := by
  obtain ⟨S, e, g, R, h⟩ := h
  refine ⟨S, e, g, R, RK.bind (.refl H) h fun x g1 vx H1 _ x1 i1 o1 h1 => ?_⟩
  split at h1
  · cases o1
    exact ⟨_, rfl, h1 _ H1 x1 i1 rfl⟩
  · exact h1.elim
/-- any expression that comes to a truth, as a test -/
theorem pb_val (h : PE X a (RE B W ma)) (he : ∀ whole, isTrue a X.env whole = (do let v ← whole; standAt a.pos; holding [v] (truthy v)) := by intro _; rfl) : PT X a (RT B W (mTest ma)) := pt_w (pt_val h he) fun _ _ _ => rt_test
/-- a comparison as a test -/
theorem pb_tcmp {op : CmpOp} {f : Op2} {r : R2} (ho : OpR X (compareOp op) r) (hs : OpS2 B f r) (ha : PE X a (RE B W ma)) (hb : PE X b (RE B W mb)) (hm : behindInMarks op b = false) : PT X (.Compare a [op] [b] pos) (RT B W (mTest (mOp2 f ma mb))) := by
  refine pt_w (pt_cmpR ho ha hb hm) fun σ H Q h => ?_
  have h' := rt_test h
  exact re_op2 hs h'
theorem tru_of {A : Act γ ι} {e : Env} {g g1 : γ} {σ : L2.St} {H0 H : Hp} (R : Rep A e g σ H0) {x : Rv} {v : V} {k : Bool} (o : VOk A e σ H0 H x v) (h : oTru x = some k) : TruV A.K v H k := by
  unfold oTru at h
  split at h
  · cases h
    cases o
    exact rfl
  · cases h
    cases o
    exact rfl
  · cases h
    cases o
    exact rfl
  · rename_i s
    cases h
    cases o with
    | str _ h1 h2 =>
    refine ⟨by rw [mkS_len]; exact szle h1, ?_⟩
    rw [mkS_len]
    cases s with
    | nil => rfl
    | cons c r =>
      rw [Bool.eq_iff_iff]
      simp
      omega
  · cases h
    cases o with
    | @tup a xs _ h1 h2 =>
    refine .inr (.inl ⟨xs, tup_seq h1, ?_⟩)
    cases h2 <;> rfl
  · cases h
  · obtain ⟨ds, k2, ek⟩ := Option.map_eq_some_iff.mp h
    obtain ⟨p, ys, rfl, hp, ap⟩ := o.items R k2
    refine .inl ⟨ys, (.inl hp), ?_⟩
    rw [← ek]
    cases ap <;> rfl
theorem pb_tru (hK : B.K = X.K) (ha : PE X a (RE B W ma)) (he : ∀ whole, isTrue a X.env whole = (do let v ← whole; standAt a.pos; holding [v] (truthy v)) := by intro _; rfl) : PT X a (RT B W (mTru ma)) := by
  refine pt_w (pt_truth ha he) fun σ H Q ⟨S, e, g, R, h⟩ => ?_
  refine ⟨S, e, g, R, RK.bind (.refl H) h fun x g1 vx H1 _ x1 i1 o1 h1 => ?_⟩
  obtain ⟨k, ek, q⟩ := h1.ofO
  refine ⟨k, ?_, q k H1 x1 i1 rfl⟩
  rw [← hK]
  exact tru_of (g1 := g1) R o1 ek
theorem rt_and {σ : L2.St} {H : Hp} {Q : Bool → Hp → Prop} (h : RT B W (mAnd ta tb) σ H Q) : tAnd (RT B W ta) (RT B W tb) σ H Q := by
  obtain ⟨S, e, g, R, h⟩ := h
  refine ⟨S, e, g, R, RK.bind (.refl H) h fun x g1 vx H1 _ x1 i1 o1 h1 => ?_⟩
  cases o1
  cases x with
  | true =>
    rw [if_pos rfl]
    exact ⟨S, e, g1, R.exe x1 i1, RK.lateB x1 h1⟩
  | false =>
    rw [if_neg Bool.false_ne_true]
    exact h1 _ H1 x1 i1 rfl
theorem rt_or {σ : L2.St} {H : Hp} {Q : Bool → Hp → Prop} (h : RT B W (mOr ta tb) σ H Q) : tOr (RT B W ta) (RT B W tb) σ H Q := by
  obtain ⟨S, e, g, R, h⟩ := h
  refine ⟨S, e, g, R, RK.bind (.refl H) h fun x g1 vx H1 _ x1 i1 o1 h1 => ?_⟩
  cases o1
  cases x with
  | false =>
    rw [if_neg Bool.false_ne_true]
    exact ⟨S, e, g1, R.exe x1 i1, RK.lateB x1 h1⟩
  | true =>
    rw [if_pos rfl]
    exact h1 _ H1 x1 i1 rfl
theorem pb_and1 (ha : PT X a (RT B W ta)) : PW X (.BoolOp .And [a] pos) (RT B W ta) := pw_and1 ha
theorem pb_or1 (ha : PT X a (RT B W ta)) : PW X (.BoolOp .Or [a] pos) (RT B W ta) := pw_or1 ha
theorem pb_and {rest : List Expr} (ha : PT X a (RT B W ta)) (hb : PW X (.BoolOp .And (b :: rest) pos) (RT B W tb)) : PW X (.BoolOp .And (a :: b :: rest) pos) (RT B W (mAnd ta tb)) := pw_w (pw_and ha hb) fun _ _ _ => rt_and
theorem pb_or {rest : List Expr} (ha : PT X a (RT B W ta)) (hb : PW X (.BoolOp .Or (b :: rest) pos) (RT B W tb)) : PW X (.BoolOp .Or (a :: b :: rest) pos) (RT B W (mOr ta tb)) := pw_w (pw_or ha hb) fun _ _ _ => rt_or
theorem pb_not (ha : PT X a (RT B W ta)) : PT X (.UnaryOp .Not a pos) (RT B W (mNot ta)) := by
  refine pt_w (pt_not ha) fun σ H Q ⟨S, e, g, R, h⟩ => ?_
  refine ⟨S, e, g, R, RK.bind (.refl H) h fun x g1 vx H1 _ x1 i1 o1 h1 => ?_⟩
  cases o1
  exact h1 _ H1 x1 i1 rfl
end
end PB
set_option Elab.async false
set_option linter.all false
set_option maxRecDepth 100000
set_option maxHeartbeats 4000000
namespace PB
open PySem PySem.Spec PyProof.Rows L2
variable [Kts]
section
variable {γ ι : Type}
/-- what is handed back -/
def FRet (K : Frag) (S : Addr → Prop) (H H' : Hp) (r : Rv) (v : V) : Prop := match r with
  | .dat d => At K S H' v d
  | .own ds => ∃ p xs, v = .ref p ∧ H p = none ∧ H' p = some (.lst xs) ∧ AtL K (fun a => S a ∨ a = p) H' xs ds
  | .bor _ => False
  | .odt t ks vs => ∃ p us, v = .ref p ∧ H p = none ∧ DiS K (fun a => S a ∨ a = p) H' p t ks us ∧ AtL K (fun a => S a ∨ a = p) H' us vs
  | .bdt _ _ _ => False
/-- .. that no exception leaves -/
def spOf (K : Frag) (fam : ι → Gho γ) (n : Nat) (F : MF γ) : Sp := fun vs H Q E => ∃ (i : ι) (S : Addr → Prop) (ds : List D) (g : γ), vs.length = n ∧ (∀ a, (fam i).F a → S a) ∧ (∀ a, S a → Stk (H a)) ∧ AtL K S H vs ds ∧ (fam i).I g H ∧
  match F ds g with
  | .ok r g' => ∀ v H', (∀ b o, H b = some o → ¬ (fam i).F b → H' b = some o) → (fam i).I g' H' → FRet K S H H' r v → Q v H'
  | .ex x g' => False
  | .no => False
variable {B : Bs γ ι} {W : WX} {X : Cx} {pos pz : Pos} {e : Expr} {es : List Expr} {mr : MA γ} {F : MF γ}
theorem VOkL.length {A : Act γ ι} {e : Env} {σ : L2.St} {H0 H : Hp} : ∀ {rs : List Rv} {vs : List V}, VOkL A e σ H0 H rs vs → vs.length = rs.length
  | _, _, .nil => rfl
  | _, _, .cons _ h => by rw [List.length_cons, List.length_cons, h.length]
theorem fret_vok {A : Act γ ι} {e : Env} {g g1 : γ} {σ : L2.St} {H0 H H' : Hp} (R : Rep A e g σ H0) (x : ExE A H0 H) (i1 : A.G.I g1 H) {r : Rv} {v : V} (h : FRet A.K (Om A e σ) H H' r v) : VOk A e σ H0 H' r v := by
  cases r with
  | dat d => exact h
  | own ds =>
    obtain ⟨q, xs, e1, h0, k, a⟩ := h
    exact ⟨q, xs, e1, x.back h0 i1, k, a⟩
  | bor ds => exact h.elim
  | odt t ks vs =>
    obtain ⟨q, xs, e1, h0, k, a⟩ := h
    exact ⟨q, xs, e1, x.back h0 i1, k, a⟩
  | bdt t ks vs => exact h.elim
theorem call_go {n : Nat} {σ : L2.St} {H : Hp} {Q : VK} (h : RE B W (mCall F mr) σ H Q) (hl : ∀ e g rs g', mr e g = .ok rs g' → rs.length = n) : tCall (spOf B.K B.fam n F) [] E0 (RA B W mr) σ H Q := by
  obtain ⟨S, e, g, R, h⟩ := h
  refine ⟨S, e, g, R, ?_⟩
  have hl' := hl e g
  unfold mCall at h
  cases q : mr e g with
  | no =>
    rw [q] at h
    exact h
  | ex y g1 =>
    rw [q] at h
    exact h
  | ok rs g1 =>
    rw [q] at h
    intro vs H1 x1 i1 o1
    have h1 : RK VOk ⟨B, S⟩ W e σ H (match stoL rs with | some ds => okO (F ds g1) | none => .no) Q := h
    cases ks : stoL rs with
    | none =>
      rw [ks] at h1
      exact h1.elim
    | some ds =>
      rw [ks] at h1
      have al := o1.sto R ks
      have R1 := R.exe x1 i1
      have hn : rs.length = n := hl' _ _ q
      have hvl : vs.length = n := by rw [← hn, o1.length]
      have h1 : RK VOk ⟨B, S⟩ W e σ H (okO (F ds g1)) Q := h1
      rw [List.append_nil]
      refine ⟨B.i, Om ⟨B, S⟩ e σ, ds, g1, hvl, fun a z => .inl (R.fx a z), fun a z => R1.oms z, al, i1, ?_⟩
      cases kf : F ds g1 with
      | no =>
        rw [kf] at h1
        exact h1
      | ex y g2 =>
        rw [kf] at h1
        exact h1
      | ok r g2 =>
        rw [kf] at h1
        exact fun v H' x' i' o' => h1 v H' (x1.trans x') i' (fret_vok R x1 i1 o')
theorem len_nil : ∀ (e : Env) (g : γ) rs g', (mNil : MA γ) e g = .ok rs g' → rs.length = 0 := fun e g rs g' h => by
  cases h
  rfl
theorem len_cons {a : ME γ} {r : MA γ} {n : Nat} (hr : ∀ e g rs g', r e g = .ok rs g' → rs.length = n) : ∀ (e : Env) (g : γ) rs g', mCons a r e g = .ok rs g' → rs.length = n + 1 := fun e g rs g' h => by
  unfold mCons at h
  cases q : a e g with
  | no =>
    rw [q] at h
    cases h
  | ex y g1 =>
    rw [q] at h
    cases h
  | ok x g1 =>
    rw [q] at h
    have h2 : (r e g1).bind (fun xs g2 => .ok (x :: xs) g2) = .ok rs g' := h
    cases q2 : r e g1 with
    | no =>
      rw [q2] at h2
      cases h2
    | ex y g1 =>
      rw [q2] at h2
      cases h2
    | ok xs g2 =>
      rw [q2] at h2
      cases h2
      rw [List.length_cons, hr _ _ _ _ q2]
/-- f(..), no exception leaves f -/
theorem pb_call {k : Nat} {n : Nat} {f : Addr} {fd : FuncData} {ps : List Str} {x : Str} (G : FnOk X.prog X.w X.K X.mg X.base CX0 k f fd ps (spOf B.K B.fam n F)) (hr : Room k X.A) (hg : Gl X x) (hm : X.mg x = some (.ref f)) (hk : PySem.W.keepIn X.K (.ref f) = true) (hb : Binds X.K fd ps [])
    (ha : PA X (e :: es) (RA B W mr)) (hl : ∀ e g rs g', mr e g = .ok rs g' → rs.length = n) (hdb : (x == ("__debug__" : Str)) = false := by decide) (he : starEach (e :: es) X.env = (false, eval e X.env) :: starEach es X.env := by rfl) (hpl : (backTo pos (starEach es X.env)).any (·.1) = false := by rfl) :
    PE X (.Call (.Name x pz) (e :: es) [] pos) (RE B W (mCall F mr)) :=
  pe_w (pe_call G hr hg hm hk hb .nil pass0 ha hdb he hpl) fun σ H Q h => call_go h hl
theorem gt_st (e : Env) (i j : Nat) (x : Sl) : gt (st e i x) j = if j = i ∧ i < e.length then x else gt e j := by
  induction e generalizing i j with
  | nil => simp [st, gt]
  | cons s r ih =>
    cases i with
    | zero =>
      cases j with
      | zero => simp [st, gt]
      | succ j => simp [st, gt]
    | succ i =>
      cases j with
      | zero => simp [st, gt]
      | succ j =>
        simp only [st, gt, ih, List.length_cons, Nat.add_right_cancel_iff, Nat.add_lt_add_iff_right]
theorem len_st (e : Env) (i : Nat) (x : Sl) : (st e i x).length = e.length := by
  induction e generalizing i with
  | nil => rfl
  | cons s r ih =>
    cases i with
    | zero => rfl
    | succ i => simp [st, ih]
theorem gt_out {e : Env} {i : Nat} (h : e.length ≤ i) : gt e i = .un := by
  induction e generalizing i with
  | nil => rfl
  | cons s r ih =>
    cases i with
    | zero => simp at h
    | succ i => exact ih (by simpa using h)
theorem set_at {σ : L2.St} {i j : Nat} {v : Option V} : (σ.set i v)[j]? = if j = i ∧ i < σ.length then some v else σ[j]? := by
  rw [List.getElem?_set]
  by_cases h : i = j
  · subst h
    by_cases h2 : i < σ.length
    · rw [if_pos rfl, if_pos h2, if_pos ⟨rfl, h2⟩]
    · rw [if_pos rfl, if_neg h2, if_neg (fun z => h2 z.2)]
      exact (List.getElem?_eq_none (by omega)).symm
  · rw [if_neg h, if_neg (fun z => h z.1.symm)]
/-- a step of statements -/
structure Stp (A : Act γ ι) (e : Env) (σ : L2.St) (H : Hp) (e' : Env) (σ' : L2.St) (H' : Hp) : Prop where
  keep : ∀ b o, H b = some o → ¬ Mu A e σ b → H' b = some o
  mu : ∀ b, OwnA e' σ' b → OwnA e σ b ∨ H b = none
section
variable {A : Act γ ι} {e e' e2 : Env} {g g1 g2 : γ} {σ σ' σ2 : L2.St} {H H' H2 H1 H0 : Hp} {v : V} {d : D} {i : Nat} {p : Addr}
theorem Stp.refl : Stp A e σ H e σ H := ⟨fun _ _ h _ => h, fun _ h => .inl h⟩
theorem Stp.exe (R : Rep A e g σ H) (x : ExE A H H') : Stp A e σ H e σ H' := ⟨fun b o h n => x b o h fun z => n (.inl z), fun _ h => .inl h⟩
theorem Stp.trans (R' : Rep A e' g σ' H') (a : Stp A e σ H e' σ' H') (b : Stp A e' σ' H' e2 σ2 H2) : Stp A e σ H e2 σ2 H2 where
  keep := fun c o h n => b.keep c o (a.keep c o h n) fun z => z.elim (fun z => n (.inl z)) fun z => (a.mu c z).elim (fun z => n (.inr z)) fun z => by
    rw [z] at h
    cases h
  mu := fun c z => by
    rcases b.mu c z with z | z
    · exact a.mu c z
    · by_cases q : OwnA e σ c
      · exact .inl q
      · cases k : H c with
        | none => exact .inr rfl
        | some o =>
          by_cases f : A.G.F c
          · exact absurd z (A.G.trk _ _ _ R'.gh f)
          · have := a.keep c o k fun z => z.elim f q
            rw [z] at this
            cases this
/-- values through a step -/
theorem Stp.go (R : Rep A e g σ H) (s : Stp A e σ H e' σ' H') : ∀ a o, H a = some o → ¬ Om A e σ a → H' a = some o ∧ ¬ Om A e' σ' a := fun a o q n =>
  ⟨s.keep a o q fun z => n (R.muom z), fun z => z.elim (fun z => n (.inl z)) fun z => (s.mu a z).elim (fun z => n (.inr z)) fun z => by
    rw [z] at q
    cases q⟩
/-- a name's slot comes to hold data -/
theorem own_st (h : OwnA (st e i (.dat d)) (σ.set i (some v)) p) (hl : σ.length = e.length) : OwnA e σ p := by
  obtain ⟨j, h1, h2⟩ := h
  rw [gt_st] at h1
  rw [set_at] at h2
  by_cases c : j = i ∧ i < e.length
  · rw [if_pos c] at h1
    cases h1
  · rw [if_neg c] at h1
    rw [hl, if_neg c] at h2
    exact ⟨j, h1, h2⟩
theorem Rep.set (R : Rep A e g σ H) (a : At A.K (Om A e σ) H v d) (i : Nat) : Rep A (st e i (.dat d)) g (σ.set i (some v)) H where
  len := by rw [List.length_set, len_st, R.len]
  sl := fun j => by
    have less : ∀ a, Om A (st e i (.dat d)) (σ.set i (some v)) a → Om A e σ a := fun a z => z.elim .inl fun z => .inr (own_st z R.len)
    rw [gt_st, set_at, R.len]
    by_cases c : j = i ∧ i < e.length
    · rw [if_pos c, if_pos c]
      exact ⟨v, rfl, a.less less⟩
    · rw [if_neg c, if_neg c]
      have q := R.sl j
      cases h : gt e j with
      | un => trivial
      | dat d2 =>
        rw [h] at q
        obtain ⟨w, e1, a1⟩ := q
        exact ⟨w, e1, a1.less less⟩
      | own ds =>
        rw [h] at q
        obtain ⟨p, xs, e1, k, a1⟩ := q
        exact ⟨p, xs, e1, k, a1.less less⟩
      | xc y =>
        rw [h] at q
        exact q
      | gh y =>
        rw [h] at q
        exact q
      | owd t ks vs =>
        rw [h] at q
        obtain ⟨p, us, e1, k, a1⟩ := q
        exact ⟨p, us, e1, k.less less, a1.less less⟩
  inj := fun j k p h1 h2 h3 h4 => by
    rw [gt_st] at h1 h2
    rw [set_at, R.len] at h3 h4
    by_cases c : j = i ∧ i < e.length
    · rw [if_pos c] at h1
      cases h1
    · by_cases c2 : k = i ∧ i < e.length
      · rw [if_pos c2] at h2
        cases h2
      · rw [if_neg c] at h1 h3
        rw [if_neg c2] at h2 h4
        exact R.inj j k p h1 h2 h3 h4
  nx := fun a z => R.nx a (own_st z R.len)
  gh := R.gh
  fx := R.fx
  xs := R.xs
theorem Stp.set (R : Rep A e g σ H) (i : Nat) : Stp A e σ H (st e i (.dat d)) (σ.set i (some v)) H := ⟨fun _ _ h _ => h, fun _ z => .inl (own_st z R.len)⟩
/-- .. a new list of its own -/
theorem Rep.setO (R0 : Rep A e g σ H0) (x : ExE A H0 H) (R : Rep A e g1 σ H) {ds : List D} (o : VOk A e σ H0 H (.own ds) v) (i : Nat) : Rep A (st e i (.own ds)) g1 (σ.set i (some v)) H ∧ ∀ b, OwnA (st e i (.own ds)) (σ.set i (some v)) b → OwnA e σ b ∨ H0 b = none := by
  obtain ⟨p, xs, e1, h0, k, al⟩ := o
  subst e1
  have own : ∀ b, OwnA (st e i (.own ds)) (σ.set i (some (.ref p))) b → OwnA e σ b ∨ b = p := fun b ⟨j, h1, h2⟩ => by
    rw [gt_st] at h1
    rw [set_at, R.len] at h2
    by_cases c : j = i ∧ i < e.length
    · rw [if_pos c] at h2
      cases h2
      exact .inr rfl
    · rw [if_neg c] at h1 h2
      exact .inl ⟨j, h1, h2⟩
  have np : ¬ A.X p := fun z => R0.xt p z h0
  have nown : ¬ OwnA e σ p := fun z => (z.stk R0).1.1 h0
  have go : ∀ a o, H0 a = some o → ¬ Om A e σ a → H a = some o ∧ ¬ Om A (st e i (.own ds)) (σ.set i (some (.ref p))) a := fun a o q n =>
    ⟨x a o q fun z => n (.inl (R0.fx a z)), fun z => z.elim (fun z => n (.inl z)) fun z => (own a z).elim (fun z => n (.inr z)) fun z => by
      subst z
      rw [h0] at q
      cases q⟩
  refine ⟨⟨by rw [List.length_set, len_st, R.len], fun j => ?_, fun j k2 q h1 h2 h3 h4 => ?_, fun a z => ?_, R.gh, R.fx, R.xs⟩, fun b z => (own b z).elim .inl fun z => .inr (by rw [z]; exact h0)⟩
  · rw [gt_st, set_at, R.len]
    by_cases c : j = i ∧ i < e.length
    · rw [if_pos c, if_pos c]
      exact ⟨p, xs, rfl, k, al.less fun a z => z.elim (fun z => .inl (.inl z)) fun z => (own a z).elim (fun z => .inl (.inr z)) .inr⟩
    · rw [if_neg c, if_neg c]
      have q := R0.sl j
      cases h : gt e j with
      | un => trivial
      | dat d2 =>
        rw [h] at q
        obtain ⟨w, e1, a1⟩ := q
        exact ⟨w, e1, a1.go go⟩
      | own es =>
        rw [h] at q
        obtain ⟨q2, ys, e1, k1, a1⟩ := q
        exact ⟨q2, ys, e1, x _ _ k1 (R0.notF (.of h rfl e1)), a1.go go⟩
      | xc y =>
        rw [h] at q
        exact ⟨q.1, q.2.go fun p fs k => x p _ k fun z => R0.nxd k (.inl (R0.fx p z))⟩
      | gh y =>
        rw [h] at q
        exact q
      | owd t ks vs =>
        rw [h] at q
        obtain ⟨q2, us, e1, k1, a1⟩ := q
        exact ⟨q2, us, e1, k1.go go fun o e => x _ _ e (R0.notF (.of h rfl e1)), a1.go go⟩
  · rw [gt_st] at h1 h2
    rw [set_at, R.len] at h3 h4
    by_cases c : j = i ∧ i < e.length
    · by_cases c2 : k2 = i ∧ i < e.length
      · rw [c.1, c2.1]
      · rw [if_pos c] at h3
        cases h3
        rw [if_neg c2] at h2 h4
        exact absurd ⟨k2, h2, h4⟩ nown
    · by_cases c2 : k2 = i ∧ i < e.length
      · rw [if_pos c2] at h4
        cases h4
        rw [if_neg c] at h1 h3
        exact absurd ⟨j, h1, h3⟩ nown
      · rw [if_neg c] at h1 h3
        rw [if_neg c2] at h2 h4
        exact R.inj j k2 q h1 h2 h3 h4
  · rcases own a z with z | z
    · exact R.nx a z
    · rw [z]
      exact np
end
section
variable {A : Act γ ι} {e : Env} {g g1 : γ} {σ : L2.St} {H0 H : Hp} {p : Addr} {i : Nat} {s' : Sl}
/-- a new thing comes into a slot -/
theorem Rep.setN (R0 : Rep A e g σ H0) (x : ExE A H0 H) (R : Rep A e g1 σ H) (h0 : H0 p = none) (hs : s'.hs = true) (sok : ∀ O : Addr → Prop, (∀ a, O a → Om A e σ a ∨ a = p) → SlOk A.B O H s' (some (some (.ref p)))) (i : Nat) :
    Rep A (st e i s') g1 (σ.set i (some (.ref p))) H ∧ ∀ b, OwnA (st e i s') (σ.set i (some (.ref p))) b → OwnA e σ b ∨ H0 b = none := by
  have own : ∀ b, OwnA (st e i s') (σ.set i (some (.ref p))) b → OwnA e σ b ∨ b = p := fun b ⟨j, h1, h2⟩ => by
    rw [gt_st] at h1
    rw [set_at, R.len] at h2
    by_cases c : j = i ∧ i < e.length
    · rw [if_pos c] at h2
      cases h2
      exact .inr rfl
    · rw [if_neg c] at h1 h2
      exact .inl ⟨j, h1, h2⟩
  have np : ¬ A.X p := fun z => R0.xt p z h0
  have nown : ¬ OwnA e σ p := fun z => (z.stk R0).1.1 h0
  have go : ∀ a o, H0 a = some o → ¬ Om A e σ a → H a = some o ∧ ¬ Om A (st e i s') (σ.set i (some (.ref p))) a := fun a o q n =>
    ⟨x a o q fun z => n (.inl (R0.fx a z)), fun z => z.elim (fun z => n (.inl z)) fun z => (own a z).elim (fun z => n (.inr z)) fun z => by
      subst z
      rw [h0] at q
      cases q⟩
  refine ⟨⟨by rw [List.length_set, len_st, R.len], fun j => ?_, fun j k2 q h1 h2 h3 h4 => ?_, fun a z => ?_, R.gh, R.fx, R.xs⟩, fun b z => (own b z).elim .inl fun z => .inr (by rw [z]; exact h0)⟩
  · rw [gt_st, set_at, R.len]
    by_cases c : j = i ∧ i < e.length
    · rw [if_pos c, if_pos c]
      exact sok _ fun a z => z.elim (fun z => .inl (.inl z)) fun z => (own a z).elim (fun z => .inl (.inr z)) .inr
    · rw [if_neg c, if_neg c]
      have q := R0.sl j
      cases h : gt e j with
      | un => trivial
      | dat d2 =>
        rw [h] at q
        obtain ⟨w, e1, a1⟩ := q
        exact ⟨w, e1, a1.go go⟩
      | own es =>
        rw [h] at q
        obtain ⟨q2, ys, e1, k1, a1⟩ := q
        exact ⟨q2, ys, e1, x _ _ k1 (R0.notF (.of h rfl e1)), a1.go go⟩
      | xc y =>
        rw [h] at q
        exact ⟨q.1, q.2.go fun p fs k => x p _ k fun z => R0.nxd k (.inl (R0.fx p z))⟩
      | gh y =>
        rw [h] at q
        exact q
      | owd t ks vs =>
        rw [h] at q
        obtain ⟨q2, us, e1, k1, a1⟩ := q
        exact ⟨q2, us, e1, k1.go go fun o e => x _ _ e (R0.notF (.of h rfl e1)), a1.go go⟩
  · rw [gt_st] at h1 h2
    rw [set_at, R.len] at h3 h4
    by_cases c : j = i ∧ i < e.length
    · by_cases c2 : k2 = i ∧ i < e.length
      · rw [c.1, c2.1]
      · rw [if_pos c] at h3
        cases h3
        rw [if_neg c2] at h2 h4
        exact absurd ⟨k2, h2, h4⟩ nown
    · by_cases c2 : k2 = i ∧ i < e.length
      · rw [if_pos c2] at h4
        cases h4
        rw [if_neg c] at h1 h3
        exact absurd ⟨j, h1, h3⟩ nown
      · rw [if_neg c] at h1 h3
        rw [if_neg c2] at h2 h4
        exact R.inj j k2 q h1 h2 h3 h4
  · rcases own a z with z | z
    · exact R.nx a z
    · rw [z]
      exact np
end
/-- what is handed back: seen from a statement's beginning -/
def VRet (A : Act γ ι) (e : Env) (σ : L2.St) (H H' : Hp) (r : Rv) (v : V) : Prop := match r.ret with
  | .dat d => At A.K A.X H' v d
  | .own ds => ∃ p xs, v = .ref p ∧ (OwnA e σ p ∨ H p = none) ∧ ¬ A.X p ∧ H' p = some (.lst xs) ∧ AtL A.K (fun a => A.X a ∨ a = p) H' xs ds
  | .bor _ => False
  | .odt t ks vs => ∃ p us, v = .ref p ∧ (OwnA e σ p ∨ H p = none) ∧ ¬ A.X p ∧ DiS A.K (fun a => A.X a ∨ a = p) H' p t ks us ∧ AtL A.K (fun a => A.X a ∨ a = p) H' us vs
  | .bdt _ _ _ => False
def RSK (A : Act γ ι) (W : WX) (e : Env) (σ : L2.St) (H : Hp) (r : Rs γ Fl) (Dd : Ends) : Prop := match r with
  | .ok (.nx e') g' => ∀ σ' H', Rep A e' g' σ' H' → Stp A e σ H e' σ' H' → Dd.nx σ' H'
  | .ok (.bk e') g' => ∀ σ' H', Rep A e' g' σ' H' → Stp A e σ H e' σ' H' → Dd.bk σ' H'
  | .ok (.ct e') g' => ∀ σ' H', Rep A e' g' σ' H' → Stp A e σ H e' σ' H' → Dd.ct σ' H'
  | .ok (.rt r) g' => ∀ v H', (∀ b o, H b = some o → ¬ Mu A e σ b → H' b = some o) → A.G.I g' H' → VRet A e σ H H' r v → Dd.rt v H'
  | .ex x g' => ∀ c od σ' H', (∀ b o, H b = some o → ¬ Mu A e σ b → H' b = some o) → A.G.I g' H' → A.R x c od H' → W c od σ' H'
  | .no => False
def RS (B : Bs γ ι) (W : WX) (m : MS γ) : TS := fun Dd σ H => ∃ (S : Addr → Prop) (e : Env) (g : γ), Rep ⟨B, S⟩ e g σ H ∧ RSK ⟨B, S⟩ W e σ H (m e g) Dd
section
variable {A : Act γ ι} {e0 e' e2 : Env} {g g1 g2 : γ} {σ σ' σ2 : L2.St} {H H' H2 H1 H0 : Hp} {v : V} {d : D} {i : Nat}
theorem VRet.pre (R' : Rep A e' g σ' H') (s : Stp A e0 σ H e' σ' H') {r : Rv} (h : VRet A e' σ' H' H2 r v) : VRet A e0 σ H H2 r v := by
  unfold VRet at h ⊢
  cases k : r.ret with
  | dat d =>
    rw [k] at h
    exact h
  | own ds =>
    rw [k] at h
    obtain ⟨p, xs, e1, h0, nx, kk, a⟩ := h
    refine ⟨p, xs, e1, ?_, nx, kk, a⟩
    rcases h0 with z | z
    · exact s.mu p z
    · cases q : H p with
      | none => exact .inr rfl
      | some o =>
        by_cases f : Mu A e0 σ p
        · rcases f with f | f
          · exact absurd z (A.G.trk _ _ _ R'.gh f)
          · exact .inl f
        · have := s.keep p o q f
          rw [z] at this
          cases this
  | bor ds =>
    rw [k] at h
    exact h.elim
  | bdt t ks vs =>
    rw [k] at h
    exact h.elim
  | odt t ks vs =>
    rw [k] at h
    obtain ⟨p, xs, e1, h0, nx, kk, a⟩ := h
    refine ⟨p, xs, e1, ?_, nx, kk, a⟩
    rcases h0 with z | z
    · exact s.mu p z
    · cases q : H p with
      | none => exact .inr rfl
      | some o =>
        by_cases f : Mu A e0 σ p
        · rcases f with f | f
          · exact absurd z (A.G.trk _ _ _ R'.gh f)
          · exact .inl f
        · have := s.keep p o q f
          rw [z] at this
          cases this
theorem Stp.kp (R' : Rep A e' g σ' H') (s : Stp A e0 σ H e' σ' H') (h : ∀ b o, H' b = some o → ¬ Mu A e' σ' b → H2 b = some o) : ∀ b o, H b = some o → ¬ Mu A e0 σ b → H2 b = some o := fun b o q n =>
  h b o (s.keep b o q n) fun z => z.elim (fun z => n (.inl z)) fun z => (s.mu b z).elim (fun z => n (.inr z)) fun z => by
    rw [z] at q
    cases q
/-- the rest, from a later place -/
theorem RSK.late {Dd : Ends} {r : Rs γ Fl} (R' : Rep A e' g σ' H') (s : Stp A e0 σ H e' σ' H') (h : RSK A W e0 σ H r Dd) : RSK A W e' σ' H' r Dd := by
  cases r with
  | no => exact h
  | ex x g' => exact fun c od σ2 H2 k => h c od σ2 H2 (s.kp R' k)
  | ok f g' =>
    cases f with
    | nx e2 => exact fun σ2 H2 R2 s2 => h σ2 H2 R2 (s.trans R' s2)
    | bk e2 => exact fun σ2 H2 R2 s2 => h σ2 H2 R2 (s.trans R' s2)
    | ct e2 => exact fun σ2 H2 R2 s2 => h σ2 H2 R2 (s.trans R' s2)
    | rt r => exact fun v H2 k i o => h v H2 (s.kp R' k) i (o.pre R' s)
/-- a statement that begins with an expression -/
theorem RSK.bind {α β : Type} {P : Act γ ι → Env → L2.St → Hp → Hp → α → β → Prop} {m : Rs γ α} {f : α → γ → Rs γ Fl} {Dd : Ends} {k : β → Hp → Prop} (R : Rep A e0 g σ H) (h : RSK A W e0 σ H (m.bind f) Dd)
    (hk : ∀ a g1 b H2, ExE A H H2 → A.G.I g1 H2 → P A e0 σ H H2 a b → RSK A W e0 σ H (f a g1) Dd → k b H2) : RK P A W e0 σ H m k := by
  cases m with
  | no => exact h
  | ex y g => exact fun c od H' x i r => h c od σ H' (fun b o q n => x b o q fun z => n (.inl z)) i r
  | ok a g => exact fun b H' x' i p => hk a g b H' x' i p h
end
variable {Dd : Ends} {σ : L2.St} {H : Hp} {ma mb : ME γ} {ta : MT γ} {s1 s2 : MS γ} {a : Expr}
theorem pb_snil : PSs X [] (RS B W mPass) := pss_w pss_nil fun Dd σ H ⟨S, e, g, R, h⟩ => h σ H R .refl
theorem pb_sone {st : Stmt} (h : PS X st (RS B W s1)) : PSs X [st] (RS B W s1) := pss_one h
theorem rs_seq (h : RS B W (mSeq s1 s2) Dd σ H) : tSeq (RS B W s1) (RS B W s2) Dd σ H := by
  obtain ⟨S, e, g, R, h⟩ := h
  refine ⟨S, e, g, R, ?_⟩
  unfold mSeq at h
  cases k : s1 e g with
  | no =>
    rw [k] at h
    exact h
  | ex x g' =>
    rw [k] at h
    exact h
  | ok f g' =>
    rw [k] at h
    cases f with
    | nx e1 => exact fun σ' H' R' s' => ⟨S, e1, g', R', RSK.late R' s' h⟩
    | rt r => exact h
    | bk e1 => exact h
    | ct e1 => exact h
theorem pb_scons {st : Stmt} {rest : List Stmt} (h1 : PS X st (RS B W s1)) (h2 : PSs X rest (RS B W s2)) : PSs X (st :: rest) (RS B W (mSeq s1 s2)) := pss_w (pss_cons h1 h2) fun _ _ _ => rs_seq
/-- ahead of a block a name's list becomes data -/
theorem frz_own {A : Act γ ι} {e : Env} {g : γ} {σ : L2.St} {H : Hp} (R : Rep A e g σ H) {i : Nat} {ds : List D} (hi : gt e i = .own ds) : Rep A (st e i (.dat (.lst ds))) g σ H ∧ Stp A e σ H (st e i (.dat (.lst ds))) σ H := by
  have q := R.sl i
  rw [hi] at q
  obtain ⟨p, xs, e1, k, al⟩ := q
  have own : ∀ b, OwnA (st e i (.dat (.lst ds))) σ b → OwnA e σ b ∧ b ≠ p := fun b ⟨j, h1, h2⟩ => by
    rw [gt_st] at h1
    by_cases c : j = i ∧ i < e.length
    · rw [if_pos c] at h1
      cases h1
    · rw [if_neg c] at h1
      refine ⟨⟨j, h1, h2⟩, fun z => ?_⟩
      subst z
      have hji := R.inj j i b h1 (by rw [hi]; rfl) h2 e1
      subst hji
      apply c
      refine ⟨rfl, ?_⟩
      by_cases hlt : j < e.length
      · exact hlt
      · rw [gt_out (by omega)] at hi
        cases hi
  have less : ∀ a, Om A (st e i (.dat (.lst ds))) σ a → Om A e σ a := fun a z => z.elim .inl fun z => .inr (own a z).1
  refine ⟨⟨by rw [len_st, R.len], fun j => ?_, fun j k2 q h1 h2 h3 h4 => ?_, fun a z => R.nx a (own a z).1, R.gh, R.fx, R.xs⟩, ⟨fun _ _ h _ => h, fun b z => .inl (own b z).1⟩⟩
  · rw [gt_st]
    by_cases c : j = i ∧ i < e.length
    · rw [if_pos c, c.1, e1]
      exact ⟨_, rfl, .lst (.inl k) (fun z => z.elim (fun z => R.nx p (.of hi rfl e1) z) fun z => (own p z).2 rfl) (al.less less)⟩
    · rw [if_neg c]
      have q := R.sl j
      cases h : gt e j with
      | un => trivial
      | dat d2 =>
        rw [h] at q
        obtain ⟨w, e1, a1⟩ := q
        exact ⟨w, e1, a1.less less⟩
      | own es =>
        rw [h] at q
        obtain ⟨q2, ys, e1, k1, a1⟩ := q
        exact ⟨q2, ys, e1, k1, a1.less less⟩
      | xc y =>
        rw [h] at q
        exact q
      | gh y =>
        rw [h] at q
        exact q
      | owd t ks vs =>
        rw [h] at q
        obtain ⟨q2, us, e1, k1, a1⟩ := q
        exact ⟨q2, us, e1, k1.less less, a1.less less⟩
  · rw [gt_st] at h1 h2
    by_cases c : j = i ∧ i < e.length
    · rw [if_pos c] at h1
      cases h1
    · by_cases c2 : k2 = i ∧ i < e.length
      · rw [if_pos c2] at h2
        cases h2
      · rw [if_neg c] at h1
        rw [if_neg c2] at h2
        exact R.inj j k2 q h1 h2 h3 h4
theorem frz_owd {A : Act γ ι} {e : Env} {g : γ} {σ : L2.St} {H : Hp} (R : Rep A e g σ H) {i : Nat} {tt : Bool} {ks vs : List D} (hi : gt e i = .owd tt ks vs) : Rep A (st e i (.dat (.dct tt ks vs))) g σ H ∧ Stp A e σ H (st e i (.dat (.dct tt ks vs))) σ H := by
  have q := R.sl i
  rw [hi] at q
  obtain ⟨p, us, e1, k, al⟩ := q
  have own : ∀ b, OwnA (st e i (.dat (.dct tt ks vs))) σ b → OwnA e σ b ∧ b ≠ p := fun b ⟨j, h1, h2⟩ => by
    rw [gt_st] at h1
    by_cases c : j = i ∧ i < e.length
    · rw [if_pos c] at h1
      cases h1
    · rw [if_neg c] at h1
      refine ⟨⟨j, h1, h2⟩, fun z => ?_⟩
      subst z
      have hji := R.inj j i b h1 (by rw [hi]; rfl) h2 e1
      subst hji
      apply c
      refine ⟨rfl, ?_⟩
      by_cases hlt : j < e.length
      · exact hlt
      · rw [gt_out (by omega)] at hi
        cases hi
  have less : ∀ a, Om A (st e i (.dat (.dct tt ks vs))) σ a → Om A e σ a := fun a z => z.elim .inl fun z => .inr (own a z).1
  refine ⟨⟨by rw [len_st, R.len], fun j => ?_, fun j k2 q h1 h2 h3 h4 => ?_, fun a z => R.nx a (own a z).1, R.gh, R.fx, R.xs⟩, ⟨fun _ _ h _ => h, fun b z => .inl (own b z).1⟩⟩
  · rw [gt_st]
    by_cases c : j = i ∧ i < e.length
    · rw [if_pos c, c.1, e1]
      exact ⟨_, rfl, .dct (k.less less) (fun z => z.elim (fun z => R.nx p (.of hi rfl e1) z) fun z => (own p z).2 rfl) (al.less less)⟩
    · rw [if_neg c]
      have q := R.sl j
      cases h : gt e j with
      | un => trivial
      | dat d2 =>
        rw [h] at q
        obtain ⟨w, e1, a1⟩ := q
        exact ⟨w, e1, a1.less less⟩
      | own es =>
        rw [h] at q
        obtain ⟨q2, ys, e1, k1, a1⟩ := q
        exact ⟨q2, ys, e1, k1, a1.less less⟩
      | xc y =>
        rw [h] at q
        exact q
      | gh y =>
        rw [h] at q
        exact q
      | owd t ks1 vs1 =>
        rw [h] at q
        obtain ⟨q2, us, e1, k1, a1⟩ := q
        exact ⟨q2, us, e1, k1.less less, a1.less less⟩
  · rw [gt_st] at h1 h2
    by_cases c : j = i ∧ i < e.length
    · rw [if_pos c] at h1
      cases h1
    · by_cases c2 : k2 = i ∧ i < e.length
      · rw [if_pos c2] at h2
        cases h2
      · rw [if_neg c] at h1
        rw [if_neg c2] at h2
        exact R.inj j k2 q h1 h2 h3 h4
theorem pb_frz (i : Nat) {sts : List Stmt} (h : PSs X sts (RS B W s2)) : PSs X sts (RS B W (mSeq (mFrz i) s2)) := pss_w h fun Dd σ H ⟨S, e, g, R, h⟩ => by
  unfold mSeq mFrz at h
  cases k : gt e i with
  | un =>
    rw [k] at h
    exact ⟨S, e, g, R, h⟩
  | dat d =>
    rw [k] at h
    exact ⟨S, e, g, R, h⟩
  | xc y =>
    rw [k] at h
    exact ⟨S, e, g, R, h⟩
  | gh y =>
    rw [k] at h
    exact ⟨S, e, g, R, h⟩
  | own ds =>
    rw [k] at h
    obtain ⟨R2, s2⟩ := frz_own R k
    exact ⟨S, _, g, R2, RSK.late R2 s2 h⟩
  | owd t ks vs =>
    rw [k] at h
    obtain ⟨R2, s2⟩ := frz_owd R k
    exact ⟨S, _, g, R2, RSK.late R2 s2 h⟩
theorem pb_expr (ha : PE X a (RE B W ma)) (hs : swapsWith a none pos.line X.env = pure false := by rfl) : PS X (.Expr a pos) (RS B W (mDrop ma)) := ps_w (ps_expr ha hs) fun Dd σ H ⟨S, e, g, R, h⟩ =>
  ⟨S, e, g, R, RSK.bind R h fun x g1 v H1 x1 i1 o1 h1 => h1 σ H1 (R.exe x1 i1) (.exe R x1)⟩
theorem vret_of {A : Act γ ι} {e : Env} {g : γ} {σ : L2.St} {H H' : Hp} (R : Rep A e g σ H) {r : Rv} {v : V} (o : VOk A e σ H H' r v) : VRet A e σ H H' r v := by
  cases r with
  | dat d => exact At.less (fun a z => .inl z) o
  | own ds =>
    obtain ⟨p, xs, e1, h0, k, a⟩ := o
    exact ⟨p, xs, e1, .inr h0, fun z => R.xt p z h0, k, a.less fun a z => z.elim (fun z => .inl (.inl z)) .inr⟩
  | bor ds =>
    obtain ⟨p, xs, e1, h0, k, a⟩ := o
    exact ⟨p, xs, e1, .inl h0, R.nx p h0, k, a.less fun a z => z.elim .inl fun z => by
      rw [z]
      exact .inr h0⟩
  | odt t ks vs =>
    obtain ⟨p, xs, e1, h0, k, a⟩ := o
    have l : ∀ a, (A.X a ∨ a = p) → (Om A e σ a ∨ a = p) := fun a z => z.elim (fun z => .inl (.inl z)) .inr
    exact ⟨p, xs, e1, .inr h0, fun z => R.xt p z h0, k.less l, a.less l⟩
  | bdt t ks vs =>
    obtain ⟨p, xs, e1, h0, k, a⟩ := o
    have l : ∀ a, (A.X a ∨ a = p) → Om A e σ a := fun a z => z.elim .inl fun z => by
      rw [z]
      exact .inr h0
    exact ⟨p, xs, e1, .inl h0, R.nx p h0, k.less l, a.less l⟩
theorem pb_ret (ha : PE X a (RE B W ma)) : PS X (.Return (some a) pos) (RS B W (mRet ma)) := ps_w (ps_ret ha) fun Dd σ H ⟨S, e, g, R, h⟩ =>
  ⟨S, e, g, R, RSK.bind R h fun x g1 v H1 x1 i1 o1 h1 => h1 v H1 (fun b o q n => x1 b o q fun z => n (.inl z)) i1 (vret_of R o1)⟩
theorem rs_lateE {A : Act γ ι} {e : Env} {g g1 : γ} {σ : L2.St} {H H1 : Hp} {r : Rs γ Fl} (R : Rep A e g σ H) (x1 : ExE A H H1) (i1 : A.G.I g1 H1) (h : RSK A W e σ H r Dd) : RSK A W e σ H1 r Dd := RSK.late (R.exe x1 i1) (.exe R x1) h
theorem pb_sif {c : Expr} {p q : List Stmt} (hc : PT X c (RT B W ta)) (hp : PSs X p (RS B W s1)) (hq : PSs X q (RS B W s2)) : PS X (.If c p q pos) (RS B W (mIfS ta s1 s2)) := ps_w (ps_if hc hp hq) fun Dd σ H ⟨S, e, g, R, h⟩ => by
  refine ⟨S, e, g, R, RSK.bind R h fun x g1 v H1 x1 i1 o1 h1 => ?_⟩
  cases o1
  cases x with
  | true =>
    rw [if_pos rfl]
    exact ⟨S, e, g1, R.exe x1 i1, rs_lateE R x1 i1 h1⟩
  | false =>
    rw [if_neg Bool.false_ne_true]
    exact ⟨S, e, g1, R.exe x1 i1, rs_lateE R x1 i1 h1⟩
theorem pb_set {i : Nat} {x : Str} {pos' : Pos} (hN : X.N.Nodup) (hi : X.N[i]? = some x) (hx : Loc X.env.scope x) (ha : PE X a (RE B W ma)) (hs : swapsWith a (some (.Name x pos')) pos.line X.env = pure false := by rfl) (hf : X.fn x = true ∨ X.env.scope.names.lookup x = some .local := by first | exact .inl rfl | exact .inr rfl | assumption) :
    PS X (.Assign [.Name x pos'] a pos) (RS B W (mSet i ma)) := ps_w (ps_set hN hi hx ha hs hf) fun Dd σ H ⟨S, e, g, R, h⟩ => by
  refine ⟨S, e, g, R, RSK.bind R h fun r g1 v H1 x1 i1 o1 h1 => ?_⟩
  have R1 := R.exe x1 i1
  cases r with
  | dat d =>
    have o1' : At B.K (Om ⟨B, S⟩ e σ) H1 v d := o1
    exact h1 _ _ (R1.set o1' i) (.trans R1 (.exe R x1) (.set R1 i))
  | own ds =>
    obtain ⟨R2, ow⟩ := Rep.setO R x1 R1 o1 i
    exact h1 _ _ R2 ⟨fun b o q n => x1 b o q fun z => n (.inl z), ow⟩
  | bor ds => exact h1.elim
  | odt t ks vs =>
    obtain ⟨p, us, rfl, h0, k, a⟩ := o1
    obtain ⟨R2, ow⟩ := R.setN (s' := .owd t ks vs) x1 R1 h0 rfl (fun O hO => ⟨p, us, rfl, k.less hO, a.less hO⟩) i
    exact h1 _ _ R2 ⟨fun b o q n => x1 b o q fun z => n (.inl z), ow⟩
  | bdt t ks vs => exact h1.elim
theorem pb_par {i j : Nat} {x y : Str} {a b : Expr} {px py pt : Pos} {kt k2 pt2} (hc : X.calm = true) (hN : X.N.Nodup) (hi : X.N[i]? = some x) (hj : X.N[j]? = some y) (hij : i ≠ j)
    (hx : X.env.scope.names.lookup x = some .local) (hy : X.env.scope.names.lookup y = some .local) (ha : PE X a (RE B W ma)) (hb : PE X b (RE B W mb))
    (hw : swappedStores [.Tuple [.Name x px, .Name y py] kt pt] (.Tuple [a, b] k2 pt2) X.env = pure (some [x, y]) := by rfl)
    (hs : swapsWithSole [.Tuple [.Name x px, .Name y py] kt pt] (.Tuple [a, b] k2 pt2) pos.line X.env = pure false := by rfl)
    (hsa : starEach [a, b] X.env = (false, eval a X.env) :: starEach [b] X.env := by rfl) (hsb : starEach [b] X.env = (false, eval b X.env) :: starEach [] X.env := by rfl) :
    PS X (.Assign [.Tuple [.Name x px, .Name y py] kt pt] (.Tuple [a, b] k2 pt2) pos) (RS B W (mPar i j ma mb)) := by
  refine ps_w (ps_par hc hN hi hj hij hx hy (pa_cons ha (pa_cons hb pa_nil hsb) hsa) hw hs) fun Dd σ H ⟨S, e, g, R, h⟩ => ?_
  refine ⟨S, e, g, R, RSK.bind R h fun r g1 v H1 x1 i1 o1 h1 => ?_⟩
  have R1 := R.exe x1 i1
  refine ⟨S, e, g1, R1, RSK.bind R1 (rs_lateE R x1 i1 h1) fun r2 g2 v2 H2 x2 i2 o2 h2 => ?_⟩
  have R2 := R1.exe x2 i2
  split at h2
  · rename_i d1 d2
    have a1 : At B.K (Om ⟨B, S⟩ e σ) H2 v d1 := R.at x2 o1
    have a2 : At B.K (Om ⟨B, S⟩ e σ) H2 v2 _ := o2
    refine ⟨v, v2, rfl, ?_⟩
    have R3 := R2.set a1 i
    have s3 := Stp.set (v := v) (d := d1) R2 i
    have a2' := a2.go (s3.go R2)
    exact h2 _ _ (R3.set a2' j) (.trans R2 (.exe R1 x2) (.trans R3 s3 (.set R3 j)))
  · exact h2.elim
end
end PB
set_option Elab.async false
set_option linter.all false
set_option maxRecDepth 100000
set_option maxHeartbeats 4000000
namespace PB
open PySem PySem.Spec PyProof.Rows L2
variable [Kts]
section
variable {γ ι : Type} {B : Bs γ ι} {W : WX} {X : Cx} {pos pz : Pos}
theorem PI.or {tg iter : Expr} {w w' : TI} (h : PI X tg iter w) (h' : PI X tg iter w') : PI X tg iter (fun σ H R => w σ H R ∨ w' σ H R) := ⟨fun pins s σ H R I q => q.elim (h.run pins s σ H R I) (h'.run pins s σ H R I)⟩
def ItOk (A : Act γ ι) (e : Env) (σ : L2.St) (H' : Hp) (J : It) (ds : List D) : Prop := ∀ H1 : Hp, (∀ b o, H' b = some o → ¬ Mu A e σ b → H1 b = some o) →
  (∀ i, ds.length ≤ i → J.stop i H1) ∧ ∀ i d, ds[i]? = some d → J.go i H1 ∧ ∀ x H2, J.yld i H1 x H2 → Nw H1 H2 ∧ ∀ O' : Addr → Prop, (∀ a, O' a → Om A e σ a ∨ H' a = none) → (∀ a, O' a → H1 a ≠ none) → At A.K O' H2 x d
abbrev PIt : Act γ ι → Env → L2.St → Hp → Hp → List D → It → Prop := fun A e σ _ H' ds J => ItOk A e σ H' J ds
abbrev RI (B : Bs γ ι) (W : WX) (m : MI γ) : TI := RG PIt B W m
theorem at_it {A : Act γ ι} {e : Env} {g : γ} {σ : L2.St} {H0 H' H1 : Hp} (R : Rep A e g σ H0) {O' : Addr → Prop} (h1 : ∀ b o, H' b = some o → ¬ Mu A e σ b → H1 b = some o) (h2 : ∀ a, O' a → Om A e σ a ∨ H' a = none) {v : V} {d : D} (h : At A.K (Om A e σ) H' v d) : At A.K O' H1 v d :=
  h.go fun a o q n => ⟨h1 a o q fun z => n (R.muom z), fun z => (h2 a z).elim n fun z => by
    rw [z] at q
    cases q⟩
theorem it_list {A : Act γ ι} {e : Env} {g : γ} {σ : L2.St} {H0 H' : Hp} (R : Rep A e g σ H0) {p : Addr} {xs : List V} {ds : List D} (hp : Rd H' p (.lst xs)) (np : ¬ Mu A e σ p) (al : AtL A.K (Om A e σ) H' xs ds) : ItOk A e σ H' (Itl A.K p) ds := fun H1 h1 => by
  have hp1 : SqL A.K H1 p xs := .inl (hp.elim (fun z => .inl (h1 p _ z np)) fun ⟨o, z⟩ => .inr ⟨o, h1 p _ z np⟩)
  refine ⟨fun i hi => ⟨xs, hp1, by rw [al.length]; exact hi⟩, fun i d hd => ?_⟩
  obtain ⟨v, hv, av⟩ := al.get hd
  refine ⟨⟨xs, v, hp1, hv⟩, fun x H2 hy => ?_⟩
  obtain ⟨e1, hx⟩ := hy
  subst e1
  have : x = v := Option.some.inj ((hx xs hp1).symm.trans hv)
  subst this
  exact ⟨.inl rfl, fun O' h2 h3 => at_it R h1 h2 av⟩
theorem it_tup {A : Act γ ι} {e : Env} {g : γ} {σ : L2.St} {H0 H' : Hp} (R : Rep A e g σ H0) {p : Addr} {xs : List V} {ds : List D} (hp : (H' p = some (.tup xs) ∧ ¬ Om A e σ p) ∨ KT A.K p xs) (al : AtL A.K (Om A e σ) H' xs ds) : ItOk A e σ H' (Itt A.K p) ds := fun H1 h1 => by
  have hp1 : SqT A.K H1 p xs := by
    rcases hp with ⟨a, b⟩ | k
    · exact SqT.of (h1 p _ a fun z => b (R.muom z))
    · exact .inr k.2
  refine ⟨fun i hi => ⟨xs, hp1, by rw [al.length]; exact hi⟩, fun i d hd => ?_⟩
  obtain ⟨v, hv, av⟩ := al.get hd
  refine ⟨⟨xs, v, hp1, hv⟩, fun x H2 hy => ?_⟩
  obtain ⟨e1, hx⟩ := hy
  subst e1
  have : x = v := Option.some.inj ((hx xs hp1).symm.trans hv)
  subst this
  exact ⟨.inl rfl, fun O' h2 h3 => at_it R h1 h2 av⟩
variable {a b c e : Expr} {es : List Expr} {ma mb mc : ME γ} {mr : MA γ} {tg : Expr}
theorem pb_items (hK : B.K = X.K) (h : PE X a (RE B W ma)) : PI X tg a (RI B W (mItems ma)) := by
  refine pi_w (PI.or (pi_list h) (pi_tup h)) fun σ H Q ⟨S, e, g, R, h⟩ => ?_
  cases q : ma e g with
  | no =>
    unfold mItems at h
    rw [q] at h
    exact h.elim
  | ex y g1 =>
    unfold mItems at h
    rw [q] at h
    refine .inl ⟨S, e, g, R, ?_⟩
    show RK _ _ _ _ _ _ (ma e g) _
    rw [q]
    exact h
  | ok r g1 =>
    unfold mItems at h
    rw [q] at h
    obtain ⟨ds, k, h1⟩ := RK.ofO (P := PIt) (A := ⟨B, S⟩) (o := seqOf r) (g := g1) h
    unfold seqOf at k
    split at k
    · cases k
      refine .inr ⟨S, e, g, R, ?_⟩
      show RK _ _ _ _ _ _ (ma e g) _
      rw [q]
      intro v H1 x1 i1 o1
      cases o1 with
      | @tup p xs _ k al =>
      exact ⟨p, rfl, ⟨xs, by rw [← hK]; exact tup_seq k⟩, by rw [← hK]; exact h1 _ H1 x1 i1 (it_tup R k al)⟩
    · cases k
      refine .inl ⟨S, e, g, R, ?_⟩
      show RK _ _ _ _ _ _ (ma e g) _
      rw [q]
      intro v H1 x1 i1 o1
      cases o1 with
      | @lst p xs _ k k2 al =>
      exact ⟨p, rfl, ⟨xs, .inl k⟩, by rw [← hK]; exact h1 _ H1 x1 i1 (it_list R k (fun z => k2 (R.muom z)) al)⟩
    · cases k
      refine .inl ⟨S, e, g, R, ?_⟩
      show RK _ _ _ _ _ _ (ma e g) _
      rw [q]
      intro v H1 x1 i1 o1
      obtain ⟨p, xs, e1, h0, k, al⟩ := o1
      subst e1
      exact ⟨p, rfl, ⟨xs, SqL.of k⟩, by rw [← hK]; exact h1 _ H1 x1 i1 (it_list R (.inl k) (fun z => R.omt (R.muom z) h0) (al.less fun a z => .inl z))⟩
    · cases k
theorem rng_get (lo : Int) (n : Nat) : ∀ i, (rng lo n)[i]? = if i < n then some (.int (lo + i)) else none := by
  induction n generalizing lo with
  | zero => intro i; simp [rng]
  | succ n ih =>
    intro i
    cases i with
    | zero => simp [rng]
    | succ i =>
      simp only [rng, List.getElem?_cons_succ, ih]
      by_cases h : i < n
      · rw [if_pos h, if_pos (by omega)]
        congr 2
        omega
      · rw [if_neg h, if_neg (by omega)]
theorem rng_len (lo : Int) (n : Nat) : (rng lo n).length = n := by
  induction n generalizing lo with
  | zero => rfl
  | succ n ih => simp [rng, ih]
theorem it_rng {A : Act γ ι} {e : Env} {σ : L2.St} {H' : Hp} (lo : Int) (n : Nat) : ItOk A e σ H' (Itr lo n) (rng lo n) := fun H1 h1 => by
  refine ⟨fun i hi => by rw [rng_len] at hi; exact hi, fun i d hd => ?_⟩
  rw [rng_get] at hd
  by_cases hi : i < n
  · rw [if_pos hi] at hd
    cases hd
    refine ⟨hi, fun x H2 hy => ?_⟩
    obtain ⟨e1, e2⟩ := hy
    subst e1 e2
    exact ⟨.inl rfl, fun _ _ _ => .int _⟩
  · rw [if_neg hi] at hd
    cases hd
theorem rngOk_bd {n : Int} (h : RngOk n) : -(2 ^ 62) ≤ n ∧ n < 2 ^ 62 := by
  by_cases h0 : n.natAbs = 0
  · omega
  · have := (Nat.log2_lt h0).mp h
    omega
theorem pb_range1 {p : Pos} (hg : Gl X "range") (hm : X.mg "range" = none) (ha : PE X a (RE B W ma)) (hs : starEach [a] X.env = [(false, eval a X.env)] := by rfl) : PI X tg (.Call (.Name "range" p) [a] [] pos) (RI B W (mRange1 ma)) := by
  refine pi_w (pi_range1 hg hm (pa_cons ha pa_nil (by rw [hs] <;> rfl)) hs) fun σ H Q ⟨S, e, g, R, h⟩ => ?_
  refine ⟨S, e, g, R, RK.bind (.refl H) h fun x g1 vx H1 _ x1 i1 o1 h1 => ?_⟩
  split at h1
  · split at h1
    · rename_i c
      cases o1
      exact ⟨_, rfl, (rngOk_bd c).1, (rngOk_bd c).2, h1 _ H1 x1 i1 (it_rng _ _)⟩
    · exact h1.elim
  · exact h1.elim
theorem zip_get : ∀ (xs ys : List D) (i : Nat), (zipD xs ys)[i]? = match xs[i]?, ys[i]? with
    | some x, some y => some (.tup [x, y])
    | _, _ => none
  | [], ys, i => by cases ys <;> simp [zipD]
  | x :: xs, [], i => by
    simp only [zipD, List.getElem?_nil]
    split <;> first | rfl | (rename_i h; cases h)
  | x :: xs, y :: ys, 0 => rfl
  | x :: xs, y :: ys, i + 1 => by
    simp only [zipD, List.getElem?_cons_succ]
    exact zip_get xs ys i
theorem zip_len : ∀ (xs ys : List D), (zipD xs ys).length = min xs.length ys.length
  | [], ys => by cases ys <;> simp [zipD]
  | x :: xs, [] => by simp [zipD]
  | x :: xs, y :: ys => by
    simp only [zipD, List.length_cons, zip_len xs ys]
    omega
theorem it_zip {A : Act γ ι} {e : Env} {g : γ} {σ : L2.St} {H0 H' : Hp} (R : Rep A e g σ H0) {p q : Addr} {xs ys : List V} {ds es : List D} (hp : Rd H' p (.lst xs)) (np : ¬ Mu A e σ p) (al : AtL A.K (Om A e σ) H' xs ds) (hq : Rd H' q (.lst ys)) (nq : ¬ Mu A e σ q) (al2 : AtL A.K (Om A e σ) H' ys es) :
    ItOk A e σ H' (Itz A.K p q) (zipD ds es) := fun H1 h1 => by
  have hp1 : SqL A.K H1 p xs := .inl (hp.elim (fun z => .inl (h1 p _ z np)) fun ⟨o, z⟩ => .inr ⟨o, h1 p _ z np⟩)
  have hq1 : SqL A.K H1 q ys := .inl (hq.elim (fun z => .inl (h1 q _ z nq)) fun ⟨o, z⟩ => .inr ⟨o, h1 q _ z nq⟩)
  refine ⟨fun i hi => ⟨xs, ys, hp1, hq1, by rw [zip_len] at hi; rw [al.length, al2.length]; omega⟩, fun i d hd => ?_⟩
  rw [zip_get] at hd
  split at hd
  · rename_i x y hx hy
    cases hd
    obtain ⟨v, hv, av⟩ := al.get hx
    obtain ⟨w, hw, aw⟩ := al2.get hy
    refine ⟨⟨xs, ys, v, w, hp1, hq1, hv, hw⟩, fun z H2 hz => ?_⟩
    obtain ⟨T, x', y', rfl, hT, rfl, f1, f2⟩ := hz
    have : x' = v := Option.some.inj ((f1 xs (hp1)).symm.trans hv)
    subst this
    have : y' = w := Option.some.inj ((f2 ys (hq1)).symm.trans hw)
    subst this
    refine ⟨.inr ⟨T, _, hT, rfl⟩, fun O' h2 h3 => ?_⟩
    have up : ∀ {v : V} {d : D}, At A.K O' H1 v d → At A.K O' (upd H1 T (.tup [x', y'])) v d := fun h => h.go fun a o q n => ⟨by rw [upd_ne (ne_of_none q hT)]; exact q, n⟩
    exact .tup (.inl ⟨upd_same, fun z => h3 T z hT⟩) (.cons (up (at_it R h1 h2 av)) (.cons (up (at_it R h1 h2 aw)) .nil))
  · cases hd
theorem it_zipT {A : Act γ ι} {e : Env} {g : γ} {σ : L2.St} {H0 H' : Hp} (R : Rep A e g σ H0) {p q : Addr} {xs ys : List V} {ds es : List D} (hp : (H' p = some (.tup xs) ∧ ¬ Om A e σ p) ∨ KT A.K p xs) (al : AtL A.K (Om A e σ) H' xs ds) (hq : (H' q = some (.tup ys) ∧ ¬ Om A e σ q) ∨ KT A.K q ys) (al2 : AtL A.K (Om A e σ) H' ys es) :
    ItOk A e σ H' (RZ.ItzT A.K p q) (zipD ds es) := fun H1 h1 => by
  have hp1 : SqT A.K H1 p xs := by
    rcases hp with ⟨a, b⟩ | k
    · exact SqT.of (h1 p _ a fun z => b (R.muom z))
    · exact .inr k.2
  have hq1 : SqT A.K H1 q ys := by
    rcases hq with ⟨a, b⟩ | k
    · exact SqT.of (h1 q _ a fun z => b (R.muom z))
    · exact .inr k.2
  refine ⟨fun i hi => ⟨xs, ys, hp1, hq1, by rw [zip_len] at hi; rw [al.length, al2.length]; omega⟩, fun i d hd => ?_⟩
  rw [zip_get] at hd
  split at hd
  · rename_i x y hx hy
    cases hd
    obtain ⟨v, hv, av⟩ := al.get hx
    obtain ⟨w, hw, aw⟩ := al2.get hy
    refine ⟨⟨xs, ys, v, w, hp1, hq1, hv, hw⟩, fun z H2 hz => ?_⟩
    obtain ⟨T, x', y', rfl, hT, rfl, f1, f2⟩ := hz
    have : x' = v := Option.some.inj ((f1 xs hp1).symm.trans hv)
    subst this
    have : y' = w := Option.some.inj ((f2 ys hq1).symm.trans hw)
    subst this
    refine ⟨.inr ⟨T, _, hT, rfl⟩, fun O' h2 h3 => ?_⟩
    have up : ∀ {v : V} {d : D}, At A.K O' H1 v d → At A.K O' (upd H1 T (.tup [x', y'])) v d := fun h => h.go fun a o q n => ⟨by rw [upd_ne (ne_of_none q hT)]; exact q, n⟩
    exact .tup (.inl ⟨upd_same, fun z => h3 T z hT⟩) (.cons (up (at_it R h1 h2 av)) (.cons (up (at_it R h1 h2 aw)) .nil))
  · cases hd
/-- where a new list or a datum's list stands, it is not changed by the run -/
theorem seq_lst {A : Act γ ι} {e : Env} {g : γ} {σ : L2.St} {H0 H1 H : Hp} (R : Rep A e g σ H0) (x : ExE A H0 H1) {g1 : γ} (i : A.G.I g1 H1) {r : Rv} {v : V} {ds : List D} (o : VOk A e σ H1 H r v) (hs : r = .dat (.lst ds) ∨ r = .own ds) : ∃ p xs, v = .ref p ∧ Rd H p (.lst xs) ∧ ¬ Mu A e σ p ∧ AtL A.K (Om A e σ) H xs ds := by
  rcases hs with rfl | rfl
  · cases o with
    | @lst p xs _ k k2 al => exact ⟨p, xs, rfl, k, fun z => k2 (R.muom z), al⟩
  · obtain ⟨p, xs, e1, h0, k, al⟩ := o
    exact ⟨p, xs, e1, .inl k, fun z => R.omt (R.muom z) (x.back h0 i), al.less fun a z => .inl z⟩
theorem pb_zip {p tpos : Pos} {elts : List Expr} {kk : Nat} (hK : B.K = X.K) (hg : Gl X "zip") (hm : X.mg "zip" = none) (ha : PE X a (RE B W ma)) (hb : PE X b (RE B W mb)) (hs : starEach [a, b] X.env = (false, eval a X.env) :: starEach [b] X.env := by rfl) (hs2 : starEach [b] X.env = (false, eval b X.env) :: starEach [] X.env := by rfl)
    (hpl : (backTo pos (starEach [b] X.env)).any (·.1) = false := by rfl) : PI X (.Tuple elts kk tpos) (.Call (.Name "zip" p) [a, b] [] pos) (RI B W (mZip2 ma mb)) := by
  refine pi_w (RZ.pi_zipA hg hm (pa_cons ha (pa_cons hb pa_nil hs2) hs) hs hpl) fun σ H Q ⟨S, e, g, R, h⟩ => ?_
  refine ⟨S, e, g, R, RK.bind (.refl H) h fun x g1 vx H1 _ x1 i1 o1 h1 => ?_⟩
  refine ⟨S, e, g1, R.exe x1 i1, RK.bind x1 h1 fun y g2 vy H2 x12 x2 i2 o2 h2 => ?_⟩
  have o1' := o1.step R x12
  have o2' := o2.pre x1 i1
  rw [← hK]
  obtain ⟨zs, k, h2⟩ := h2.ofO
  unfold zip2 at k
  split at k
  · cases k
    cases o1' with
    | @tup p xs _ k al =>
    cases o2' with
    | @tup q ys _ k2 al2 =>
    exact ⟨p, q, xs, ys, rfl, .inr ⟨tup_seq k, tup_seq k2, h2 _ H2 x2 i2 (it_zipT R k al k2 al2)⟩⟩
  all_goals first
    | (cases k; done)
    | (cases k
       obtain ⟨p, xs, e1, k, n, al⟩ := seq_lst R (.refl H) R.gh o1' (by first | exact .inl rfl | exact .inr rfl)
       obtain ⟨q, ys, e2, k2, n2, al2⟩ := seq_lst R (.refl H) R.gh o2' (by first | exact .inl rfl | exact .inr rfl)
       subst e1 e2
       exact ⟨p, q, xs, ys, rfl, .inl ⟨.inl k, .inl k2, h2 _ H2 x2 i2 (it_zip R k n al k2 n2 al2)⟩⟩)
def TgS (B : Bs γ ι) (g : TG) (tg : MG) (is : List Nat) : Prop := ∀ (S : Addr → Prop) (e : Env) (gm : γ) (σ : L2.St) (H : Hp) (v : V) (d : D) (e' : Env) (Q : L2.St → Hp → Prop), Rep ⟨B, S⟩ e gm σ H → At B.K (Om ⟨B, S⟩ e σ) H v d → tg d e = some e' →
  (∀ σ', Rep ⟨B, S⟩ e' gm σ' H → Stp ⟨B, S⟩ e σ H e' σ' H → σ'.length = σ.length → (∀ j, j ∉ is → gt e' j = gt e j ∧ σ'[j]? = σ[j]?) → Q σ' H) → g v σ H Q
theorem ts_name (i : Nat) : TgS B (gName i) (tgN i) [i] := fun S e gm σ H v d e' Q R a h q => by
  cases h
  refine q _ (R.set a i) (.set R i) List.length_set fun j hj => ?_
  have hj : j ≠ i := by simpa using hj
  rw [gt_st, if_neg (fun z => hj z.1), List.getElem?_set_ne (Ne.symm hj)]
  exact ⟨rfl, rfl⟩
/-- the targets of a tuple, one after another -/
inductive TgL (B : Bs γ ι) : TGs → List Nat → Prop
  | nil : TgL B gNil []
  | cons {u : TGs} {i : Nat} {is : List Nat} (h : TgL B u is) : TgL B (gCons (gName i) u) (i :: is)
theorem ts_list {u : TGs} {is : List Nat} (h : TgL B u is) : ∀ (S : Addr → Prop) (e : Env) (gm : γ) (σ : L2.St) (H : Hp) (vs : List V) (ds : List D) (e' : Env) (Q : L2.St → Hp → Prop), Rep ⟨B, S⟩ e gm σ H → AtL B.K (Om ⟨B, S⟩ e σ) H vs ds → tgL is ds e = some e' →
    (∀ σ', Rep ⟨B, S⟩ e' gm σ' H → Stp ⟨B, S⟩ e σ H e' σ' H → σ'.length = σ.length → (∀ j, j ∉ is → gt e' j = gt e j ∧ σ'[j]? = σ[j]?) → Q σ' H) → u vs σ H Q := by
  induction h with
  | nil =>
    intro S e gm σ H vs ds e' Q R a h q
    cases ds with
    | nil =>
      cases a
      cases h
      exact ⟨rfl, q σ R .refl rfl fun _ _ => ⟨rfl, rfl⟩⟩
    | cons d ds => cases h
  | @cons u i is _ ih =>
    intro S e gm σ H vs ds e' Q R a h q
    cases ds with
    | nil => cases h
    | cons d ds =>
      cases a with
      | @cons v _ vs _ a1 a2 =>
      have R1 := R.set a1 i
      have s1 := Stp.set (v := v) (d := d) R i
      refine ⟨v, vs, rfl, ih S _ gm _ H vs ds e' Q R1 (a2.go (s1.go R)) h fun σ' R' s' l k => q σ' R' (.trans R1 s1 s') (by rw [l, List.length_set]) fun j hj => ?_⟩
      have hj1 : j ≠ i := fun z => hj (by rw [z]; exact List.mem_cons_self)
      obtain ⟨k1, k2⟩ := k j fun z => hj (List.mem_cons_of_mem _ z)
      rw [k1, k2, gt_st, if_neg (fun z => hj1 z.1), List.getElem?_set_ne (Ne.symm hj1)]
      exact ⟨rfl, rfl⟩
theorem tgL_len : ∀ {is : List Nat} {ds : List D} {e e' : Env}, tgL is ds e = some e' → ds.length = is.length
  | [], [], _, _, _ => rfl
  | [], _ :: _, _, _, h => by cases h
  | _ :: _, [], _, _, h => by cases h
  | _ :: is, _ :: ds, _, _, h => by
    rw [List.length_cons, List.length_cons, tgL_len (is := is) (ds := ds) h]
theorem ts_tup {u : TGs} {is : List Nat} {n : Nat} {K : Frag} (hK : B.K = K) (hn : is.length = n) (h : TgL B u is) : TgS B (gTup K n u) (tgT is) is := fun S e gm σ H v d e' Q R a ht q => by
  subst hn hK
  unfold tgT at ht
  split at ht
  · cases a with
    | @tup p xs _ k al =>
    exact ⟨p, xs, rfl, tup_seq k, by rw [al.length]; exact tgL_len ht, ts_list h S e gm σ H xs _ e' Q R al ht q⟩
  · cases ht
theorem drop_at {α : Type} {l : List α} {i : Nat} {d : α} (h : l[i]? = some d) : l.drop i = d :: l.drop (i + 1) := by
  obtain ⟨hl, e⟩ := List.getElem?_eq_some_iff.mp h
  rw [List.drop_eq_getElem_cons hl, e]
theorem pb_for {iter : Expr} {body : List Stmt} {g : TG} {tgm : MG} {is : List Nat} {mi : MI γ} {sb : MS γ} (hp : PassesOwn (model X.prog X.w) X.A X.env X.xe) (hc : X.calm = true) (hi : PI X tg iter (RI B W mi)) (hg : PG X tg g) (ts : TgS B g tgm is) (hb : PSs X body (RS B W sb))
    (hs : ∀ x, foldedSetIterable iter X.env x = pure x := by intro _; rfl) : PS X (.For tg iter body [] pos) (RS B W (mFor mi tgm sb)) := by
  refine ps_w (ps_for hp hc hi hg hb hs) fun Dd σ H ⟨S, e, gm, R, h⟩ => ?_
  refine ⟨S, e, gm, R, RSK.bind R h fun ds g1 J H1 x1 i1 it h1 => ?_⟩
  have R1 := R.exe x1 i1
  have h1' := rs_lateE R x1 i1 h1
  refine ⟨fun i m σ1 H2 => ∃ e1 g2, Rep ⟨B, S⟩ e1 g2 σ1 H2 ∧ Stp ⟨B, S⟩ e σ H1 e1 σ1 H2 ∧ m = ds.length - i ∧ i ≤ ds.length ∧ RSK ⟨B, S⟩ W e1 σ1 H2 (forL tgm sb (ds.drop i) e1 g2) Dd, ⟨ds.length, e, g1, R1, .refl, by simp, Nat.zero_le _, h1'⟩, ?_⟩
  rintro i m σ1 H2 ⟨e1, g2, R2, st2, rfl, hi, h2⟩
  obtain ⟨stop, go⟩ := it H2 st2.keep
  by_cases hlt : i < ds.length
  · obtain ⟨d, hd⟩ : ∃ d, ds[i]? = some d := ⟨ds[i], by simp [hlt]⟩
    obtain ⟨g1', gy⟩ := go i d hd
    rw [drop_at hd] at h2
    unfold forL at h2
    refine .inr ⟨g1', fun σ' H' => ∃ e3 g3, Rep ⟨B, S⟩ e3 g3 σ' H' ∧ Stp ⟨B, S⟩ e σ H1 e3 σ' H' ∧ RSK ⟨B, S⟩ W e3 σ' H' (forL tgm sb (ds.drop (i + 1)) e3 g3) Dd, fun σ' H' ⟨e3, g3, R3, s3, h3⟩ => ⟨ds.length - (i + 1), by omega, e3, g3, R3, s3, rfl, hlt, h3⟩, fun x Hy hy => ?_⟩
    obtain ⟨nw, at1⟩ := gy x Hy hy
    have a1 := at1 (Om ⟨B, S⟩ e1 σ1) (fun a z => z.elim (fun z => .inl (.inl z)) fun z => (st2.mu a z).elim (fun z => .inl (.inr z)) .inr) (fun a z => R2.omt z)
    have Ry := R2.exe nw.exe (nw.gh R2.gh)
    have sy : Stp ⟨B, S⟩ e1 σ1 H2 e1 σ1 Hy := .exe R2 nw.exe
    cases kt : tgm d e1 with
    | none =>
      rw [kt] at h2
      exact h2.elim
    | some e2 =>
      rw [kt] at h2
      refine ts S e1 g2 σ1 Hy x d e2 _ Ry a1 kt fun σ2 R3 s3 _ _ => ?_
      have s13 : Stp ⟨B, S⟩ e1 σ1 H2 e2 σ2 Hy := .trans Ry sy s3
      have h3 := RSK.late R3 s13 h2
      have stq := Stp.trans R2 st2 s13
      refine ⟨S, e2, g2, R3, ?_⟩
      simp only at h3
      cases kb : sb e2 g2 with
      | no =>
        rw [kb] at h3
        exact h3
      | ex y g3 =>
        rw [kb] at h3
        exact h3
      | ok f g3 =>
        rw [kb] at h3
        cases f with
        | nx e3 => exact fun σ' H' R' s' => ⟨e3, g3, R', .trans R3 stq s', RSK.late R' s' h3⟩
        | ct e3 => exact fun σ' H' R' s' => ⟨e3, g3, R', .trans R3 stq s', RSK.late R' s' h3⟩
        | bk e3 => exact h3
        | rt r => exact h3
  · have e2 : i = ds.length := by omega
    subst e2
    rw [List.drop_length] at h2
    exact .inl ⟨stop _ (Nat.le_refl _), h2 σ1 H2 R2 .refl⟩
theorem pb_while {c : Expr} {body : List Stmt} {tc : MT γ} {sb : MS γ} (n : Nat) (hp : PassesOwn (model X.prog X.w) X.A X.env X.xe) (hc : PT X c (RT B W tc)) (hb : PSs X body (RS B W sb)) : PS X (.While c body [] pos) (RS B W (mWhile tc sb n)) := by
  refine ps_w (ps_while hp hc hb) fun Dd σ H ⟨S, e, g, R, h⟩ => ?_
  refine ⟨fun m σ1 H1 => ∃ e1 g1, Rep ⟨B, S⟩ e1 g1 σ1 H1 ∧ RSK ⟨B, S⟩ W e1 σ1 H1 (mWhile tc sb m e1 g1) Dd, ⟨n, e, g, R, h⟩, ?_⟩
  rintro m σ1 H1 ⟨e1, g1, R1, h1⟩
  cases m with
  | zero => exact h1.elim
  | succ m =>
    unfold mWhile at h1
    refine ⟨S, e1, g1, R1, ?_⟩
    cases kc : tc e1 g1 with
    | no =>
      rw [kc] at h1
      exact h1
    | ex y g2 =>
      rw [kc] at h1
      exact fun c od H' x i r => h1 c od σ1 H' (fun b o q n => x b o q fun z => n (.inl z)) i r
    | ok b g2 =>
      rw [kc] at h1
      intro b' H2 x2 i2 eb
      cases eb
      have R2 := R1.exe x2 i2
      have s2 : Stp ⟨B, S⟩ e1 σ1 H1 e1 σ1 H2 := .exe R1 x2
      cases b with
      | false =>
        rw [if_neg Bool.false_ne_true]
        exact h1 σ1 H2 R2 s2
      | true =>
        rw [if_pos rfl]
        refine ⟨fun σ' H' => ∃ e1 g1, Rep ⟨B, S⟩ e1 g1 σ' H' ∧ RSK ⟨B, S⟩ W e1 σ' H' (mWhile tc sb m e1 g1) Dd, fun σ' H' q => ⟨m, Nat.lt_succ_self m, q⟩, S, e1, g2, R2, ?_⟩
        have h3 := RSK.late R2 s2 h1
        simp only at h3
        cases kb : sb e1 g2 with
        | no =>
          rw [kb] at h3
          exact h3
        | ex y g3 =>
          rw [kb] at h3
          exact h3
        | ok f g3 =>
          rw [kb] at h3
          cases f with
          | nx e3 => exact fun σ' H' R' s' => ⟨e3, g3, R', RSK.late R' s' h3⟩
          | ct e3 => exact fun σ' H' R' s' => ⟨e3, g3, R', RSK.late R' s' h3⟩
          | bk e3 => exact h3
          | rt r => exact h3
end
end PB
set_option Elab.async false
set_option linter.all false
set_option maxRecDepth 100000
set_option maxHeartbeats 4000000
namespace PB
open PySem PySem.Spec PyProof.Rows L2
variable [Kts]
section
variable {γ ι : Type} {B : Bs γ ι} {W : WX} {X : Cx} {pos : Pos} {a b c e : Expr} {es : List Expr} {ma mb mc : ME γ} {mr : MA γ} {tg : Expr}
theorem gt_wp : ∀ (is : List Nat) (e : Env) (j : Nat), gt (wp e is) j = if j ∈ is then .un else gt e j
  | [], e, j => by simp [wp]
  | i :: is, e, j => by
    unfold wp
    rw [gt_wp is, gt_st]
    by_cases h : j ∈ is
    · rw [if_pos h, if_pos (List.mem_cons_of_mem _ h)]
    · rw [if_neg h]
      by_cases h2 : j = i
      · subst h2
        rw [if_pos (List.mem_cons_self)]
        by_cases h3 : j < e.length
        · rw [if_pos ⟨rfl, h3⟩]
        · rw [if_neg (fun z => h3 z.2), gt_out (by omega)]
      · rw [if_neg (fun z => h2 z.1), if_neg (by simp [h2, h])]
theorem len_wp : ∀ (is : List Nat) (e : Env), (wp e is).length = e.length
  | [], e => rfl
  | i :: is, e => by
    unfold wp
    rw [len_wp is, len_st]
theorem wipe_get : ∀ (vs : List Nat) (σ : L2.St) (j : Nat), (wipe σ vs)[j]? = if j ∈ vs then (if j < σ.length then some none else none) else σ[j]?
  | [], σ, j => by simp [wipe]
  | v :: vs, σ, j => by
    unfold wipe
    rw [set_at, wipe_length, wipe_get vs σ j]
    by_cases h : j = v
    · subst h
      rw [if_pos List.mem_cons_self]
      by_cases h3 : j < σ.length
      · rw [if_pos ⟨rfl, h3⟩, if_pos h3]
      · rw [if_neg (fun z => h3 z.2), if_neg h3]
        split <;> first | rfl | exact List.getElem?_eq_none (by omega)
    · rw [if_neg (fun z => h z.1)]
      by_cases h2 : j ∈ vs
      · rw [if_pos h2, if_pos (List.mem_cons_of_mem _ h2)]
      · rw [if_neg h2, if_neg (by simp [h, h2])]
theorem wipe_eq {σ σ' : L2.St} {vs is : List Nat} (hl : σ'.length = σ.length) (hs : ∀ i ∈ is, i ∈ vs) (h : ∀ j, j ∉ is → σ'[j]? = (wipe σ vs)[j]?) : wipe σ' vs = wipe σ vs := by
  apply List.ext_getElem?
  intro j
  rw [wipe_get, wipe_get, hl]
  by_cases hj : j ∈ vs
  · rw [if_pos hj, if_pos hj]
  · rw [if_neg hj, if_neg hj, h j (fun z => hj (hs j z)), wipe_get, if_neg hj]
/-- all but what lies beside is kept -/
theorem Rep.exX {A : Act γ ι} {e : Env} {g g' : γ} {σ : L2.St} {H H' : Hp} (R : Rep A e g σ H) (x : ∀ b o, H b = some o → ¬ A.X b → H' b = some o) (t : ∀ a, A.X a → Stk (H' a)) (i : A.G.I g' H') : Rep A e g' σ H' where
  len := R.len
  sl := fun j => by
    have q := R.sl j
    cases h : gt e j with
    | un => trivial
    | dat d =>
      rw [h] at q
      obtain ⟨v, e1, a⟩ := q
      exact ⟨v, e1, a.go fun a o q n => ⟨x a o q fun z => n (.inl z), n⟩⟩
    | own ds =>
      rw [h] at q
      obtain ⟨p, xs, e1, k, a⟩ := q
      exact ⟨p, xs, e1, x p _ k (R.nx p (.of h rfl e1)), a.go fun a o q n => ⟨x a o q fun z => n (.inl z), n⟩⟩
    | xc y =>
      rw [h] at q
      exact ⟨q.1, q.2.go fun p fs k => x p _ k fun z => R.nxd k (.inl z)⟩
    | gh y =>
      rw [h] at q
      exact q
    | owd tt ks vs =>
      rw [h] at q
      obtain ⟨p, us, e1, k, a⟩ := q
      exact ⟨p, us, e1, k.go (fun a o q n => ⟨x a o q fun z => n (.inl z), n⟩) fun o e => x p _ e (R.nx p (.of h rfl e1)), a.go fun a o q n => ⟨x a o q fun z => n (.inl z), n⟩⟩
  inj := R.inj
  nx := R.nx
  gh := i
  fx := R.fx
  xs := t
/-- within a comprehension: the new list lies beside -/
def Bl (A : Act γ ι) (e : Env) (σ : L2.St) (vs : List Nat) (Dp : Addr) : Addr → Prop := fun a => (Om A e σ a ∧ ¬ OwnA (wp e vs) (wipe σ vs) a) ∨ a = Dp
theorem own_wp {e : Env} {σ : L2.St} {vs : List Nat} {a : Addr} (h : OwnA (wp e vs) (wipe σ vs) a) : OwnA e σ a := by
  obtain ⟨j, h1, h2⟩ := h
  rw [gt_wp] at h1
  rw [wipe_get] at h2
  by_cases hj : j ∈ vs
  · rw [if_pos hj] at h1
    cases h1
  · rw [if_neg hj] at h1 h2
    exact ⟨j, h1, h2⟩
theorem bl_om {A : Act γ ι} {e : Env} {σ : L2.St} {vs : List Nat} {Dp a : Addr} : Om ⟨A.B, Bl A e σ vs Dp⟩ (wp e vs) (wipe σ vs) a ↔ (Om A e σ a ∨ a = Dp) := by
  constructor
  · rintro (z | z)
    · exact z.elim (fun z => .inl z.1) .inr
    · exact .inl (.inr (own_wp z))
  · rintro (z | z)
    · by_cases q : OwnA (wp e vs) (wipe σ vs) a
      · exact .inr q
      · exact .inl (.inl ⟨z, q⟩)
    · exact .inl (.inr z)
theorem Rep.blk {A : Act γ ι} {e : Env} {g : γ} {σ : L2.St} {H : Hp} (R : Rep A e g σ H) (vs : List Nat) {Dp : Addr} (hD : H Dp = none) (xs : List V) : Rep ⟨A.B, Bl A e σ vs Dp⟩ (wp e vs) g (wipe σ vs) (upd H Dp (.lst xs)) where
  len := by rw [wipe_length, len_wp, R.len]
  sl := fun j => by
    rw [gt_wp, wipe_get]
    by_cases hj : j ∈ vs
    · rw [if_pos hj]
      trivial
    · rw [if_neg hj, if_neg hj]
      have q := R.sl j
      have go : ∀ a o, H a = some o → ¬ Om A e σ a → upd H Dp (.lst xs) a = some o ∧ ¬ Om ⟨A.B, Bl A e σ vs Dp⟩ (wp e vs) (wipe σ vs) a := fun a o q n => ⟨by rw [upd_ne (ne_of_none q hD)]; exact q, fun z => (bl_om.mp z).elim n fun z => by
        rw [z, hD] at q
        cases q⟩
      cases h : gt e j with
      | un => trivial
      | dat d =>
        rw [h] at q
        obtain ⟨v, e1, a⟩ := q
        exact ⟨v, e1, a.go go⟩
      | own ds =>
        rw [h] at q
        obtain ⟨p, ys, e1, k, a⟩ := q
        exact ⟨p, ys, e1, by rw [upd_ne (ne_of_none k hD)]; exact k, a.go go⟩
      | xc y =>
        rw [h] at q
        exact ⟨q.1, q.2.go fun p fs k => by rw [upd_ne (ne_of_none k hD)]; exact k⟩
      | gh y =>
        rw [h] at q
        exact q
      | owd tt ks us =>
        rw [h] at q
        obtain ⟨p, ys, e1, k, a⟩ := q
        exact ⟨p, ys, e1, k.go go fun o e => by rw [upd_ne (ne_of_none e hD)]; exact e, a.go go⟩
  inj := fun i j p h1 h2 h3 h4 => by
    rw [gt_wp] at h1 h2
    rw [wipe_get] at h3 h4
    by_cases hi : i ∈ vs
    · rw [if_pos hi] at h1
      cases h1
    · by_cases hj : j ∈ vs
      · rw [if_pos hj] at h2
        cases h2
      · rw [if_neg hi] at h1 h3
        rw [if_neg hj] at h2 h4
        exact R.inj i j p h1 h2 h3 h4
  nx := fun a z q => by
    rcases q with q | q
    · exact q.2 z
    · exact ((own_wp z).stk R).1.1 (by rw [q]; exact hD)
  gh := Gho.new R.gh hD
  fx := fun a z => .inl ⟨.inl (R.fx a z), fun q => R.nx a (own_wp q) (R.fx a z)⟩
  xs := fun a z => by
    rcases z with z | z
    · have := R.oms z.1
      by_cases q : a = Dp
      · rw [q]
        exact .lst upd_same
      · rw [upd_ne q]
        exact this
    · rw [z]
      exact .lst upd_same
theorem pts_yes {X : Cx} : PTs X [] (RT B W0 mYes) := ⟨fun pins s σ H Q I ⟨S, e, g, R, h⟩ => pts_nil.run pins s σ H Q I (h true H (.refl H) R.gh rfl)⟩
theorem lc_go {mi : MI γ} {g : TG} {tgm : MG} {is vs : List Nat} {mt : MT γ} {me : ME γ} (ts : TgS B g tgm is) (hsub : ∀ i ∈ is, i ∈ vs) {σ : L2.St} {H : Hp} {Q : VK} (h : RE B W (mLc mi tgm mt me vs) σ H Q) : tLc (RI B W mi) g (RT B W0 mt) (RE B W0 me) vs σ H Q := by
  obtain ⟨S, e, gm, R, h⟩ := h
  refine ⟨S, e, gm, R, RK.bind (.refl H) h fun ds g1 J H1 _ x1 i1 it h1 => fun Dp hD => ?_⟩
  have R1 := R.exe x1 i1
  refine ⟨fun i m H2 => ∃ gi acc av, Rep ⟨B, Bl ⟨B, S⟩ e σ vs Dp⟩ (wp e vs) gi (wipe σ vs) H2 ∧ (∀ b o, H1 b = some o → ¬ (B.fam B.i).F b → H2 b = some o) ∧ H2 Dp = some (.lst av) ∧ AtL B.K (fun a => Om ⟨B, S⟩ e σ a ∨ a = Dp) H2 av acc ∧ m = ds.length - i ∧ i ≤ ds.length ∧
      RK VOk ⟨B, S⟩ W e σ H (lcL tgm mt me (wp e vs) (ds.drop i) acc gi) Q, ⟨ds.length, g1, [], [], R1.blk vs hD [], fun b o q _ => by rw [upd_ne (ne_of_none q hD)]; exact q, upd_same, .nil, by simp, Nat.zero_le _, h1⟩, ?_⟩
  rintro i m H2 ⟨gi, acc, av, Ri, kp, hD2, aacc, rfl, hi, hr⟩
  have nF : ∀ a, (B.fam B.i).F a → H1 a ≠ none := fun a z => (B.fam B.i).trk _ _ _ i1 z
  have DF : ¬ (B.fam B.i).F Dp := fun z => nF Dp z hD
  obtain ⟨stop, go⟩ := it H2 fun b o q n => kp b o q fun z => n (.inl z)
  by_cases hlt : i < ds.length
  · obtain ⟨d, hd⟩ : ∃ d, ds[i]? = some d := ⟨ds[i], by simp [hlt]⟩
    obtain ⟨gJ, gy⟩ := go i d hd
    rw [drop_at hd] at hr
    unfold lcL at hr
    refine .inr ⟨gJ, fun H' => ∃ m', m' < ds.length - i ∧ ∃ gi acc av, Rep ⟨B, Bl ⟨B, S⟩ e σ vs Dp⟩ (wp e vs) gi (wipe σ vs) H' ∧ (∀ b o, H1 b = some o → ¬ (B.fam B.i).F b → H' b = some o) ∧ H' Dp = some (.lst av) ∧ AtL B.K (fun a => Om ⟨B, S⟩ e σ a ∨ a = Dp) H' av acc ∧ m' = ds.length - (i + 1) ∧ i + 1 ≤ ds.length ∧
      RK VOk ⟨B, S⟩ W e σ H (lcL tgm mt me (wp e vs) (ds.drop (i + 1)) acc gi) Q, fun H' q => q, fun x Hy hy => ?_⟩
    obtain ⟨nw, at1⟩ := gy x Hy hy
    have a1 := at1 (Om ⟨B, Bl ⟨B, S⟩ e σ vs Dp⟩ (wp e vs) (wipe σ vs)) (fun a z => (bl_om.mp z).elim .inl fun z => .inr (by rw [z]; exact hD)) (fun a z => Ri.omt z)
    have Ry := Ri.exe nw.exe (nw.gh Ri.gh)
    cases kt : tgm d (wp e vs) with
    | none =>
      rw [kt] at hr
      exact hr.elim
    | some e2 =>
      rw [kt] at hr
      refine ts _ (wp e vs) gi (wipe σ vs) Hy x d e2 _ Ry a1 kt fun σ2 R2 s2 wl kj => ?_
      refine ⟨wipe_eq (by rw [wl, wipe_length]) hsub fun j hj => (kj j hj).2, ?_⟩
      -- what a name holds around the comprehension is held in the turn
      have own2 : ∀ a, OwnA (wp e vs) (wipe σ vs) a → OwnA e2 σ2 a := fun a ⟨j, k1, k2⟩ => by
        have hj : j ∉ is := fun z => by
          rw [gt_wp, if_pos (hsub j z)] at k1
          cases k1
        obtain ⟨q1, q2⟩ := kj j hj
        exact ⟨j, by rw [q1]; exact k1, by rw [q2]; exact k2⟩
      have om2 : ∀ a, (Om ⟨B, S⟩ e σ a ∨ a = Dp) → Om ⟨B, Bl ⟨B, S⟩ e σ vs Dp⟩ e2 σ2 a := fun a z => by
        rcases bl_om.mpr z with q | q
        · exact .inl q
        · exact .inr (own2 a q)
      have nxD : ∀ b, (B.fam B.i).F b → Bl ⟨B, S⟩ e σ vs Dp b := fun b z => R2.fx b z
      refine ⟨_, e2, gi, R2, ?_⟩
      have hr2 : RK VOk ⟨B, S⟩ W e σ H (match mt e2 gi with
        | .ok true g1 => match me e2 g1 with
          | .ok r g2 => match r.sto with
            | some y => if acc.length < SZ then lcL tgm mt me (wp e vs) (ds.drop (i + 1)) (acc ++ [y]) g2 else .no
            | none => .no
          | _ => .no
        | .ok false g1 => lcL tgm mt me (wp e vs) (ds.drop (i + 1)) acc g1
        | _ => .no) Q := hr
      cases km : mt e2 gi with
      | no =>
        rw [km] at hr2
        exact hr2.elim
      | ex y g3 =>
        rw [km] at hr2
        exact hr2.elim
      | ok b g3 =>
        rw [km] at hr2
        intro b' H3 x3 i3 eb
        cases eb
        have R3 := R2.exe x3 i3
        have kp3 : ∀ b o, H1 b = some o → ¬ (B.fam B.i).F b → H3 b = some o := fun b o q n => x3 b o (nw.exe (A := ⟨B, S⟩) b o (kp b o q n) n) n
        have hDy : Hy Dp = some (.lst av) := nw.exe (A := ⟨B, S⟩) Dp _ hD2 DF
        have hD3 : H3 Dp = some (.lst av) := x3 Dp _ hDy DF
        have goD : ∀ {Ha Hb : Hp}, (∀ b o, Ha b = some o → ¬ (B.fam B.i).F b → Hb b = some o) → ∀ a o, Ha a = some o → ¬ (Om ⟨B, S⟩ e σ a ∨ a = Dp) → Hb a = some o ∧ ¬ (Om ⟨B, S⟩ e σ a ∨ a = Dp) := fun {Ha Hb} k a o q n => ⟨k a o q fun z => n (.inl (.inl (R.fx a z))), n⟩
        have acc3 : AtL B.K (fun a => Om ⟨B, S⟩ e σ a ∨ a = Dp) H3 av acc := (aacc.go (goD (nw.exe (A := ⟨B, S⟩)))).go (goD x3)
        cases b with
        | false =>
          rw [if_neg Bool.false_ne_true]
          exact ⟨ds.length - (i + 1), by omega, g3, acc, av, (Ry.exe x3 i3), kp3, hD3, acc3, rfl, hlt, hr2⟩
        | true =>
          rw [if_pos rfl]
          refine ⟨_, e2, g3, R3, ?_⟩
          have hr3 : RK VOk ⟨B, S⟩ W e σ H (match me e2 g3 with
            | .ok r g2 => match r.sto with
              | some y => if acc.length < SZ then lcL tgm mt me (wp e vs) (ds.drop (i + 1)) (acc ++ [y]) g2 else .no
              | none => .no
            | _ => .no) Q := hr2
          cases ke : me e2 g3 with
          | no =>
            rw [ke] at hr3
            exact hr3.elim
          | ex y g4 =>
            rw [ke] at hr3
            exact hr3.elim
          | ok r g4 =>
            rw [ke] at hr3
            intro yv H4 x4 i4 oy
            have hr4 : RK VOk ⟨B, S⟩ W e σ H (match r.sto with
              | some y => if acc.length < SZ then lcL tgm mt me (wp e vs) (ds.drop (i + 1)) (acc ++ [y]) g4 else .no
              | none => .no) Q := hr3
            cases ks : r.sto with
            | none =>
              rw [ks] at hr4
              exact hr4.elim
            | some y =>
              rw [ks] at hr4
              have hr5 : RK VOk ⟨B, S⟩ W e σ H (if acc.length < SZ then lcL tgm mt me (wp e vs) (ds.drop (i + 1)) (acc ++ [y]) g4 else .no) Q := hr4
              by_cases hz : acc.length < SZ
              · rw [if_pos hz] at hr5
                have ay : At B.K (fun a => Om ⟨B, S⟩ e σ a ∨ a = Dp) H4 yv y := (oy.sto R3 ks).less om2
                have hD4 : H4 Dp = some (.lst av) := x4 Dp _ hD3 DF
                have acc4 : AtL B.K (fun a => Om ⟨B, S⟩ e σ a ∨ a = Dp) H4 av acc := acc3.go (goD x4)
                refine ⟨av, hD4, by rw [acc4.length]; exact szlt hz, ds.length - (i + 1), by omega, g4, acc ++ [y], av ++ [yv], ?_, fun b o q n => ?_, upd_same, ?_, rfl, hlt, hr5⟩
                · have R4 := (Ry.exe x3 i3).exe x4 i4
                  refine R4.exX (fun b o q n => ?_) (fun a z => ?_) ((B.fam B.i).stab _ _ _ i4 (fun a z => ?_) (fun a u hu q => by rw [upd_ne (fun z => by rw [z, hD4] at q; cases q; exact hu)]; exact q))
                  · have : b ≠ Dp := fun z => n (.inr z)
                    rw [upd_ne this]
                    exact q
                  · by_cases q : a = Dp
                    · rw [q]
                      exact .lst upd_same
                    · rw [upd_ne q]
                      exact R4.xs a z
                  · have : a ≠ Dp := fun q => DF (by rw [← q]; exact z)
                    rw [upd_ne this]
                · have : b ≠ Dp := ne_of_none q hD
                  rw [upd_ne this]
                  exact x4 b o (kp3 b o q n) n
                · have go : ∀ a o, H4 a = some o → ¬ (Om ⟨B, S⟩ e σ a ∨ a = Dp) → upd H4 Dp (.lst (av ++ [yv])) a = some o ∧ ¬ (Om ⟨B, S⟩ e σ a ∨ a = Dp) := fun a o q n => ⟨by rw [upd_ne (fun z => n (.inr z))]; exact q, n⟩
                  exact (acc4.go go).app (.cons (ay.go go) .nil)
              · rw [if_neg hz] at hr5
                exact hr5.elim
  · have e2 : i = ds.length := by omega
    subst e2
    rw [List.drop_length] at hr
    refine .inl ⟨stop _ (Nat.le_refl _), hr (.ref Dp) H2 (fun b o q n => kp b o (x1 b o q n) n) Ri.gh ⟨Dp, av, rfl, x1.back hD i1, hD2, aacc⟩⟩
theorem pb_lc {elt iter : Expr} {ifs : List Expr} {scope : Scope} {own : List (Str × Nat)} {mi : MI γ} {g : TG} {tgm : MG} {is : List Nat} {mt : MT γ} {me : ME γ} (hc : X.calm = true) (hN : X.N.Nodup) (hi : PI X tg iter (RI B W mi)) (ok : BlkOk X.N X.env.scope scope own)
    (hg : ∀ (s : Shared) (H : Hp) (C : Addr) (cl : List (Str × Addr)) (fp : List Addr), PG (X.blk s H scope (compEnvC scope cl C X.env) fp) tg g) (ts : TgS B g tgm is) (hsub : ∀ i ∈ is, i ∈ own.map (·.2)) (ht : ∀ (s : Shared) (H : Hp) (C : Addr) (cl : List (Str × Addr)) (fp : List Addr), PTs (X.blk s H scope (compEnvC scope cl C X.env) fp) ifs (RT B W0 mt))
    (he : ∀ (s : Shared) (H : Hp) (C : Addr) (cl : List (Str × Addr)) (fp : List Addr), PE (X.blk s H scope (compEnvC scope cl C X.env) fp) elt (RE B W0 me)) (hs : ∀ x, foldedSetIterable iter X.env x = pure x := by intro _; rfl) :
    PE X (.ListComp elt [⟨tg, iter, ifs, 0⟩] scope pos) (RE B W (mLc mi tgm mt me (own.map (·.2)))) := pe_w (pe_lc hc hN hi ok hg ht he hs) fun _ _ _ => lc_go ts hsub
theorem pb_setLc {i : Nat} {y : Str} {py spos : Pos} {elt iter : Expr} {ifs : List Expr} {scope : Scope} {own : List (Str × Nat)} {mi : MI γ} {g : TG} {tgm : MG} {is : List Nat} {mt : MT γ} {me : ME γ} (hc : X.calm = true) (hN : X.N.Nodup) (hy : X.N[i]? = some y) (hyl : X.env.scope.names.lookup y = some .local)
    (hsw : swapsWith (.ListComp elt [⟨tg, iter, ifs, 0⟩] scope pos) (some (.Name y py)) spos.line X.env = pure true) (hi : PI X tg iter (RI B W mi)) (ok : BlkOk X.N X.env.scope scope own)
    (hg : ∀ (s : Shared) (H : Hp) (C : Addr) (cl : List (Str × Addr)) (fp : List Addr), PG (X.blk s H scope (compEnvC scope cl C X.env) fp) tg g) (ts : TgS B g tgm is) (hsub : ∀ i ∈ is, i ∈ own.map (·.2)) (ht : ∀ (s : Shared) (H : Hp) (C : Addr) (cl : List (Str × Addr)) (fp : List Addr), PTs (X.blk s H scope (compEnvC scope cl C X.env) fp) ifs (RT B W0 mt))
    (he : ∀ (s : Shared) (H : Hp) (C : Addr) (cl : List (Str × Addr)) (fp : List Addr), PE (X.blk s H scope (compEnvC scope cl C X.env) fp) elt (RE B W0 me)) (hs : ∀ x, foldedSetIterable iter X.env x = pure x := by intro _; rfl) :
    PS X (.Assign [.Name y py] (.ListComp elt [⟨tg, iter, ifs, 0⟩] scope pos) spos) (RS B W (mSet i (mLc mi tgm mt me (own.map (·.2))))) := by
  refine ps_w (ps_setLc hc hN hy hyl hsw hi ok hg ht he hs) fun Dd σ H ⟨S, e, g, R, h⟩ => ?_
  have q : RE B W (mLc mi tgm mt me (own.map (·.2))) σ H fun v H1 => Dd.nx (σ.set i (some v)) H1 := by
    refine ⟨S, e, g, R, RSK.bind R h fun r g1 v H1 x1 i1 o1 h1 => ?_⟩
    have R1 := R.exe x1 i1
    cases r with
    | dat d =>
      have o1' : At B.K (Om ⟨B, S⟩ e σ) H1 v d := o1
      exact h1 _ _ (R1.set o1' i) (.trans R1 (.exe R x1) (.set R1 i))
    | own ds =>
      obtain ⟨R2, ow⟩ := Rep.setO R x1 R1 o1 i
      exact h1 _ _ R2 ⟨fun b o q n => x1 b o q fun z => n (.inl z), ow⟩
    | bor ds => exact h1.elim
    | odt t ks vs =>
      obtain ⟨p, us, rfl, h0, k, a⟩ := o1
      obtain ⟨R2, ow⟩ := R.setN (s' := .owd t ks vs) x1 R1 h0 rfl (fun O hO => ⟨p, us, rfl, k.less hO, a.less hO⟩) i
      exact h1 _ _ R2 ⟨fun b o q n => x1 b o q fun z => n (.inl z), ow⟩
    | bdt t ks vs => exact h1.elim
  exact lc_go ts hsub q
end
end PB
set_option Elab.async false
set_option linter.all false
set_option maxRecDepth 100000
set_option maxHeartbeats 4000000
namespace PB
open PySem PySem.Spec PyProof.Rows L2
variable [Kts]
section
variable {γ ι : Type} {B : Bs γ ι} {W : WX} {X : Cx} {pos : Pos} {a b c e : Expr} {es : List Expr} {ma mb mc : ME γ} {mr : MA γ} {tg : Expr}
theorem os_isN : OpS1 B oIsN (fun x H Q => Q (.bl (decide (x = .non))) H) := by
  intro S e g g1 σ H0 H x z vx Q R x0 i1 ox hz hq
  have key : ∀ {v : V} {d : D}, At B.K S H v d → (∀ n, d ≠ .ref n) → decide (v = .non) = isNon d := by
    intro v d h hd
    cases h <;> first | rfl | (simp; done) | exact absurd rfl (hd _)
  have w := ox.weak R
  unfold oIsN at hz
  split at hz
  · cases hz
  · cases hz
  · cases hz
  · rename_i hn h2 h3
    cases hz
    have e1 : decide (vx = .non) = isNon x.val := by
      cases x with
      | dat d => exact key w fun n z => hn n (by rw [show d = .ref n from z])
      | own ds => exact key w fun n z => by cases z
      | bor ds => exact key w fun n z => by cases z
      | odt t ks vs => exact absurd rfl (h2 t ks vs)
      | bdt t ks vs => exact absurd rfl (h3 t ks vs)
    rw [e1]
    exact hq _ H (.inl rfl) (.bl _)
theorem pb_isN {j pos'} (ha : PE X a (RE B W ma)) : PE X (.Compare a [.Is] [.Constant .none j pos'] pos) (RE B W (mOp1 oIsN ma)) := pe_w (pe_cmp (pc_isN ha) rfl) fun _ _ _ => re_op1 os_isN
theorem pb_tisN {j pos'} (ha : PE X a (RE B W ma)) : PT X (.Compare a [.Is] [.Constant .none j pos'] pos) (RT B W (mTest (mOp1 oIsN ma))) := pt_w (pt_cmp (pc_isN ha) rfl) fun _ _ _ h => re_op1 os_isN (rt_test h)
/-- isinstance of a built-in class -/
def Ty.nm : Ty → String
  | .int => "int" | .bool => "bool" | .str => "str" | .tuple => "tuple" | .list => "list"
theorem kit_tab (K : Frag) (t n : String) (b : Bool) (h : (t = "NoneType" ∨ t = "int" ∨ t = "bool" ∨ t = "str" ∨ t = "tuple" ∨ t = "list") ∧ (n = "int" ∨ n = "bool" ∨ n = "str" ∨ n = "tuple" ∨ n = "list")) (hb : b = (t == n || (t == "bool" && n == "int"))) : PySem.W.kitOne K (.type t) (.type n) = some b := by
  subst hb
  obtain ⟨h1, h2⟩ := h
  rcases h1 with rfl | rfl | rfl | rfl | rfl | rfl <;> rcases h2 with rfl | rfl | rfl | rfl | rfl <;> exact kit_ty (by decide +kernel)
theorem ty_of {K : Frag} {O : Addr → Prop} {H : Hp} {v : V} {d : D} (h : At K O H v d) (hd : ∀ n, d ≠ .ref n) (hd2 : ∀ t ks vs, d ≠ .dct t ks vs) (T : Ty) : ∃ t, TyX K H v t ∧ PySem.W.kitOne K t (.type T.nm) = some (isTy T d) := by
  cases h with
  | non => exact ⟨_, .base .non, by cases T <;> exact kit_tab K "NoneType" _ _ (by simp [Ty.nm]) (by simp [Ty.nm])⟩
  | bl b => exact ⟨_, .base (.bl b), by cases T <;> exact kit_tab K "bool" _ _ (by simp [Ty.nm]) (by simp [Ty.nm])⟩
  | int i => exact ⟨_, .base (.int i), by cases T <;> exact kit_tab K "int" _ _ (by simp [Ty.nm]) (by simp [Ty.nm])⟩
  | str l h1 h2 => exact ⟨_, .base (.str _), by cases T <;> exact kit_tab K "str" _ _ (by simp [Ty.nm]) (by simp [Ty.nm])⟩
  | @tup a xs ds h1 h2 =>
    refine ⟨.type "tuple", ?_, by cases T <;> exact kit_tab K "tuple" _ _ (by simp [Ty.nm]) (by simp [Ty.nm])⟩
    rcases h1 with ⟨k, _⟩ | ⟨_, o, its, n, k, hc, _⟩
    · exact .base (.tup k)
    · exact .kTuple k hc
  | @lst a xs ds h1 h2 h3 => exact ⟨_, h1.elim (fun z => .base (.lst z)) fun ⟨_, z⟩ => .base (.frz z), by cases T <;> exact kit_tab K "list" _ _ (by simp [Ty.nm]) (by simp [Ty.nm])⟩
  | ref a => exact absurd rfl (hd a)
  | dct _ _ _ => exact absurd rfl (hd2 _ _ _)
/-- isinstance(x, T): the class is no datum -/
theorem pb_isi {p p2 : Pos} {T : Str} (t : Ty) (hK : B.K = X.K) (hg : Gl X "isinstance") (hm : X.mg "isinstance" = none) (hgT : Gl X T) (hmT : X.mg T = none) (hvT : bootBuiltins T = some (.type t.nm)) (ha : PE X a (RE B W ma))
    (hnT : T ≠ "__name__" := by decide) (hdT : (T == ("__debug__" : Str)) = false := by decide)
    (hs : starEach [a, .Name T p2] X.env = (false, eval a X.env) :: starEach [.Name T p2] X.env := by rfl) (hs2 : starEach [.Name T p2] X.env = (false, eval (.Name T p2) X.env) :: starEach [] X.env := by rfl) (hpl : (backTo pos (starEach [.Name T p2] X.env)).any (·.1) = false := by rfl) :
    PE X (.Call (.Name "isinstance" p) [a, .Name T p2] [] pos) (RE B W (mOp1 (oIs t) ma)) := by
  refine pe_w (pe_callB call_isi hg hm (by decide +kernel) (pa_cons ha (pa_cons (pe_bltn (v := .ty t.nm) hgT hmT hvT rfl hnT hdT) pa_nil hs2) hs) (by decide) (by decide) hs hpl) fun σ H Q ⟨S, e, g, R, h⟩ => ?_
  refine ⟨S, e, g, R, RK.bind (.refl H) h fun x g1 vx H1 _ x1 i1 o1 h1 => ?_⟩
  obtain ⟨z, ez, q⟩ := h1.ofO
  have w := o1.weak R
  unfold oIs at ez
  split at ez
  · cases ez
  · cases ez
  · cases ez
  · cases ez
  · rename_i hn hn2 hn3 hn4
    cases ez
    obtain ⟨ty, h2, h3⟩ := ty_of w (by
      cases x with
      | dat d => exact fun n z => hn n (by rw [show d = .ref n from z])
      | own ds => exact fun n z => by cases z
      | bor ds => exact fun n z => by cases z
      | odt t ks vs => exact absurd rfl (hn3 t ks vs)
      | bdt t ks vs => exact absurd rfl (hn4 t ks vs)) (by
      cases x with
      | dat d => exact fun t ks vs z => hn2 t ks vs (by rw [show d = .dct t ks vs from z])
      | own ds => exact fun t ks vs z => by cases z
      | bor ds => exact fun t ks vs z => by cases z
      | odt t ks vs => exact absurd rfl (hn3 t ks vs)
      | bdt t ks vs => exact absurd rfl (hn4 t ks vs)) t
    rw [← hK]
    exact ⟨vx, .ty t.nm, ty, .type t.nm, _, rfl, .ty _, h2, h3, q _ H1 x1 i1 (.bl _)⟩
theorem joinL_eq (s : List Nat) : ∀ l, PB.joinL s l = TL.joinL s l
  | [] => rfl
  | [x] => rfl
  | x :: y :: r => by
    show x ++ s ++ PB.joinL s (y :: r) = x ++ (s ++ TL.joinL s (y :: r))
    rw [joinL_eq s (y :: r), List.append_assoc]
theorem joinL_len (s : List Nat) : ∀ l : List (List Nat), (PB.joinL s l).length ≤ (l.map List.length).sum + s.length * l.length
  | [] => Nat.zero_le _
  | [x] => by simp [PB.joinL]
  | x :: y :: r => by
    have := joinL_len s (y :: r)
    simp only [PB.joinL, List.length_append, List.map_cons, List.sum_cons, List.length_cons] at this ⊢
    rw [Nat.mul_add s.length (r.length + 1) 1]
    omega
theorem joinL_all {p : Nat → Bool} {s : List Nat} (hs : s.all p = true) : ∀ l : List (List Nat), (∀ x ∈ l, x.all p = true) → (PB.joinL s l).all p = true
  | [], _ => rfl
  | [x], h => h x List.mem_cons_self
  | x :: y :: r, h => by
    simp only [PB.joinL, List.all_append, Bool.and_eq_true]
    exact ⟨⟨h x List.mem_cons_self, hs⟩, joinL_all hs (y :: r) fun z hz => h z (List.mem_cons_of_mem _ hz)⟩
theorem pb_join {apos : Pos} (ha : PE X a (RE B W ma)) (hb : PE X b (RE B W mb)) (hK : B.K = X.K) (hs : starEach [b] X.env = [(false, eval b X.env)] := by rfl) (hbase : attributeBase a "join" X.env (eval a X.env) = eval a X.env := by rfl) (hline : (apos.endLine == pos.line) = true := by rfl) :
    PE X (.Call (.Attribute a "join" apos) [b] [] pos) (RE B W (mS1 oJoin ma mb)) := by
  refine pe_w (pe_join ha hb hs hbase hline) fun σ H Q ⟨S, e, g, R, h⟩ => ?_
  refine ⟨S, e, g, R, RK.bind (.refl H) h fun x g1 vx H1 _ x1 i1 o1 h1 => ?_⟩
  split at h1
  · rename_i sep
    cases o1 with
    | str _ k1 k2 =>
    refine ⟨⟨_, rfl⟩, S, e, g1, R.exe x1 i1, RK.bind x1 h1 fun y g2 vy H2 x12 x2 i2 o2 h2 => ?_⟩
    obtain ⟨z, ez, q⟩ := h2.ofO
    have o2' := o2.pre x1 i1
    unfold oJoin at ez
    split at ez
    · rename_i ds kd
      split at ez
      · rename_i ss ks
        split at ez
        · rename_i hl
          cases ez
          obtain ⟨p, xs, rfl, hp, ap⟩ := o2'.items R kd
          obtain ⟨e1, hs'⟩ := ap.dStrs ks
          subst e1
          have e2 : ss.map (fun l => V.str (mkS l)) = (ss.map mkS).map V.str := by simp
          rw [e2] at hp
          refine ⟨mkS sep, p, ss.map mkS, rfl, rfl, .inl ((.inl hp)), ?_, ?_⟩
          · rw [List.map_map, List.length_map, mkS_len]
            have e3 : ((fun x => x.length) ∘ mkS) = (fun l : List Nat => l.length) := by
              funext l
              exact mkS_len l
            rw [e3, Nat.mul_comm ss.length]
            exact hl
          · have e4 : Txt.join (mkS sep) (ss.map mkS) = mkS (PB.joinL sep ss) := by
              apply TL.ext_tl
              rw [TL.join_eq, TL.tl_join, joinL_eq]
              have : (ss.map mkS).map TL.tl = ss := by
                rw [List.map_map]
                have : TL.tl ∘ mkS = id := by
                  funext l
                  exact mkS_list l
                rw [this, List.map_id]
              rw [this]
              rfl
            rw [e4]
            exact q _ H2 x2 i2 (.str _ (Nat.le_trans (joinL_len sep ss) hl) (joinL_all k2 ss fun x hx => (hs' x hx).2))
        · cases ez
      · cases ez
    · cases ez
  · exact h1.elim
theorem pb_tgt {tgm : MG} {is : List Nat} {g : TG} {tge : Expr} (ha : PE X a (RE B W ma)) (hg : PG X tge g) (ts : TgS B g tgm is) (hs : swapsWithSole [tge] a pos.line X.env = pure false := by rfl) (hw : swappedStores [tge] a X.env = pure none := by rfl)
    (h1 : (assignEach [tge] X.env).map (·.2) = [assign tge X.env] := by rfl) : PS X (.Assign [tge] a pos) (RS B W (mTgt tgm ma)) := by
  refine ps_w (ps_asg ha hg hs hw h1) fun Dd σ H ⟨S, e, g, R, h⟩ => ?_
  refine ⟨S, e, g, R, RSK.bind R h fun r g1 v H1 x1 i1 o1 h1 => ?_⟩
  have R1 := R.exe x1 i1
  split at h1
  · rename_i d
    split at h1
    · rename_i e1 kt
      exact ts S e g1 σ H1 v d e1 _ R1 o1 kt fun σ' R' s' _ _ => h1 σ' H1 R' (.trans R1 (.exe R x1) s')
    · exact h1.elim
  · exact h1.elim
/-- what a name holds is changed -/
theorem Rep.upd_any {A : Act γ ι} {e : Env} {g : γ} {σ : L2.St} {H : Hp} (R : Rep A e g σ H) {i : Nat} {s' : Sl} {p : Addr} {u : HO} (hi : (gt e i).hs = true) (hs : s'.hs = true) (hp : σ[i]? = some (some (.ref p))) (hc : Cont u)
    (sok : ∀ O : Addr → Prop, (∀ a o, H a = some o → ¬ Om A e σ a → upd H p u a = some o ∧ ¬ O a) → SlOk A.B O (upd H p u) s' (some (some (.ref p)))) :
    Rep A (st e i s') g σ (upd H p u) ∧ Stp A e σ H (st e i s') σ (upd H p u) := by
  have op : OwnA e σ p := ⟨i, hi, hp⟩
  have hil : i < e.length := by
    by_cases hlt : i < e.length
    · exact hlt
    · rw [gt_out (by omega)] at hi
      cases hi
  have own : ∀ b, OwnA (st e i s') σ b ↔ OwnA e σ b := fun b => by
    constructor
    · rintro ⟨j, h1, h2⟩
      rw [gt_st] at h1
      by_cases c : j = i ∧ i < e.length
      · rw [c.1] at h2
        exact ⟨i, hi, h2⟩
      · rw [if_neg c] at h1
        exact ⟨j, h1, h2⟩
    · rintro ⟨j, h1, h2⟩
      by_cases c : j = i
      · exact ⟨i, by rw [gt_st, if_pos ⟨rfl, hil⟩]; exact hs, by rw [← c]; exact h2⟩
      · exact ⟨j, by rw [gt_st, if_neg (fun z => c z.1)]; exact h1, h2⟩
  have go : ∀ a o, H a = some o → ¬ Om A e σ a → upd H p u a = some o ∧ ¬ Om A (st e i s') σ a := fun a o q n =>
    ⟨by rw [upd_ne (fun z => n (.inr (by rw [z]; exact op)))]; exact q, fun z => z.elim (fun z => n (.inl z)) fun z => n (.inr ((own a).mp z))⟩
  refine ⟨⟨by rw [len_st, R.len], fun j => ?_, fun j k2 q h1 h2 h3 h4 => ?_, fun a z => R.nx a ((own a).mp z), A.G.stab _ _ _ R.gh (fun a z => upd_ne fun q => R.notF op (by rw [← q]; exact z)) (fun a u hu q => by rw [upd_ne (fun z => (op.stk R).notS hu (by rw [← z]; exact q))]; exact q), R.fx, fun a z => ?_⟩, ⟨fun b o q n => by rw [upd_ne (fun z => n (.inr (by rw [z]; exact op)))]; exact q, fun b z => .inl ((own b).mp z)⟩⟩
  · rw [gt_st]
    by_cases c : j = i ∧ i < e.length
    · rw [if_pos c, c.1, hp]
      exact sok _ go
    · rw [if_neg c]
      have q := R.sl j
      cases h : gt e j with
      | un => trivial
      | dat d2 =>
        rw [h] at q
        obtain ⟨w, e1, a1⟩ := q
        exact ⟨w, e1, a1.go go⟩
      | own fs =>
        rw [h] at q
        obtain ⟨q2, zs, e1, k1, a1⟩ := q
        have : q2 ≠ p := fun z => c ⟨R.inj j i p (by rw [h]; rfl) hi (by rw [← z]; exact e1) hp, hil⟩
        exact ⟨q2, zs, e1, by rw [upd_ne this]; exact k1, a1.go go⟩
      | xc y =>
        rw [h] at q
        refine ⟨q.1, q.2.go fun b fs k => ?_⟩
        have : b ≠ p := fun z => R.nxd k (.inr (by rw [z]; exact op))
        rw [upd_ne this]
        exact k
      | gh y =>
        rw [h] at q
        exact q
      | owd tt ks vs =>
        rw [h] at q
        obtain ⟨q2, us, e1, k1, a1⟩ := q
        have : q2 ≠ p := fun z => c ⟨R.inj j i p (by rw [h]; rfl) hi (by rw [← z]; exact e1) hp, hil⟩
        exact ⟨q2, us, e1, k1.go go fun o e => by rw [upd_ne this]; exact e, a1.go go⟩
  · rw [gt_st] at h1 h2
    have f1 : (gt e j).hs = true := by
      by_cases c : j = i ∧ i < e.length
      · rw [c.1]
        exact hi
      · rw [if_neg c] at h1
        exact h1
    have f2 : (gt e k2).hs = true := by
      by_cases c : k2 = i ∧ i < e.length
      · rw [c.1]
        exact hi
      · rw [if_neg c] at h2
        exact h2
    exact R.inj j k2 q f1 f2 h3 h4
  · by_cases q : a = p
    · rw [q]
      exact .of upd_same hc
    · rw [upd_ne q]
      exact R.xs a z
/-- a list that a name holds is changed -/
theorem Rep.upd_own {A : Act γ ι} {e : Env} {g : γ} {σ : L2.St} {H : Hp} (R : Rep A e g σ H) {i : Nat} {ds es : List D} {p : Addr} {ys : List V} (hi : gt e i = .own ds) (hp : σ[i]? = some (some (.ref p))) (al : AtL A.K (Om A e σ) H ys es) :
    Rep A (st e i (.own es)) g σ (upd H p (.lst ys)) ∧ Stp A e σ H (st e i (.own es)) σ (upd H p (.lst ys)) :=
  R.upd_any (by rw [hi]; rfl) rfl hp trivial fun O go => ⟨p, ys, rfl, upd_same, al.go go⟩
theorem pb_app {i : Nat} {x : Str} {px apos : Pos} (hK : B.K = X.K) (hN : X.N[i]? = some x) (ha : PE X a (RE B W ma)) (hv : Vis X.env.scope x := by first | exact Or.inl rfl | exact Or.inr (Or.inl rfl)) (hd : (x == ("__debug__" : Str)) = false := by decide) (hcd : (x == ("__classdict__" : Str)) = false := by decide)
    (hbase : attributeBase (.Name x px) "append" X.env (eval (.Name x px) X.env) = eval (.Name x px) X.env := by rfl)
    (hfew : ((backTo pos (starEach [a] X.env)).all (fun x => !x.1) && (backToKw pos (keywordEach [] X.env)).all (fun x => x.1.isSome)
      && decide ([a].length + ([] : List Keyword).length + (if ([] : List Keyword).isEmpty then 0 else 1) < 30)) = true := by rfl)
    (hline : (apos.endLine == pos.line) = true := by rfl) (hs : starEach [a] X.env = (false, eval a X.env) :: starEach [] X.env := by rfl) (hplain : (backTo pos (starEach [] X.env)).any (·.1) = false := by rfl) {epos : Pos}
    (hsw : swapsWith (.Call (.Attribute (.Name x px) "append" apos) [a] [] pos) none epos.line X.env = pure false := by rfl) :
    PS X (.Expr (.Call (.Attribute (.Name x px) "append" apos) [a] [] pos) epos) (RS B W (mApp i ma)) := by
  refine ps_w (ps_expr (pe_bm PySem.F.plainAttrs_list PySem.F.slot_list_append PySem.F.type_list_append mt_append (pe_var hN hv hd hcd) (pa_cons ha pa_nil hs) hbase hfew hline hs hplain) hsw) fun Dd σ H ⟨S, e, g, R, h⟩ => ?_
  unfold mApp at h
  have sl := R.sl i
  cases k : gt e i with
  | un =>
    rw [k] at h
    exact h.elim
  | dat d =>
    rw [k] at h
    exact h.elim
  | xc y =>
    rw [k] at h
    exact h.elim
  | gh y =>
    rw [k] at h
    exact h.elim
  | owd tt ks vs =>
    rw [k] at h
    exact h.elim
  | own ds =>
    rw [k] at h sl
    obtain ⟨p, xs, ev, hp, al⟩ := sl
    refine ⟨.ref p, ev, .inl ⟨rfl, xs, SqL.of hp⟩, S, e, g, R, RSK.bind R h fun y g1 vy H1 x1 i1 o1 h1 => ?_⟩
    have R1 := R.exe x1 i1
    split at h1
    · rename_i d ks
      split at h1
      · rename_i hz
        have op : OwnA e σ p := .of k rfl ev
        have hp1 : H1 p = some (.lst xs) := x1 p _ hp (R.notF op)
        have al1 := R.atL x1 al
        obtain ⟨R2, s2⟩ := R1.upd_own (es := ds ++ [d]) k ev (al1.app (.cons (o1.sto R ks) .nil))
        exact ⟨p, xs, vy, rfl, rfl, hp1, by rw [al1.length]; exact szlt hz, h1 _ _ R2 (.trans R1 (.exe R x1) s2)⟩
      · exact h1.elim
    · exact h1.elim
theorem pb_put {i : Nat} {x : Str} {px tp : Pos} {ke : Expr} {mk : ME γ} (hN : X.N[i]? = some x) (hk : PE X ke (RE B W mk)) (ha : PE X a (RE B W ma)) (hv : Vis X.env.scope x := by first | exact Or.inl rfl | exact Or.inr (Or.inl rfl)) (hd : (x == ("__debug__" : Str)) = false := by decide) (hcd : (x == ("__classdict__" : Str)) = false := by decide)
    (hasg : ∀ v, assign (.Subscript (.Name x px) ke tp) X.env v = (do
      let ov ← holding [v] (eval (.Name x px) X.env)
      let iv ← holding [v, ov] (eval ke X.env)
      standAt tp
      holding [v, ov, iv] (setItem ov iv v)
      release [v, ov, iv] []) := by intro _; rfl)
    (hs : swapsWithSole [.Subscript (.Name x px) ke tp] a pos.line X.env = pure false := by rfl) (hw : swappedStores [.Subscript (.Name x px) ke tp] a X.env = pure none := by rfl)
    (h1 : (assignEach [.Subscript (.Name x px) ke tp] X.env).map (·.2) = [assign (.Subscript (.Name x px) ke tp) X.env] := by rfl) :
    PS X (.Assign [.Subscript (.Name x px) ke tp] a pos) (RS B W (mPut i mk ma)) := by
  refine ps_w (ps_asg ha (pg_sub (pe_var hN hv hd hcd) hk set_list hasg) hs hw h1) fun Dd σ H ⟨S, e, g, R, h⟩ => ?_
  refine ⟨S, e, g, R, RSK.bind R h fun y g1 vy H1 x1 i1 o1 h1 => ?_⟩
  have R1 := R.exe x1 i1
  have sl := R1.sl i
  cases k : gt e i with
  | un =>
    rw [k] at h1
    exact h1.elim
  | dat d =>
    rw [k] at h1
    exact h1.elim
  | xc y =>
    rw [k] at h1
    exact h1.elim
  | gh y =>
    rw [k] at h1
    exact h1.elim
  | owd tt ks vs =>
    rw [k] at h1
    exact h1.elim
  | own ds =>
    rw [k] at h1 sl
    obtain ⟨p, xs, ev, hp, al⟩ := sl
    refine ⟨.ref p, ev, S, e, g1, R1, RSK.bind R1 (rs_lateE R x1 i1 h1) fun z g2 vz H2 x2 i2 o2 h2 => ?_⟩
    have R2 := R1.exe x2 i2
    split at h2
    · rename_i d n ks
      split at h2
      · rename_i j kj
        cases o2
        have op : OwnA e σ p := .of k rfl ev
        have hp2 : H2 p = some (.lst xs) := x2 p _ hp (R.notF op)
        have al2 := R1.atL x2 al
        have oy := R.at x2 (o1.sto R ks)
        obtain ⟨R3, s3⟩ := R2.upd_own (es := ds.set j d) k ev (al2.set j oy)
        exact ⟨p, xs, n, j, rfl, rfl, hp2, by rw [al2.length]; exact kj, h2 _ _ R3 (.trans R2 (.exe R1 x2) s3)⟩
      · exact h2.elim
    · exact h2.elim
theorem start_rep {A : Act γ ι} {N : List Str} {vs : List V} {ds : List D} {g : γ} {H : Hp} (fx : ∀ a, A.G.F a → A.X a) (xt : ∀ a, A.X a → Stk (H a)) (al : AtL A.K A.X H vs ds) (gh : A.G.I g H) (hn : vs.length ≤ N.length) :
    Rep A (ds.map Sl.dat ++ List.replicate (N.length - ds.length) .un) g (L2.start N vs) H := by
  have hl := al.length
  have gtm : ∀ (ds : List D) (m j : Nat), gt (ds.map Sl.dat ++ List.replicate m .un) j = match ds[j]? with
      | some d => .dat d
      | none => .un := by
    intro ds m
    induction ds with
    | nil =>
      intro j
      simp only [List.map_nil, List.nil_append, List.getElem?_nil]
      induction m generalizing j with
      | zero => rfl
      | succ m ih =>
        rw [List.replicate_succ]
        cases j with
        | zero => rfl
        | succ j => exact ih j
    | cons d ds ih =>
      intro j
      cases j with
      | zero => rfl
      | succ j => exact ih j
  have nown : ∀ σ a, ¬ OwnA (ds.map Sl.dat ++ List.replicate (N.length - ds.length) .un) σ a := fun σ a ⟨j, h1, _⟩ => by
    rw [gtm] at h1
    split at h1 <;> cases h1
  refine ⟨?_, fun j => ?_, fun i j p h1 _ _ _ => ?_, fun a z => absurd z (nown _ a), gh, fx, xt⟩
  · unfold L2.start
    simp only [List.length_append, List.length_map, List.length_replicate]
    omega
  · rw [gtm]
    cases k : ds[j]? with
    | none => trivial
    | some d =>
      obtain ⟨v, hv, av⟩ := al.get k
      refine ⟨v, ?_, av.less fun a z => z.elim id fun z => absurd z (nown _ a)⟩
      have hj : j < vs.length := (List.getElem?_eq_some_iff.mp hv).1
      unfold L2.start
      rw [List.getElem?_append_left (by simpa using hj), List.getElem?_map, hv]
      rfl
  · rw [gtm] at h1
    split at h1 <;> cases h1
section
variable {P : Program} {w : World} {K : Frag} {mg : Str → Option Value} {base : Heap} {Tx : XT} {xa : Addr × Value × Option Addr} {fam : ι → Gho γ}
/-- THE RULE for a def that no exception leaves -/
theorem fn_pb {x qual : Str} {st : Stmt} {f : Addr} {fd : FuncData} {N ps : List Str} {k : Nat} {m : MS γ} {dvs : List V} (F : FunD K x qual (defArgs st) (defBody st) (defScope st) dvs [] f fd) (Sc : FnScope N ps (defScope st)) (hn : ps.length ≤ N.length)
    (hb : ∀ (i : ι) (cdv : Value) (A : Around) (outer : List PySem.Env) (s : Shared) (H : Hp) (E : XK), Room k (A.deeper (envOfC qual (defScope st) s.heap.objs.size f cdv)) →
      PSs (cxOf CX0 P w K mg base N qual (defScope st) f cdv A outer s H E).nox (defBody st) (RS ⟨K, Tx, fam, i, xa⟩ W0 m)) :
    FnOk P w K mg base CX0 (k + 1) f fd ps (spOf K fam ps.length (mDef N.length ps.length m)) := by
  refine F.ok Sc (fun vs H Q E h => ?_) (fun cdv A outer s H vs Q E hr h => ?_)
  · obtain ⟨i, S, ds, g, hl, _⟩ := h
    exact hl
  · obtain ⟨i, S, ds, g, hl, fx, xt, al, gh, hq⟩ := h
    refine ⟨_, (hb i cdv A outer s H E hr).nox, S, _, g, start_rep (A := ⟨⟨K, Tx, fam, i, xa⟩, S⟩) (N := N) fx xt al gh (by omega), ?_⟩
    have nown : ∀ a, ¬ OwnA (ds.map Sl.dat ++ List.replicate (N.length - ds.length) .un) (L2.start N vs) a := fun a ⟨j, h1, h2⟩ => by
      have gtm : ∀ (ds : List D) (m j : Nat), gt (ds.map Sl.dat ++ List.replicate m .un) j = match ds[j]? with
          | some d => .dat d
          | none => .un := by
        intro ds m
        induction ds with
        | nil =>
          intro j
          simp only [List.map_nil, List.nil_append, List.getElem?_nil]
          induction m generalizing j with
          | zero => rfl
          | succ m ih =>
            rw [List.replicate_succ]
            cases j with
            | zero => rfl
            | succ j => exact ih j
        | cons d ds ih =>
          intro j
          cases j with
          | zero => rfl
          | succ j => exact ih j
      rw [gtm] at h1
      split at h1 <;> cases h1
    have nmu : ∀ b, ¬ (fam i).F b → ¬ Mu (⟨⟨K, Tx, fam, i, xa⟩, S⟩ : Act γ ι) (ds.map Sl.dat ++ List.replicate (N.length - ds.length) .un) (L2.start N vs) b := fun b n z => z.elim n (nown b)
    have hdl : ds.length = ps.length := by rw [← al.length]; exact hl
    unfold mDef at hq
    rw [if_pos hdl] at hq
    rw [hdl]
    rw [hdl] at nmu nown
    cases km : m (ds.map Sl.dat ++ List.replicate (N.length - ps.length) .un) g with
    | no =>
      rw [km] at hq
      exact hq
    | ex y g1 =>
      rw [km] at hq
      exact hq.elim
    | ok f g1 =>
      rw [km] at hq
      cases f with
      | nx e' => exact fun σ' H' R' s' => hq .non H' (fun b o q n => s'.keep b o q (nmu b n)) R'.gh .non
      | bk e' => exact hq.elim
      | ct e' => exact hq.elim
      | rt r =>
        intro v H' kp i' vr
        refine hq v H' (fun b o q n => kp b o q (nmu b n)) i' ?_
        have vr' : VRet (⟨⟨K, Tx, fam, i, xa⟩, S⟩ : Act γ ι) _ _ H H' r v := vr
        unfold VRet at vr'
        show FRet K S H H' r.ret v
        cases kr : r.ret with
        | dat d =>
          rw [kr] at vr'
          exact vr'
        | own es =>
          rw [kr] at vr'
          obtain ⟨p, xs, e1, h0, nx, k1, a1⟩ := vr'
          exact ⟨p, xs, e1, h0.elim (fun z => absurd z (nown p)) id, k1, a1⟩
        | bor es =>
          rw [kr] at vr'
          exact vr'.elim
        | odt t ks vs =>
          rw [kr] at vr'
          obtain ⟨p, xs, e1, h0, nx, k1, a1⟩ := vr'
          exact ⟨p, xs, e1, h0.elim (fun z => absurd z (nown p)) id, k1, a1⟩
        | bdt t ks vs =>
          rw [kr] at vr'
          exact vr'.elim
end
end
end PB
set_option Elab.async false
set_option linter.all false
set_option maxRecDepth 100000
set_option maxHeartbeats 4000000
namespace PB
open PySem PySem.Spec PyProof.Rows L2
variable [Kts]
abbrev LI := Addr × Addr × Addr
structure LsAt (i : LI) (s : LS) (H : Hp) : Prop where
  ea : s.a = i.1
  ha : H i.1 = some (.lst [.ref i.2.1, .int s.told, .ref i.2.2, .int (s.cnt : Int)])
  hg : H i.2.1 = some (.lst (s.gr.map V.int))
  hc : H i.2.2 = some (.lst (s.cs.map V.int))
  n1 : i.1 ≠ i.2.1
  n2 : i.1 ≠ i.2.2
  n3 : i.2.1 ≠ i.2.2
def lsG (i : LI) : Gho LS where
  F := fun a => a = i.1 ∨ a = i.2.1 ∨ a = i.2.2
  I := fun s H => LsAt i s H
  stab := fun s H H' h k _ => ⟨h.ea, by rw [k _ (.inl rfl)]; exact h.ha, by rw [k _ (.inr (.inl rfl))]; exact h.hg, by rw [k _ (.inr (.inr rfl))]; exact h.hc, h.n1, h.n2, h.n3⟩
  lsts := fun s H a h k => by
    rcases k with rfl | rfl | rfl
    · exact .lst h.ha
    · exact .lst h.hg
    · exact .lst h.hc
  ad := fun _ => i.1
section
variable {K : Frag} {Tx : XT} {xa : Addr × Value × Option Addr} {ii : LI} {W : WX} {X : Cx} {pos : Pos} {a : Expr} {ma mk : ME LS}
abbrev LB (K : Frag) (Tx : XT) (ii : LI) (xa : Addr × Value × Option Addr) : Bs LS LI := ⟨K, Tx, lsG, ii, xa⟩
theorem st_at {S : Addr → Prop} {e : Env} {s : LS} {σ : L2.St} {H : Hp} {i : Nat} (R : Rep ⟨LB K Tx ii xa, S⟩ e s σ H) (h : isSt e i s = true) : σ[i]? = some (some (.ref ii.1)) ∧ LsAt ii s H := by
  have L : LsAt ii s H := R.gh
  unfold isSt at h
  split at h
  · rename_i a0 hk
    have q := R.sl i
    rw [hk] at q
    obtain ⟨v, e1, av⟩ := q
    have ea : a0 = s.a := eq_of_beq h
    cases av
    rw [e1, ea, L.ea]
    exact ⟨rfl, L⟩
  · cases h
theorem ifst {α β : Type} {P : Act LS LI → Env → L2.St → Hp → Hp → α → β → Prop} {A : Act LS LI} {e : Env} {σ : L2.St} {H : Hp} {c : Bool} {r : Rs LS α} {Q : β → Hp → Prop} (h : RK P A W e σ H (if c = true then r else .no) Q) : c = true ∧ RK P A W e σ H r Q := by
  by_cases hc : c = true
  · rw [if_pos hc] at h
    exact ⟨hc, h⟩
  · rw [if_neg hc] at h
    exact h.elim
theorem pb_told (i : Nat) {x : Str} {px : Pos} {j : Nat} {pj : Pos} (hN : X.N[i]? = some x) (hv : Vis X.env.scope x := by first | exact Or.inl rfl | exact Or.inr (Or.inl rfl)) (hd : (x == ("__debug__" : Str)) = false := by decide) (hcd : (x == ("__classdict__" : Str)) = false := by decide) :
    PE X (.Subscript (.Name x px) (.Constant (.int 1) j pj) pos) (RE (LB K Tx ii xa) W (mTold i)) := by
  refine pe_w (pe_ix ix_list (pe_var hN hv hd hcd) pe_int (fun _ _ => rfl)) fun σ H Q ⟨S, e, s, R, h⟩ => ?_
  obtain ⟨hst, h⟩ := ifst h
  obtain ⟨e1, L⟩ := st_at R hst
  exact ⟨_, e1, ii.1, _, 1, _, rfl, rfl, SqL.of L.ha, rfl, h _ H (.refl H) L (.int _)⟩
theorem pb_cnt (i : Nat) {x : Str} {px : Pos} {j : Nat} {pj : Pos} (hN : X.N[i]? = some x) (hv : Vis X.env.scope x := by first | exact Or.inl rfl | exact Or.inr (Or.inl rfl)) (hd : (x == ("__debug__" : Str)) = false := by decide) (hcd : (x == ("__classdict__" : Str)) = false := by decide) :
    PE X (.Subscript (.Name x px) (.Constant (.int 3) j pj) pos) (RE (LB K Tx ii xa) W (mCnt i)) := by
  refine pe_w (pe_ix ix_list (pe_var hN hv hd hcd) pe_int (fun _ _ => rfl)) fun σ H Q ⟨S, e, s, R, h⟩ => ?_
  obtain ⟨hst, h⟩ := ifst h
  obtain ⟨e1, L⟩ := st_at R hst
  exact ⟨_, e1, ii.1, _, 3, _, rfl, rfl, SqL.of L.ha, rfl, h _ H (.refl H) L (.int _)⟩
theorem emp_map (l : List Int) : (!(l.map V.int).isEmpty) = !l.isEmpty := by cases l <;> rfl
theorem pb_hasG (i : Nat) {x : Str} {px : Pos} {j : Nat} {pj : Pos} (hN : X.N[i]? = some x) (hv : Vis X.env.scope x := by first | exact Or.inl rfl | exact Or.inr (Or.inl rfl)) (hd : (x == ("__debug__" : Str)) = false := by decide) (hcd : (x == ("__classdict__" : Str)) = false := by decide)
    (he : ∀ whole, isTrue (.Subscript (.Name x px) (.Constant (.int 0) j pj) pos) X.env whole = (do let v ← whole; standAt (Expr.pos (.Subscript (.Name x px) (.Constant (.int 0) j pj) pos)); holding [v] (truthy v)) := by intro _; rfl) :
    PT X (.Subscript (.Name x px) (.Constant (.int 0) j pj) pos) (RT (LB K Tx ii xa) W (mHasG i)) := by
  refine pt_w (pt_truth (pe_ix ix_list (pe_var hN hv hd hcd) pe_int (fun _ _ => rfl)) he) fun σ H Q ⟨S, e, s, R, h⟩ => ?_
  obtain ⟨hst, h⟩ := ifst h
  obtain ⟨e1, L⟩ := st_at R hst
  exact ⟨_, e1, ii.1, _, 0, _, rfl, rfl, SqL.of L.ha, rfl, _, .inl ⟨_, SqL.of L.hg, (emp_map _).symm⟩, h _ H (.refl H) L rfl⟩
theorem pb_hasC (i : Nat) {x : Str} {px : Pos} {j : Nat} {pj : Pos} (hN : X.N[i]? = some x) (hv : Vis X.env.scope x := by first | exact Or.inl rfl | exact Or.inr (Or.inl rfl)) (hd : (x == ("__debug__" : Str)) = false := by decide) (hcd : (x == ("__classdict__" : Str)) = false := by decide)
    (he : ∀ whole, isTrue (.Subscript (.Name x px) (.Constant (.int 2) j pj) pos) X.env whole = (do let v ← whole; standAt (Expr.pos (.Subscript (.Name x px) (.Constant (.int 2) j pj) pos)); holding [v] (truthy v)) := by intro _; rfl) :
    PT X (.Subscript (.Name x px) (.Constant (.int 2) j pj) pos) (RT (LB K Tx ii xa) W (mHasC i)) := by
  refine pt_w (pt_truth (pe_ix ix_list (pe_var hN hv hd hcd) pe_int (fun _ _ => rfl)) he) fun σ H Q ⟨S, e, s, R, h⟩ => ?_
  obtain ⟨hst, h⟩ := ifst h
  obtain ⟨e1, L⟩ := st_at R hst
  exact ⟨_, e1, ii.1, _, 2, _, rfl, rfl, SqL.of L.ha, rfl, _, .inl ⟨_, SqL.of L.hc, (emp_map _).symm⟩, h _ H (.refl H) L rfl⟩
theorem pb_lenC (i : Nat) {x : Str} {px p pl : Pos} {j : Nat} {pj : Pos} (hN : X.N[i]? = some x) (hg : Gl X "len") (hm : X.mg "len" = none) (hv : Vis X.env.scope x := by first | exact Or.inl rfl | exact Or.inr (Or.inl rfl)) (hd : (x == ("__debug__" : Str)) = false := by decide) (hcd : (x == ("__classdict__" : Str)) = false := by decide)
    (hs : starEach [.Subscript (.Name x px) (.Constant (.int 2) j pj) p] X.env = (false, eval (.Subscript (.Name x px) (.Constant (.int 2) j pj) p) X.env) :: starEach [] X.env := by rfl) (hpl : (backTo pos (starEach [] X.env)).any (·.1) = false := by rfl) :
    PE X (.Call (.Name "len" pl) [.Subscript (.Name x px) (.Constant (.int 2) j pj) p] [] pos) (RE (LB K Tx ii xa) W (mLenC i)) := by
  refine pe_w (pe_callB call_len_seq hg hm PySem.boot_len (pa_cons (pe_ix ix_list (pe_var hN hv hd hcd) pe_int (fun _ _ => rfl)) pa_nil hs) (by decide) (by decide) hs hpl) fun σ H Q ⟨S, e, s, R, h⟩ => ?_
  obtain ⟨hst, h⟩ := ifst h
  obtain ⟨e1, L⟩ := st_at R hst
  refine ⟨_, e1, ii.1, _, 2, _, rfl, rfl, SqL.of L.ha, rfl, ii.2.2, _, rfl, .inl (SqL.of L.hc), ?_⟩
  rw [List.length_map]
  exact h _ H (.refl H) L (.int _)
theorem atI_map (l : List Int) (n : Int) : L2.atI (l.map V.int) n = (PB.atI l n).map V.int := by
  unfold L2.atI PB.atI
  rw [List.length_map, ixN_eq]
  cases L2.ixN l.length n with
  | none => rfl
  | some j => simp
theorem pb_atC (i : Nat) {x : Str} {px p : Pos} {j : Nat} {pj : Pos} {k : Expr} (hN : X.N[i]? = some x) (hk : PE X k (RE (LB K Tx ii xa) W mk)) (hp : PlainIx k) (hv : Vis X.env.scope x := by first | exact Or.inl rfl | exact Or.inr (Or.inl rfl)) (hd : (x == ("__debug__" : Str)) = false := by decide) (hcd : (x == ("__classdict__" : Str)) = false := by decide) :
    PE X (.Subscript (.Subscript (.Name x px) (.Constant (.int 2) j pj) p) k pos) (RE (LB K Tx ii xa) W (mAtC i mk)) := by
  refine pe_w (pe_ix ix_list (pe_ix ix_list (pe_var hN hv hd hcd) pe_int (fun _ _ => rfl)) hk hp) fun σ H Q ⟨S, e, s, R, h⟩ => ?_
  obtain ⟨hst, h⟩ := ifst h
  obtain ⟨e1, L⟩ := st_at R hst
  refine ⟨_, e1, ii.1, _, 2, _, rfl, rfl, SqL.of L.ha, rfl, S, e, s, R, RK.bind (.refl H) h fun y s1 vy H1 _ x1 i1 o1 h1 => ?_⟩
  split at h1
  · rename_i n
    obtain ⟨hst1, h1⟩ := ifst h1
    obtain ⟨v, ev, q⟩ := h1.ofO
    obtain ⟨_, L1⟩ := st_at (R.exe x1 i1) hst1
    cases o1
    cases k2 : PB.atI s1.cs n with
    | none =>
      rw [k2] at ev
      cases ev
    | some z =>
      rw [k2] at ev
      cases ev
      exact ⟨ii.2.2, _, n, .int z, rfl, rfl, SqL.of L1.hc, by rw [atI_map, k2]; rfl, q _ H1 x1 i1 (.int _)⟩
  · exact h1.elim
/-- the state changes -/
theorem ls_step {S : Addr → Prop} {e : Env} {s s' : LS} {σ : L2.St} {H H' : Hp} (R : Rep ⟨LB K Tx ii xa, S⟩ e s σ H) (k : ∀ a, a ≠ ii.1 → a ≠ ii.2.1 → H' a = H a) (L : LsAt ii s' H') : Rep ⟨LB K Tx ii xa, S⟩ e s' σ H' ∧ Stp ⟨LB K Tx ii xa, S⟩ e σ H e σ H' := by
  have x : ExE (⟨LB K Tx ii xa, S⟩ : Act LS LI) H H' := fun b o q n => by
    rw [k b (fun z => n (.inl z)) (fun z => n (.inr (.inl z)))]
    exact q
  exact ⟨R.exe x L, .exe R x⟩
theorem pb_setTold (i : Nat) {x : Str} {px : Pos} {j : Nat} {pj tp : Pos} (hN : X.N[i]? = some x) (ha : PE X a (RE (LB K Tx ii xa) W ma)) (hv : Vis X.env.scope x := by first | exact Or.inl rfl | exact Or.inr (Or.inl rfl)) (hd : (x == ("__debug__" : Str)) = false := by decide) (hcd : (x == ("__classdict__" : Str)) = false := by decide)
    (hasg : ∀ v, assign (.Subscript (.Name x px) (.Constant (.int 1) j pj) tp) X.env v = (do
      let ov ← holding [v] (eval (.Name x px) X.env)
      let iv ← holding [v, ov] (eval (.Constant (.int 1) j pj) X.env)
      standAt tp
      holding [v, ov, iv] (setItem ov iv v)
      release [v, ov, iv] []) := by intro _; rfl)
    (hs : swapsWithSole [.Subscript (.Name x px) (.Constant (.int 1) j pj) tp] a pos.line X.env = pure false := by rfl) (hw : swappedStores [.Subscript (.Name x px) (.Constant (.int 1) j pj) tp] a X.env = pure none := by rfl)
    (h1 : (assignEach [.Subscript (.Name x px) (.Constant (.int 1) j pj) tp] X.env).map (·.2) = [assign (.Subscript (.Name x px) (.Constant (.int 1) j pj) tp) X.env] := by rfl) :
    PS X (.Assign [.Subscript (.Name x px) (.Constant (.int 1) j pj) tp] a pos) (RS (LB K Tx ii xa) W (mSetTold i ma)) := by
  refine ps_w (ps_asg ha (pg_sub (pe_var hN hv hd hcd) pe_int set_list hasg) hs hw h1) fun Dd σ H ⟨S, e, s, R, h⟩ => ?_
  refine ⟨S, e, s, R, RSK.bind R h fun y s1 vy H1 x1 i1 o1 h1 => ?_⟩
  have R1 := R.exe x1 i1
  split at h1
  · rename_i n
    by_cases hst : isSt e i s1 = true
    · rw [if_pos hst] at h1
      obtain ⟨e1, L⟩ := st_at R1 hst
      cases o1
      refine ⟨_, e1, ii.1, _, 1, 1, rfl, rfl, L.ha, rfl, ?_⟩
      obtain ⟨R2, s2⟩ := ls_step (s' := { s1 with told := n }) R1 (fun b n1 n2 => upd_ne n1) ⟨L.ea, upd_same, by rw [upd_ne (Ne.symm L.n1)]; exact L.hg, by rw [upd_ne (Ne.symm L.n2)]; exact L.hc, L.n1, L.n2, L.n3⟩
      exact h1 σ _ R2 (.trans R1 (.exe R x1) s2)
    · rw [if_neg hst] at h1
      exact h1.elim
  · exact h1.elim
theorem pb_popG (i : Nat) {x : Str} {px px2 : Pos} {j j0 jz : Nat} {pj pj0 pjz tp p0 apos cpos : Pos} (hN : X.N[i]? = some x) (hv : Vis X.env.scope x := by first | exact Or.inl rfl | exact Or.inr (Or.inl rfl)) (hd : (x == ("__debug__" : Str)) = false := by decide) (hcd : (x == ("__classdict__" : Str)) = false := by decide)
    (hasg : ∀ v, assign (.Subscript (.Name x px) (.Constant (.int 1) j pj) tp) X.env v = (do
      let ov ← holding [v] (eval (.Name x px) X.env)
      let iv ← holding [v, ov] (eval (.Constant (.int 1) j pj) X.env)
      standAt tp
      holding [v, ov, iv] (setItem ov iv v)
      release [v, ov, iv] []) := by intro _; rfl)
    (hbase : attributeBase (.Subscript (.Name x px2) (.Constant (.int 0) j0 pj0) p0) "pop" X.env (eval (.Subscript (.Name x px2) (.Constant (.int 0) j0 pj0) p0) X.env) = eval (.Subscript (.Name x px2) (.Constant (.int 0) j0 pj0) p0) X.env := by rfl)
    (hfew : ((backTo cpos (starEach [.Constant (.int 0) jz pjz] X.env)).all (fun x => !x.1) && (backToKw cpos (keywordEach [] X.env)).all (fun x => x.1.isSome)
      && decide ([Expr.Constant (.int 0) jz pjz].length + ([] : List Keyword).length + (if ([] : List Keyword).isEmpty then 0 else 1) < 30)) = true := by rfl)
    (hline : (apos.endLine == cpos.line) = true := by rfl) (hsa : starEach [.Constant (.int 0) jz pjz] X.env = (false, eval (.Constant (.int 0) jz pjz) X.env) :: starEach [] X.env := by rfl) (hplain : (backTo cpos (starEach [] X.env)).any (·.1) = false := by rfl)
    (hs : swapsWithSole [.Subscript (.Name x px) (.Constant (.int 1) j pj) tp] (.Call (.Attribute (.Subscript (.Name x px2) (.Constant (.int 0) j0 pj0) p0) "pop" apos) [.Constant (.int 0) jz pjz] [] cpos) pos.line X.env = pure false := by rfl)
    (hw : swappedStores [.Subscript (.Name x px) (.Constant (.int 1) j pj) tp] (.Call (.Attribute (.Subscript (.Name x px2) (.Constant (.int 0) j0 pj0) p0) "pop" apos) [.Constant (.int 0) jz pjz] [] cpos) X.env = pure none := by rfl)
    (h1 : (assignEach [.Subscript (.Name x px) (.Constant (.int 1) j pj) tp] X.env).map (·.2) = [assign (.Subscript (.Name x px) (.Constant (.int 1) j pj) tp) X.env] := by rfl) :
    PS X (.Assign [.Subscript (.Name x px) (.Constant (.int 1) j pj) tp] (.Call (.Attribute (.Subscript (.Name x px2) (.Constant (.int 0) j0 pj0) p0) "pop" apos) [.Constant (.int 0) jz pjz] [] cpos) pos) (RS (LB K Tx ii xa) W (mPopG i)) := by
  refine ps_w (ps_asg (pe_bm PySem.F.plainAttrs_list PySem.F.slot_list_pop PySem.F.type_list_pop mt_popAt (pe_ix ix_list (pe_var hN hv hd hcd) pe_int (fun _ _ => rfl)) (pa_cons pe_int pa_nil hsa) hbase hfew hline hsa hplain) (pg_sub (pe_var hN hv hd hcd) pe_int set_list hasg) hs hw h1) fun Dd σ H ⟨S, e, s, R, h⟩ => ?_
  unfold mPopG at h
  by_cases hst : isSt e i s = true
  · rw [if_pos hst] at h
    obtain ⟨e1, L⟩ := st_at R hst
    split at h
    · rename_i y r hgr
      have hg := L.hg
      rw [hgr] at hg
      refine ⟨_, e1, ii.1, _, 0, _, rfl, rfl, SqL.of L.ha, rfl, .inl ⟨rfl, _, SqL.of hg⟩, ii.2.1, _, 0, 0, .int y, rfl, rfl, hg, by decide, by decide, by simp [seqIndex?], rfl, ?_⟩
      have ha2 : upd H ii.2.1 (.lst ((List.map V.int (y :: r)).eraseIdx 0)) ii.1 = _ := (upd_ne L.n1).trans L.ha
      refine ⟨_, e1, ii.1, _, 1, 1, rfl, rfl, ha2, rfl, ?_⟩
      obtain ⟨R2, s2⟩ := ls_step (s' := { s with gr := r, told := y }) (H' := upd (upd H ii.2.1 (.lst ((List.map V.int (y :: r)).eraseIdx 0))) ii.1 (.lst ([V.ref ii.2.1, .int s.told, .ref ii.2.2, .int (s.cnt : Int)].set 1 (.int y)))) R (fun b n1 n2 => by rw [upd_ne n1, upd_ne n2]) ⟨L.ea, upd_same, by rw [upd_ne (Ne.symm L.n1), upd_same]; rfl, by rw [upd_ne (Ne.symm L.n2), upd_ne (Ne.symm L.n3)]; exact L.hc, L.n1, L.n2, L.n3⟩
      exact h σ _ R2 s2
    · exact h.elim
  · rw [if_neg hst] at h
    exact h.elim
theorem get_list : PGet X (rIxL X.K) := by
  intro pins s σ H o i ov iv Q I ro ri h
  obtain ⟨p, xs, k, z, rfl, rfl, hq, he, q⟩ := h
  cases ro
  obtain ⟨t, rfl⟩ := ri
  obtain ⟨its, r, pl, hz⟩ := I.list hq
  obtain ⟨j, h1, h2, h3, h4, h5⟩ := atI_get he
  obtain ⟨w, ew, rw'⟩ := r.get h2
  have hl := r.length
  have hn := line63
  have fin : EP X pins σ Q w s := ⟨z, H, I, rw', q⟩
  by_cases h0 : 0 ≤ k
  · have hj : k.toNat = j := by
      rw [seqIndex_of h0 h5] at h1
      exact Option.some.inj h1
    exact wpAny_getItem_list pl.isList h0 (by omega) (by rw [hj]; simpa using ew) fin
  · have hj : (k + (its.toArray.size : Int)).toNat = j := by
      rw [seqIndex_neg (by omega) h4] at h1
      rw [List.size_toArray, ← hl]
      exact Option.some.inj h1
    exact wpAny_getItem_list_neg pl.isList (by omega) (by rw [List.size_toArray] <;> omega) (by omega) (by rw [hj]; simpa using ew) fin
theorem pb_incC (i : Nat) {x : Str} {px : Pos} {j jz : Nat} {pj pjz tp : Pos} (hN : X.N[i]? = some x) (hv : Vis X.env.scope x := by first | exact Or.inl rfl | exact Or.inr (Or.inl rfl)) (hd : (x == ("__debug__" : Str)) = false := by decide) (hcd : (x == ("__classdict__" : Str)) = false := by decide)
    (hau : ∀ ov iv new, augStore (.Constant (.int 3) j pj) ov iv new = (do holding [new, ov, iv] (setItem ov iv new); release [new, ov, iv] []; pure .next) := by intros; rfl) :
    PS X (.AugAssign (.Subscript (.Name x px) (.Constant (.int 3) j pj) tp) .Add (.Constant (.int 1) jz pjz) pos) (RS (LB K Tx ii xa) W (mIncC i)) := by
  refine ps_w (ps_augS (pe_var hN hv hd hcd) pe_int get_list pe_int ip_add set_list hau) fun Dd σ H ⟨S, e, s, R, h⟩ => ?_
  unfold mIncC at h
  by_cases hst : isSt e i s = true
  · rw [if_pos hst] at h
    obtain ⟨e1, L⟩ := st_at R hst
    refine ⟨_, e1, ii.1, _, 3, _, rfl, rfl, SqL.of L.ha, rfl, _, 1, rfl, rfl, ii.1, _, 3, 3, rfl, rfl, L.ha, rfl, ?_⟩
    obtain ⟨R2, s2⟩ := ls_step (s' := { s with cnt := s.cnt + 1 }) R (fun b n1 n2 => upd_ne n1) ⟨L.ea, upd_same, by rw [upd_ne (Ne.symm L.n1)]; exact L.hg, by rw [upd_ne (Ne.symm L.n2)]; exact L.hc, L.n1, L.n2, L.n3⟩
    exact h σ _ R2 s2
  · rw [if_neg hst] at h
    exact h.elim
end
end PB
set_option Elab.async false
set_option linter.all false
set_option maxRecDepth 100000
set_option maxHeartbeats 4000000
namespace PB
open PySem PySem.Spec PyProof.Rows L2
variable [Kts]
theorem nm_Eq (b : Expr) : behindInMarks .Eq b = false := nomark b
theorem nm_NotEq (b : Expr) : behindInMarks .NotEq b = false := nomark b
theorem nm_Lt (b : Expr) : behindInMarks .Lt b = false := nomark b
theorem nm_Gt (b : Expr) : behindInMarks .Gt b = false := nomark b
theorem fn_pb2 {γ ι : Type} {P : Program} {w : World} {K : Frag} {mg : Str → Option Value} {base : Heap} {Tx : XT} {xa : Addr × Value × Option Addr} {fam : ι → Gho γ} {x qual : Str} {st : Stmt} {f : Addr} {fd : FuncData} {N ps : List Str} {k : Nat} {dvs : List V} (m : MS γ) (a b : Nat) (F : FunD K x qual (defArgs st) (defBody st) (defScope st) dvs [] f fd) (Sc : FnScope N ps (defScope st)) (ha : N.length = a) (hb' : ps.length = b) (hn : b ≤ a)
    (hb : ∀ (i : ι) (cdv : Value) (A : Around) (outer : List PySem.Env) (s : Shared) (H : Hp) (E : XK), Room k (A.deeper (envOfC qual (defScope st) s.heap.objs.size f cdv)) →
      PSs (cxOf CX0 P w K mg base N qual (defScope st) f cdv A outer s H E).nox (defBody st) (RS ⟨K, Tx, fam, i, xa⟩ W0 m)) :
    FnOk P w K mg base CX0 (k + 1) f fd ps (spOf K fam b (mDef a b m)) := by
  subst ha hb'
  exact fn_pb F Sc hn hb
abbrev FnP (K : Frag) (x : Str) (st : Stmt) (f : Addr) (fd : FuncData) : Prop := FunD K x x (defArgs st) (defBody st) (defScope st) [] [] f fd
theorem FnP.fun {K : Frag} {x : Str} {st : Stmt} {f : Addr} {fd : FuncData} (F : FnP K x st f fd) : Fun K x x st f fd := by
  obtain ⟨oc, od, dV, kV, doc, pm, an, cdv, ct, osl, e, lk, hcd, hD, hK⟩ := F.ex
  rcases hD with ⟨_, rfl⟩ | ⟨e, _⟩
  · exact ⟨⟨oc, od, kV, doc, pm, an, cdv, ct, osl, e, lk, hcd⟩, F.kp⟩
  · exact absurd rfl e
/-- a def as callers know it -/
structure Cal (K : Frag) (mg : Str → Option Value) (x : Str) (st : Stmt) (ps : List Str) (f : Addr) (fd : FuncData) : Prop where
  F : FnP K x st f fd
  g : mg x = some (.ref f)
  b : Binds K fd ps []
theorem pss_ex {ι : Type} {X : Cx} {sts : List Stmt} {t : ι → TS} (h : ∀ i, PSs X sts (t i)) : PSs X sts (fun D σ H => ∃ i, t i D σ H) := ⟨fun pins s σ H D I ⟨i, q⟩ => (h i).run pins s σ H D I q⟩
def spStart (K : Frag) : Sp := fun vs H Q _ => ∃ (a0 : Addr) (ns : List Int), vs = [.ref a0] ∧ SqL K H a0 (ns.map V.int) ∧ ns.length ≤ 63 ∧
  ∀ (i : LI) (s : LS) (H' : Hp), s.Ok → s.cnt = 0 → LsAt i s H' → (∀ b o, H b = some o → H' b = some o) → H i.1 = none → H i.2.1 = none → H i.2.2 = none → Q (.ref i.1) H'
def spLaw (K : Frag) : Sp := fun vs H Q _ => ∃ (a0 : Addr) (ns : List Int), vs = [.ref a0] ∧ SqL K H a0 (ns.map V.int) ∧ ns.length ≤ 63 ∧ ∀ H', Q (.bl true) H'
theorem filter_take {p : Int → Bool} {l : List Int} {i : Nat} {x : Int} (h : l[i]? = some x) : (l.take (i + 1)).filter p = (l.take i).filter p ++ (if p x = true then [x] else []) := by
  rw [List.take_add_one, h, List.filter_append]
  congr 1
  cases hp : p x <;> simp [hp]
theorem map_take {f : Int → Int} {l : List Int} {i : Nat} {x : Int} (h : l[i]? = some x) : (l.take (i + 1)).map f = (l.take i).map f ++ [f x] := by
  rw [List.take_add_one, h, List.map_append]
  rfl
/-- what the readings of the two comprehensions ask -/
theorem lc_great {K : Frag} {a : Addr} {ns : List Int} {σ : L2.St} {H1 : Hp} {Dp : Addr} {Qd : Hp → Prop} {vi : Nat} (hv : vi < σ.length) (hD : H1 Dp = none) (hS : SqL K H1 a (ns.map V.int)) (hl : ns.length ≤ 63) (hd : Qd (upd H1 Dp (.lst ((ns.filter fun x => decide (10 ^ 18 ≤ x)).map V.int)))) :
    ∃ W : Nat → Nat → Hp → Prop, (∃ m, W 0 m (upd H1 Dp (.lst []))) ∧ ∀ i m H, W i m H →
      ((Itl K a).stop i H ∧ Qd H) ∨ ((Itl K a).go i H ∧ ∃ Nx : Hp → Prop, (∀ H', Nx H' → ∃ m', m' < m ∧ W (i + 1) m' H') ∧ ∀ x H', (Itl K a).yld i H x H' → gName vi x (wipe σ [vi]) H' fun σ2 H2 => wipe σ2 [vi] = wipe σ [vi] ∧ tTest (tOp (rI0 fun i j => .bl (decide (j ≤ i))) (tVar vi) (tOp (rI CPow fun i j => .int (i ^ j.toNat)) (tC (.int 10)) (tC (.int 18)))) σ2 H2 fun b H3 =>
        if b = true then tVar vi σ2 H3 fun y H4 => ∃ acc, H4 Dp = some (.lst acc) ∧ acc.length < sizeLine ∧ Nx (upd H4 Dp (.lst (acc ++ [y]))) else Nx H3) := by
  have fr : ∀ {o : HO}, SqL K (upd H1 Dp o) a (ns.map V.int) := fun {o} => by
    rcases hS with (h | ⟨u, h⟩) | h
    · exact .inl (.inl (by rw [upd_ne (ne_of_none h hD)]; exact h))
    · exact .inl (.inr ⟨u, by rw [upd_ne (ne_of_none h hD)]; exact h⟩)
    · exact .inr h
  refine lc_list (K := K) (a := a) (xs := ns.map V.int) (fun i H => H = upd H1 Dp (.lst (((ns.take i).filter fun x => decide (10 ^ 18 ≤ x)).map V.int))) rfl (fun i H _ e => by rw [e]; exact fr) (fun i x H hx e => ?_) (fun H e => ?_)
  · subst e
    rw [List.getElem?_map] at hx
    cases q : ns[i]? with
    | none =>
      rw [q] at hx
      cases hx
    | some z =>
      rw [q] at hx
      cases hx
      have hw : ((wipe σ [vi]).set vi (some (V.int z)))[vi]? = some (some (V.int z)) := by
        rw [set_at, if_pos ⟨rfl, by rw [wipe_length]; exact hv⟩]
      refine ⟨wipe_eq (is := [vi]) (by rw [List.length_set, wipe_length]) (fun i hi => hi) (fun j hj => by rw [List.getElem?_set_ne (fun z => hj (by simp [z]))]), _, hw, _, _, rfl, rfl, ⟨by decide, by decide, by decide⟩, _, _, rfl, rfl, _, rfl, ?_⟩
      have e2 := filter_take (p := fun x => decide (10 ^ 18 ≤ x)) q
      have e3 : (decide (10 ^ (18 : Int).toNat ≤ z)) = decide ((10 : Int) ^ 18 ≤ z) := rfl
      by_cases hz : (10 : Int) ^ 18 ≤ z
      · dsimp only
        rw [e3, if_pos (decide_eq_true hz)]
        refine ⟨_, hw, _, upd_same, ?_, ?_⟩
        · rw [List.length_map]
          refine Nat.lt_of_le_of_lt (List.length_filter_le _ _) ?_
          rw [List.length_take]
          exact szlt (by show _ < 16777216; omega)
        · rw [upd_upd, e2, if_pos (decide_eq_true hz), List.map_append]
          rfl
      · dsimp only
        rw [e3, if_neg (by rw [decide_eq_false hz]; exact Bool.false_ne_true)]
        rw [e2, if_neg (by rw [decide_eq_false hz]; exact Bool.false_ne_true), List.append_nil]
  · rw [e, List.length_map, List.take_length]
    exact hd
theorem lc_cells {K : Frag} {a : Addr} {ns : List Int} {σ : L2.St} {H1 : Hp} {Dp : Addr} {Qd : Hp → Prop} {vi : Nat} (hv : vi < σ.length) (hD : H1 Dp = none) (hS : SqL K H1 a (ns.map V.int)) (hl : ns.length ≤ 63) (hd : Qd (upd H1 Dp (.lst ((ns.map fun x => x % 2147483629).map V.int)))) :
    ∃ W : Nat → Nat → Hp → Prop, (∃ m, W 0 m (upd H1 Dp (.lst []))) ∧ ∀ i m H, W i m H →
      ((Itl K a).stop i H ∧ Qd H) ∨ ((Itl K a).go i H ∧ ∃ Nx : Hp → Prop, (∀ H', Nx H' → ∃ m', m' < m ∧ W (i + 1) m' H') ∧ ∀ x H', (Itl K a).yld i H x H' → gName vi x (wipe σ [vi]) H' fun σ2 H2 => wipe σ2 [vi] = wipe σ [vi] ∧ tYes σ2 H2 fun b H3 =>
        if b = true then tOp (rI (fun _ j => 0 < j) fun i j => .int (i % j)) (tVar vi) (tC (.int 2147483629)) σ2 H3 fun y H4 => ∃ acc, H4 Dp = some (.lst acc) ∧ acc.length < sizeLine ∧ Nx (upd H4 Dp (.lst (acc ++ [y]))) else Nx H3) := by
  have fr : ∀ {o : HO}, SqL K (upd H1 Dp o) a (ns.map V.int) := fun {o} => by
    rcases hS with (h | ⟨u, h⟩) | h
    · exact .inl (.inl (by rw [upd_ne (ne_of_none h hD)]; exact h))
    · exact .inl (.inr ⟨u, by rw [upd_ne (ne_of_none h hD)]; exact h⟩)
    · exact .inr h
  refine lc_list (K := K) (a := a) (xs := ns.map V.int) (fun i H => H = upd H1 Dp (.lst (((ns.take i).map fun x => x % 2147483629).map V.int))) rfl (fun i H _ e => by rw [e]; exact fr) (fun i x H hx e => ?_) (fun H e => ?_)
  · subst e
    rw [List.getElem?_map] at hx
    cases q : ns[i]? with
    | none =>
      rw [q] at hx
      cases hx
    | some z =>
      rw [q] at hx
      cases hx
      have hw : ((wipe σ [vi]).set vi (some (V.int z)))[vi]? = some (some (V.int z)) := by
        rw [set_at, if_pos ⟨rfl, by rw [wipe_length]; exact hv⟩]
      refine ⟨wipe_eq (is := [vi]) (by rw [List.length_set, wipe_length]) (fun i hi => hi) (fun j hj => by rw [List.getElem?_set_ne (fun z => hj (by simp [z]))]), ?_⟩
      unfold tYes
      dsimp only
      rw [if_pos rfl]
      refine ⟨_, hw, _, _, rfl, rfl, (by show (0 : Int) < 2147483629; decide), _, upd_same, ?_, ?_⟩
      · rw [List.length_map, List.length_map, List.length_take]
        exact szlt (by show _ < 16777216; omega)
      · rw [upd_upd, map_take q, List.map_append]
        rfl
  · rw [e, List.length_map, List.take_length]
    exact hd
theorem upd_keep {H : Hp} {p : Addr} {o : HO} (h : H p = none) : ∀ b u, H b = some u → upd H p o b = some u := fun b u e => by
  rw [upd_ne (ne_of_none e h)]
  exact e
/-- the four of a new state, laid one after another -/
theorem ls_made {ns : List Int} {H : Hp} {g c a : Addr} (hg : H g = none) (hc : (upd H g (.lst ((ns.filter fun x => decide (10 ^ 18 ≤ x)).map V.int))) c = none)
    (ha : (upd (upd H g (.lst ((ns.filter fun x => decide (10 ^ 18 ≤ x)).map V.int))) c (.lst ((ns.map fun x => x % 2147483629).map V.int))) a = none) :
    let H3 := upd (upd (upd H g (.lst ((ns.filter fun x => decide (10 ^ 18 ≤ x)).map V.int))) c (.lst ((ns.map fun x => x % 2147483629).map V.int))) a (.lst [.ref g, .int 0, .ref c, .int 0])
    let s : LS := ⟨a, ns.filter fun x => decide (10 ^ 18 ≤ x), 0, ns.map fun x => x % 2147483629, 0⟩
    s.Ok ∧ s.cnt = 0 ∧ LsAt (a, g, c) s H3 ∧ (∀ b o, H b = some o → H3 b = some o) ∧ H a = none ∧ H g = none ∧ H c = none := by
  intro H3 s
  have hcg : c ≠ g := fun z => by
    rw [z, upd_same] at hc
    cases hc
  have hc0 : H c = none := by
    rw [upd_ne hcg] at hc
    exact hc
  have hac : a ≠ c := fun z => by
    rw [z, upd_same] at ha
    cases ha
  rw [upd_ne hac] at ha
  have hag : a ≠ g := fun z => by
    rw [z, upd_same] at ha
    cases ha
  rw [upd_ne hag] at ha
  refine ⟨⟨Int.le_refl 0, fun x hx => ?_, fun x hx => ?_⟩, rfl, ⟨rfl, upd_same, ?_, ?_, hag, hac, hcg.symm⟩, fun b o e => ?_, ha, hg, hc0⟩
  · have h1 := of_decide_eq_true (List.mem_filter.mp hx).2
    have h2 : (0 : Int) < 10 ^ 18 := by decide
    omega
  · obtain ⟨y, _, rfl⟩ := List.mem_map.mp hx
    exact ⟨Int.emod_nonneg _ (by decide), Int.emod_lt_of_pos _ (by decide)⟩
  · show H3 g = _
    show upd _ a _ g = _
    rw [upd_ne (Ne.symm hag), upd_ne (Ne.symm hcg), upd_same]
  · show upd _ a _ c = _
    rw [upd_ne (Ne.symm hac), upd_same]
  · show upd _ a _ b = _
    rw [upd_ne (ne_of_none e ha), upd_ne (ne_of_none e hc0), upd_ne (ne_of_none e hg)]
    exact e
theorem gt_rep (n j : Nat) : gt (List.replicate n .un) j = .un := by
  induction n generalizing j with
  | zero => rfl
  | succ n ih =>
    cases j with
    | zero => rfl
    | succ j => exact ih j
theorem gt_law (d : D) (n j : Nat) : gt (.un :: .dat d :: List.replicate n .un) j = if j = 1 then .dat d else .un := by
  match j with
  | 0 => rfl
  | 1 => rfl
  | j + 2 =>
    rw [if_neg (by omega)]
    exact gt_rep n j
/-- the rest of a law, from its state on -/
theorem law_rest {K : Frag} {Tx : XT} {xa : Addr × Value × Option Addr} {m : MS LS} {n : Nat} {i : LI} {s : LS} {H : Hp} {a0 : V} {Dd : Ends} (hL : LsAt i s H) (hp : ∃ g', m (.un :: .dat (.ref s.a) :: List.replicate n .un) s = .ok (.rt (.dat (.bl true))) g') (hQ : ∀ H', Dd.rt (.bl true) H') :
    RS ⟨K, Tx, lsG, i, xa⟩ W0 m Dd (some a0 :: some (.ref i.1) :: List.replicate n none) H := by
  obtain ⟨g', hp⟩ := hp
  refine ⟨(lsG i).F, .un :: .dat (.ref s.a) :: List.replicate n .un, s, ⟨by simp, fun j => ?_, fun j k p h1 => ?_, fun a ⟨j, h1, _⟩ => ?_, hL, fun a z => z, fun a z => (lsG i).stk _ _ _ hL z⟩, ?_⟩
  · rw [gt_law]
    by_cases hj : j = 1
    · rw [if_pos hj, hj]
      refine ⟨.ref i.1, rfl, ?_⟩
      rw [hL.ea]
      exact .ref _
    · rw [if_neg hj]
      trivial
  · rw [gt_law] at h1
    split at h1 <;> cases h1
  · rw [gt_law] at h1
    split at h1 <;> cases h1
  · rw [hp]
    intro v H' _ _ vr
    have vr' : At K _ H' v (.bl true) := vr
    cases vr'
    exact hQ H'
end PB
set_option Elab.async false
set_option linter.all false
set_option maxRecDepth 100000
set_option maxHeartbeats 4000000
namespace PB
open PySem PySem.Spec PyProof.Rows L2
variable [Kts]
mutual
def conV (K : Frag) : D → Value → Bool
  | .non, .none => true
  | .bl b, .bool c => b == c
  | .int i, .int j _ => decide (i = j)
  | .str l, .str x _ => decide (x = mkS l) && (decide (l.length ≤ SZ) && l.all (· < 0x110000))
  | .tup ds, .ref a => (match K.lookup a with
    | some ⟨.type c, _, .seq its _, _⟩ => decide (c = "tuple") && (decide (its.size ≤ sizeLine) && conL K ds its.toList)
    | _ => false)
  | _, _ => false
def conL (K : Frag) : List D → List Value → Bool
  | [], [] => true
  | d :: ds, u :: us => conV K d u && conL K ds us
  | _, _ => false
end
mutual
theorem conV_ok {K : Frag} : ∀ {d : D} {u : Value}, (Kts.on ∨ scl d = true) → conV K d u = true → ∃ v, RelV v u ∧ ∀ O H, At K O H v d
  | .non, u, on, h => by
    cases u <;> first
      | exact ⟨.non, rfl, fun _ _ => .non⟩
      | (unfold conV at h; cases h)
  | .bl b, u, on, h => by
    cases u <;> first
      | (rename_i c
         have e : b = c := eq_of_beq (show (b == c) = true from h)
         subst e
         exact ⟨.bl b, rfl, fun _ _ => .bl b⟩)
      | (unfold conV at h; cases h)
  | .int i, u, on, h => by
    cases u <;> first
      | (rename_i j t
         have e : i = j := of_decide_eq_true (show decide (i = j) = true from h)
         subst e
         exact ⟨.int i, ⟨t, rfl⟩, fun _ _ => .int i⟩)
      | (unfold conV at h; cases h)
  | .str l, u, on, h => by
    cases u <;> first
      | (rename_i x t
         have h' : (decide (x = mkS l) && (decide (l.length ≤ SZ) && l.all (· < 0x110000))) = true := h
         rw [Bool.and_eq_true, Bool.and_eq_true] at h'
         have e : x = mkS l := of_decide_eq_true h'.1
         subst e
         exact ⟨.str (mkS l), ⟨t, rfl⟩, fun K' _ => .str l (of_decide_eq_true h'.2.1) h'.2.2⟩)
      | (unfold conV at h; cases h)
  | .tup ds, u, on, h => by
    cases u <;> first
      | (rename_i a
         unfold conV at h
         split at h
         · rename_i c dd its n sl hl
           rw [Bool.and_eq_true, Bool.and_eq_true] at h
           have on : Kts.on := on.elim id fun z => nomatch z
           obtain ⟨vs, hv, ha⟩ := conL_ok on h.2.2
           exact ⟨.ref a, rfl, fun O H => .tup (.inr ⟨on, _, its, n, hl, congrArg Value.type (of_decide_eq_true h.1), rfl, of_decide_eq_true h.2.1, hv⟩) (ha O H)⟩
         · cases h)
      | (unfold conV at h; cases h)
  | .lst ds, u, on, h => by unfold conV at h; cases h
  | .ref a, u, on, h => by unfold conV at h; cases h
theorem conL_ok {K : Frag} : ∀ {ds : List D} {us : List Value}, Kts.on → conL K ds us = true → ∃ vs, Vals vs us ∧ ∀ O H, AtL K O H vs ds
  | [], [], _, _ => ⟨[], .nil, fun _ _ => .nil⟩
  | [], _ :: _, _, h => by unfold conL at h; cases h
  | _ :: _, [], _, h => by unfold conL at h; cases h
  | d :: ds, u :: us, on, h => by
    unfold conL at h
    rw [Bool.and_eq_true] at h
    obtain ⟨v, r, a⟩ := conV_ok (.inl on) h.1
    obtain ⟨vs, rs, as⟩ := conL_ok on h.2
    exact ⟨v :: vs, .cons r rs, fun O H => .cons (a O H) (as O H)⟩
end
/-- the module's name x stands for d -/
def ConAt (K : Frag) (mg : Str → Option Value) (x : Str) (d : D) : Prop := ∃ v u, mg x = some u ∧ RelV v u ∧ ∀ O H, At K O H v d
def conG (K : Frag) (x : Str) (d : D) : Bool := match PySem.W.nsIn K mainGlobals x with
  | some (some u) => conV K d u
  | _ => false
theorem conG_ok {K : Frag} {h : Heap} {mg : Str → Option Value} {x : Str} {d : D} (X : K.In h) (G : h.Ns mainGlobals mg) (on : Kts.on ∨ scl d = true) (c : conG K x d = true) : ConAt K mg x d := by
  unfold conG at c
  cases e : PySem.W.nsIn K mainGlobals x with
  | none =>
    rw [e] at c
    cases c
  | some o =>
    rw [e] at c
    cases o with
    | none => cases c
    | some u =>
      obtain ⟨v, r, a⟩ := conV_ok on c
      exact ⟨v, u, PySem.W.mg_of X G e, r, a⟩
/-- .. for a table: texts to data -/
def TabAt (K : Frag) (w : World) (mg : Str → Option Value) (x : Str) (tab : List (List Nat × D)) : Prop := ∃ a, mg x = some (.ref a) ∧ (∃ es n, KDict K w a es n) ∧ ∀ p ∈ tab, ∃ v u, PySem.W.nsIn K a (mkS p.1) = some (some u) ∧ RelV v u ∧ ∀ O H, At K O H v p.2
section
variable {γ ι : Type} {B : Bs γ ι} {W : WX} {X : Cx} {pos : Pos} {a b k : Expr} {ma mb mk : ME γ}
theorem pb_con {x : Str} {d : D} (c : ConAt B.K X.mg x d) (hg : Gl X x) (hd : (x == ("__debug__" : Str)) = false := by decide) : PE X (.Name x pos) (RE B W (mC d)) := by
  obtain ⟨v, u, h1, h2, h3⟩ := c
  exact pb_glob d hg h1 h2 h3 hd
end
end PB
set_option Elab.async false
set_option linter.all false
set_option maxRecDepth 100000
set_option maxHeartbeats 4000000
namespace PB
open PySem PySem.Spec PyProof.Rows L2
end PB
set_option Elab.async false
set_option linter.all false
set_option maxRecDepth 100000
set_option maxHeartbeats 4000000
namespace HT
open PySem PyProof.Rows
section
variable {prog : Program} {w : World} {A : Around} {E : Value → Shared → Prop} {s : Shared}
theorem adjust_rev (n : Nat) : Builtin.Slice.sliceAdjust none none (-1) (n : Int) = ((n : Int) - 1, -1) := by
  unfold Builtin.Slice.sliceAdjust
  rfl
theorem places_rev (n : Nat) : Builtin.Slice.slicePlaces ((n : Int) - 1) (-1) (-1) = n := by
  unfold Builtin.Slice.slicePlaces
  have h1 : ¬ ((-1 : Int) > 0) := by decide
  by_cases h : (n : Int) - 1 > -1
  · simp only [h1, if_false, h, if_true]
    rw [show (- -1 : Int) = 1 by decide, Int.ediv_one]
    omega
  · simp only [h1, if_false, h]
    omega
theorem sliceApplied_rev {sl : Addr} {vl vu vs : Value} {n : Nat} {Q : Int × Int × Nat → Shared → Prop} (hs : s.heap.IsSliceOf sl vl vu vs) (pl : IsPart vl none) (pu : IsPart vu none) (ps : IsPart vs (some (-1)))
    (h : Q ((n : Int) - 1, -1, n) s) : wpAny (model prog w) A (Builtin.Slice.sliceApplied (.ref sl) (pure (n : Int))) Q E s := by
  obtain ⟨os, hos, hcs, hds⟩ := id hs
  unfold Builtin.Slice.sliceApplied Builtin.Slice.sliceFields
  refine wpAny_bind (wpAny_bind (wpAny_field hos hds (x := vl) rfl (wpAny_bind (wpAny_field hos hds (x := vu) rfl (wpAny_bind (wpAny_field hos hds (x := vs) rfl (wpAny_pure ?_)))))))
  refine wpAny_bind (slicePart_ ps ?_)
  show wpAny _ _ (if ((-1 : Int) == 0) = true then _ else _) _ _ s
  rw [if_neg (by decide)]
  refine wpAny_bind (slicePart_ pl (wpAny_bind (slicePart_ pu (wpAny_bind (wpAny_pure ?_)))))
  show wpAny _ _ (match Builtin.Slice.sliceAdjust none none (-1) (n : Int) with | (lo, hi) => pure (lo, (-1 : Int), Builtin.Slice.slicePlaces lo hi (-1))) _ _ s
  rw [adjust_rev]
  show wpAny _ _ (pure ((n : Int) - 1, (-1 : Int), Builtin.Slice.slicePlaces ((n : Int) - 1) (-1) (-1))) _ _ s
  rw [places_rev]
  exact wpAny_pure h
theorem pick_rev (xs : Array Value) : ((List.range xs.size).filterMap fun (m : Nat) => xs[(((xs.size : Int) - 1) + (m : Int) * (-1)).toNat]?).toArray = xs.toList.reverse.toArray := by
  have e : (fun (m : Nat) => xs[(((xs.size : Int) - 1) + (m : Int) * (-1)).toNat]?) = fun m => xs[xs.size - 1 - m]? := by
    funext m
    have : (((xs.size : Int) - 1) + (m : Int) * (-1)).toNat = xs.size - 1 - m := by omega
    rw [this]
  rw [e]
  have e2 : ((List.range xs.size).filterMap fun m => xs[xs.size - 1 - m]?) = ((List.range xs.size).map fun k => xs.size - 1 - k).filterMap (xs[·]?) := by
    rw [List.filterMap_map]
    rfl
  rw [e2, PySem.W.krv_range, List.filterMap_reverse, PySem.W.krv_all]
theorem getItem_tuple_rev {t sl : Addr} {items : Array Value} {vl vu vs : Value} {Q : Value → Shared → Prop} (ht : IsTup s.heap t items) (hs : s.heap.IsSliceOf sl vl vu vs) (pl : IsPart vl none) (pu : IsPart vu none) (ps : IsPart vs (some (-1)))
    (h : Q (.ref s.heap.objs.size) { s with heap := s.heap.push { cls := .type "tuple", data := .seq items.toList.reverse.toArray } })
    (hsz : items.size ≤ sizeLine) : wpAny (model prog w) A (getItem (.ref t) (.ref sl)) Q E s := by
  have htake : sizeOk (.seq items.toList.reverse.toArray) := by
    show items.toList.reverse.toArray.size ≤ sizeLine
    rw [List.size_toArray, List.length_reverse, Array.length_toList]
    exact hsz
  obtain ⟨os, hos, hcs, hds⟩ := id hs
  have hTs : s.TypeIs (.ref sl) "slice" := ⟨os, hos, hcs⟩
  unfold getItem
  try with_reducible refine wpAny_holding ?_
  first | refine wpAny_bind (wpAny_pure ?_) | skip
  refine wpAny_bind (wpAny_sequenceKey ht.typeIs (by decide) ?_)
  refine wpAny_bind (wpAny_callSpecial?_slot (name := Str.ofString "__getitem__") ht.typeIs PyProof.Rows.slot_tuple_getitem
    (wpAny_call_entry PyProof.Rows.slot_tuple_getitem ht.typeIs entry_tuple_getitem ?_ (args_tuple_getitem _ _)))
  show wpAny _ _ (Builtin.Tuple.tupleItemsOf (.ref t) >>= _) _ _ s
  refine wpAny_bind (tupleItemsOf_ ht ?_)
  refine wpAny_bind (wpAny_typeOf hTs ?_)
  rw [if_pos (by decide)]
  refine wpAny_bind (sliceApplied_rev hs pl pu ps ?_)
  have hno : ¬ ((((items.size : Int) - 1) == 0 && (-1 : Int) == 1 && items.size == items.size) = true) := by
    intro q
    rw [Bool.and_eq_true, Bool.and_eq_true] at q
    have q2 : (-1 : Int) = 1 := eq_of_beq q.1.2
    omega
  show wpAny _ _ (if (((items.size : Int) - 1) == 0 && (-1 : Int) == 1 && items.size == items.size) = true then _ else _) _ _ s
  rw [if_neg hno, pick_rev]
  first
    | exact wpAny_bind (m := Builtin.Tuple.tupleExact _) (wpAny_newObj_type (wpAny_pure ⟨_, rfl, wpAny_pure h⟩) htake)
    | exact wpAny_bind (m := Builtin.Tuple.tupleExact _) (wpAny_newObj_type (wpAny_bind (wpAny_pure (wpAny_pure ⟨_, rfl, wpAny_pure h⟩))) htake)
    | exact wpAny_bind (wpAny_bind (m := Builtin.Tuple.tupleExact _) (wpAny_newObj_type (wpAny_pure (wpAny_pure ⟨_, rfl, wpAny_pure h⟩)) htake))
    | exact wpAny_bind (wpAny_bind (m := Builtin.Tuple.tupleExact _) (wpAny_newObj_type (wpAny_pure ⟨_, rfl, wpAny_pure h⟩) htake))
end
end HT
namespace PB
open PySem PySem.Spec PyProof.Rows L2
variable [Kts]
section
variable {X : Cx}
def tRevT (K : PySem.W.Frag) (te : TE) : TE := fun σ H Q => te σ H fun x H1 => ∃ a xs, x = .ref a ∧ SqT K H1 a xs ∧ ∀ p, H1 p = none → Q (.ref p) (upd H1 p (.tup xs.reverse))
theorem pe_revT {e : Expr} {te : TE} {k : Nat} {p1 p2 p3 pos : Pos} (he : PE X e te) : PE X (.Subscript e (.Slice none none (some (.UnaryOp .USub (.Constant (.int 1) k p1) p2)) p3) pos) (tRevT X.K te) := by
  refine ⟨fun pins s σ H Q I h => ?_⟩
  refine Subscript_ (thn (he.run pins s σ H _ I h) fun v s1 ⟨x, H1, I1, r1, q1⟩ => ?_)
  obtain ⟨a, xs, ex, hx, q⟩ := q1
  subst ex
  cases r1
  have hst : PO X (some (.UnaryOp .USub (.Constant (.int 1) k p1) p2)) (tPart (tUn (rU fun i => .int (-i)) (tC (.int 1)))) := po_some (pe_un un_neg pe_int)
  refine wpAny_Slice (thn (po_none.run pins s1 σ H1 (fun o H2 => o = none ∧ H2 = H1) I1 ⟨rfl, rfl⟩) fun vl s2 ⟨l, H2, I2, pl, el, e2⟩ => ?_)
  subst el e2
  refine thn (po_none.run pins s2 σ H2 (fun o H3 => o = none ∧ H3 = H2) I2 ⟨rfl, rfl⟩) fun vu s3 ⟨u, H3, I3, pu, eu, e3⟩ => ?_
  subst eu e3
  refine thn (hst.run pins s3 σ H3 (fun o H4 => o = some (-1) ∧ H4 = H3) I3 ⟨1, rfl, -1, rfl, rfl, rfl⟩) fun vs s4 ⟨o, H4, I4, ps, eo, e4⟩ => ?_
  subst eo e4
  have I5 : Inv X pins σ H4 { s4 with heap := s4.heap.push { cls := .type "slice", data := .fields #[vl, vu, vs] } } := I4.kept (t' := s4.toks) fun b ob q => Heap.get?_push_of_some _ q
  obtain ⟨its, r, ht, hz⟩ := I5.tuple hx
  have hlen := r.length
  show wpAny (model X.prog X.w) X.A (subscriptTail e (.Slice none none (some (.UnaryOp .USub (.Constant (.int 1) k p1) p2)) p3) (.ref a) (.ref s4.heap.objs.size)) (EP X pins σ Q) X.xe { s4 with heap := s4.heap.push { cls := .type "slice", data := .fields #[vl, vu, vs] } }
  refine tail_any (ops := [.ref a, .ref s4.heap.objs.size]) ht.typeIs (PyProof.Rows.slot_tuple_getitem.lookup) ?_ (by with_unfolding_all rfl)
  refine HT.getItem_tuple_rev ht (Heap.IsSliceOf.new _ vl vu vs) pl pu ps ?_ (by rw [List.size_toArray]; omega)
  refine ⟨.ref _, _, I5.laid (t' := s4.toks) (o := .tup xs.reverse) (fun b ob q => Heap.get?_push_of_some _ q) (Nat.le_refl _) ?_, rfl, q _ (I5.hok.fresh (Nat.le_refl _))⟩
  exact ⟨by rw [List.length_reverse]; exact hz, _, r.reverse, IsTup.new _ _⟩
end
end PB
namespace PB
open PySem PySem.Spec PyProof.Rows L2
section
variable {X : Cx}
def tRevS (te : TE) : TE := fun σ H Q => te σ H fun x H1 => ∃ z : Str, x = .str z ∧ z.length ≤ sizeLine ∧ Q (.str ⟨z.cps.toList.reverse.toArray⟩) H1
theorem str_rev (z : Str) : ((Builtin.Str.strSliceIndices none none (-1) z.length).filterMap (z.cps[·]?)).toArray = z.cps.toList.reverse.toArray := by
  have e : Builtin.Str.strSliceIndices none none (-1) z.length = sliceRange ((z.cps.size : Int) - 1) (-1) (-1) := rfl
  rw [e, PySem.W.krv_sliceRange, PySem.W.krv_range, List.filterMap_reverse, PySem.W.krv_all]
theorem pe_revS {e : Expr} {te : TE} {k : Nat} {p1 p2 p3 pos : Pos} (he : PE X e te) : PE X (.Subscript e (.Slice none none (some (.UnaryOp .USub (.Constant (.int 1) k p1) p2)) p3) pos) (tRevS te) := by
  refine ⟨fun pins s σ H Q I h => ?_⟩
  refine Subscript_ (thn (he.run pins s σ H _ I h) fun v s1 ⟨x, H1, I1, r1, q1⟩ => ?_)
  obtain ⟨z, ex, hz, q⟩ := q1
  subst ex
  obtain ⟨t, rfl⟩ := r1
  have hst : PO X (some (.UnaryOp .USub (.Constant (.int 1) k p1) p2)) (tPart (tUn (rU fun i => .int (-i)) (tC (.int 1)))) := po_some (pe_un un_neg pe_int)
  refine wpAny_Slice (thn (po_none.run pins s1 σ H1 (fun o H2 => o = none ∧ H2 = H1) I1 ⟨rfl, rfl⟩) fun vl s2 ⟨l, H2, I2, pl, el, e2⟩ => ?_)
  subst el e2
  refine thn (po_none.run pins s2 σ H2 (fun o H3 => o = none ∧ H3 = H2) I2 ⟨rfl, rfl⟩) fun vu s3 ⟨u, H3, I3, pu, eu, e3⟩ => ?_
  subst eu e3
  refine thn (hst.run pins s3 σ H3 (fun o H4 => o = some (-1) ∧ H4 = H3) I3 ⟨1, rfl, -1, rfl, rfl, rfl⟩) fun vs s4 ⟨o, H4, I4, ps, eo, e4⟩ => ?_
  subst eo e4
  have I5 : Inv X pins σ H4 { s4 with heap := s4.heap.push { cls := .type "slice", data := .fields #[vl, vu, vs] } } := I4.kept (t' := s4.toks) fun b ob q => Heap.get?_push_of_some _ q
  cases pl
  cases pu
  cases ps with
  | int _ tk =>
  show wpAny (model X.prog X.w) X.A (subscriptTail e (.Slice none none (some (.UnaryOp .USub (.Constant (.int 1) k p1) p2)) p3) (.str z t) (.ref s4.heap.objs.size)) (EP X pins σ Q) X.xe { s4 with heap := s4.heap.push { cls := .type "slice", data := .fields #[.none, .none, .int (-1) tk] } }
  refine tail_any (ops := [.str z t, .ref s4.heap.objs.size]) (typeIs_str _ z t) PyProof.Rows.slot_str_getitem.lookup ?_ (by with_unfolding_all rfl)
  refine wpAny_getItem_str_slice (l := none) (u := none) (st := some (-1, tk)) ⟨_, Heap.get?_push_size _ rfl, rfl, rfl⟩ rfl ?_
  have hm : sliceMade z t none none (some (-1, tk)) = .str ⟨z.cps.toList.reverse.toArray⟩ := by
    unfold sliceMade slicePicked
    rw [if_neg (by
      intro q
      rw [Bool.and_eq_true] at q
      have q1 : (-1 : Int) = 1 := eq_of_beq q.1
      omega)]
    show Made.str ⟨((Builtin.Str.strSliceIndices none none (-1) z.length).filterMap (z.cps[·]?)).toArray⟩ = _
    rw [str_rev]
  rw [hm]
  refine ⟨?_, .str _, _, I5.tok _, ⟨_, rfl⟩, q⟩
  show z.cps.toList.reverse.toArray.size ≤ sizeLine
  rw [List.size_toArray, List.length_reverse, Array.length_toList]
  exact hz
end
end PB
set_option Elab.async false
set_option linter.all false
set_option maxRecDepth 100000
set_option maxHeartbeats 4000000
namespace PB
open PySem PySem.Spec PyProof.Rows L2
variable [Kts]
section
variable {K : Frag} {O : Addr → Prop} {H : Hp}
theorem AtL.rev : ∀ {xs : List V} {ds : List D}, AtL K O H xs ds → AtL K O H xs.reverse ds.reverse
  | _, _, .nil => .nil
  | _, _, .cons a r => by
    rw [List.reverse_cons, List.reverse_cons]
    exact r.rev.app (.cons a .nil)
end
section
variable {γ ι : Type} {B : Bs γ ι} {W : WX} {X : Cx} {pos : Pos} {a : Expr} {ma : ME γ}
theorem PE.or {e : Expr} {t t' : TE} (h : PE X e t) (h' : PE X e t') : PE X e (fun σ H Q => t σ H Q ∨ t' σ H Q) :=
  ⟨fun pins s σ H Q I q => q.elim (h.run pins s σ H Q I) (h'.run pins s σ H Q I)⟩
theorem rev_all {s : List Nat} (h : s.all (· < 0x110000) = true) : s.reverse.all (· < 0x110000) = true := by
  rw [List.all_reverse]
  exact h
theorem pb_rev {k : Nat} {p1 p2 p3 : Pos} (hK : B.K = X.K) (ha : PE X a (RE B W ma)) : PE X (.Subscript a (.Slice none none (some (.UnaryOp .USub (.Constant (.int 1) k p1) p2)) p3) pos) (RE B W (mOp1 oRev ma)) := by
  refine pe_w (PE.or (pe_revL ha) (PE.or (pe_revT ha) (pe_revS ha))) fun σ H Q ⟨S, e, g, R, h⟩ => ?_
  cases q : ma e g with
  | no =>
    unfold mOp1 at h
    rw [q] at h
    exact h.elim
  | ex y g1 =>
    unfold mOp1 at h
    rw [q] at h
    refine .inl ⟨S, e, g, R, ?_⟩
    show RK _ _ _ _ _ _ (ma e g) _
    rw [q]
    exact h
  | ok r g1 =>
    unfold mOp1 at h
    rw [q] at h
    obtain ⟨z, kz, h1⟩ := RK.ofO (P := VOk) (A := ⟨B, S⟩) (o := oRev r) (g := g1) h
    unfold oRev at kz
    split at kz
    · rename_i ds
      cases kz
      refine .inr (.inl ⟨S, e, g, R, ?_⟩)
      show RK _ _ _ _ _ _ (ma e g) _
      rw [q]
      intro v H1 x1 i1 o1
      cases o1 with
      | @tup p xs _ kk al =>
      refine ⟨p, xs, rfl, by rw [← hK]; exact tup_seq kk, fun p' hp' => ?_⟩
      exact h1 _ _ (x1.trans (.new hp')) (Gho.new i1 hp') (At.mkT (A := ⟨B, S⟩) R x1 i1 al.rev hp')
    · rename_i s
      cases kz
      refine .inr (.inr ⟨S, e, g, R, ?_⟩)
      show RK _ _ _ _ _ _ (ma e g) _
      rw [q]
      intro v H1 x1 i1 o1
      cases o1 with
      | str _ k1 k2 =>
      refine ⟨mkS s, rfl, by rw [mkS_len]; exact szle k1, ?_⟩
      have e2 : (⟨(mkS s).cps.toList.reverse.toArray⟩ : Str) = mkS s.reverse := rfl
      rw [e2]
      exact h1 _ H1 x1 i1 (.str _ (by rw [List.length_reverse]; exact k1) (rev_all k2))
    · cases hi : r.items with
      | none =>
        rw [hi] at kz
        cases kz
      | some ds =>
        rw [hi] at kz
        cases kz
        refine .inl ⟨S, e, g, R, ?_⟩
        show RK _ _ _ _ _ _ (ma e g) _
        rw [q]
        intro v H1 x1 i1 o1
        obtain ⟨p, xs, rfl, hp, al⟩ := (show VOk ⟨B, S⟩ e σ H H1 r v from o1).items R hi
        exact ⟨p, xs, rfl, (.inl hp), fun p' hp' => h1 _ _ (x1.trans (.new hp')) (Gho.new i1 hp') (VOk.mk x1 i1 al.rev hp')⟩
end
end PB
set_option Elab.async false
set_option linter.all false
set_option maxRecDepth 100000
set_option maxHeartbeats 4000000
namespace PB
open PySem PySem.Spec PyProof.Rows L2
variable [Kts]
section
variable {γ ι : Type} {B : Bs γ ι} {W : WX} {X : Cx} {pos : Pos} {k : Expr} {mk : ME γ}
theorem hu1 {k : Nat} {A : Around} (h : Room k A) : A.units + 1 < cLine := by
  have := h.un
  omega
end
end PB
set_option Elab.async false
set_option linter.all false
set_option maxRecDepth 100000
set_option maxHeartbeats 4000000
namespace PB
open PySem PySem.Spec PyProof.Rows L2
end PB
set_option Elab.async false
set_option linter.all false
set_option maxRecDepth 100000
set_option maxHeartbeats 4000000
namespace PB
open PySem PySem.Spec PyProof.Rows L2
end PB
set_option Elab.async false
set_option linter.all false
set_option maxRecDepth 100000
set_option maxHeartbeats 4000000
namespace PB
open PySem PySem.Spec PyProof.Rows L2
end PB
set_option Elab.async false
set_option linter.all false
set_option maxRecDepth 100000
set_option maxHeartbeats 4000000
namespace PB
open PySem PySem.Spec PyProof.Rows L2
variable [Kts]
/-- in a suite: the caught exception's address, class, dict -/
abbrev Bs.at {γ ι : Type} (B : Bs γ ι) (xa : Addr × Value × Option Addr) : Bs γ ι := ⟨B.K, B.T, B.fam, B.i, xa⟩
end PB
set_option Elab.async false
set_option linter.all false
set_option maxRecDepth 100000
set_option maxHeartbeats 4000000
namespace PB
open PySem PySem.Spec PyProof.Rows L2
end PB
set_option Elab.async false
set_option linter.all false
set_option maxRecDepth 100000
set_option maxHeartbeats 4000000
namespace PB
open PySem PySem.Spec PyProof.Rows L2
variable [Kts]
def exName : Nat → Str
  | 0 => "BendError" | 1 => "NoWord" | 2 => "NoText" | 3 => "NoFraction" | 4 => "NoPrice" | 5 => "NoPoint" | 6 => "NotLeast" | 7 => "NoLine" | 8 => "NothingDone"
  | 9 => "NotOn" | 10 => "TooLong" | 11 => "TooMany" | 12 => "NoNumber" | _ => "NoName"
def exFld : Nat → Str
  | 9 => "word" | 10 => "letters" | 11 => "many" | 12 => "number" | _ => "name"
def exT (K : Frag) : XT := ⟨fun n => .ref (He.ga K (exName n)), exFld⟩
def clsAt (K : Frag) (x : Str) : Bool := He.eqO (PySem.W.nsIn K mainGlobals x) (some (some (.ref (He.ga K x))))
theorem clsAt_ok {K : Frag} {h : Heap} {mg : Str → Option Value} (X : K.In h) (G : h.Ns mainGlobals mg) {x : Str} (c : clsAt K x = true) : mg x = some (.ref (He.ga K x)) := PySem.W.mg_of X G (He.eqO_ok c)
def seeY (n : Nat) (g : Addr → Option Obj) : Frag := He.frT g (cStatics :: He.asD g n)
def obsY (n : Nat) (fa : List He.Fa) (fn : List He.DefD) (ts : List He.Tab) (ex : Frag → Bool) (g : Addr → Option Obj) : He.AlX := (He.obsT fa fn ts (seeY n g), ex (seeY n g))
def hookY (n : Nat) (fa : List He.Fa) (fn : List He.DefD) (ts : List He.Tab) (ex : Frag → Bool) : PySem.W.Hook where
  α := He.AlX
  obs := fun s => obsY n fa fn ts ex s.heap.get?
  val := fun w => He.valX fn ts w
  says := fun w h => ∃ K : Frag, K.In h ∧ He.SaysX fa fn ts [] ex w h K
  of := fun _ _ e => ⟨_, He.frT_in, ⟨congrArg (fun z : He.AlX => z.1) e, congrArg (fun z : He.AlX => z.2) e, (fun _ z => by cases z), (fun _ z => by cases z), (fun _ z => by cases z)⟩⟩
  keeps := fun _ _ _ ⟨K, hK, c⟩ k => ⟨K, PySem.W.Frag.In.keeps hK k, ⟨c.t, c.more, c.hd, c.out, (fun _ z => by cases z)⟩⟩
theorem obsY_eq {n : Nat} {fa : List He.Fa} {fn : List He.DefD} {ts : List He.Tab} {ex : Frag → Bool} {g : Addr → Option Obj} {s : Shared} (h : ∀ a, g a = s.heap.get? a) : obsY n fa fn ts ex g = (hookY n fa fn ts ex).obs s := by
  have e : g = s.heap.get? := funext h
  rw [e]
  rfl
end PB
set_option Elab.async false
set_option linter.all false
set_option maxRecDepth 100000
set_option maxHeartbeats 4000000
namespace PB
open PySem PySem.Spec PyProof.Rows L2
end PB
set_option Elab.async false
set_option linter.all false
set_option maxHeartbeats 0
namespace PB
open PySem PySem.Spec PyProof.Rows L2
variable [Kts]
variable {γ ι : Type} {B : Bs γ ι}
theorem best3_min {a b c : Int} {t u x : Tok} : numAt #[(a, t), (b, u), (c, x)] (argBest (fun i j => decide (numAt #[(a, t), (b, u), (c, x)] i < numAt #[(a, t), (b, u), (c, x)] j)) 2) = lmin a [b, c] := by
  obtain ⟨h1, h2⟩ := argBest_lt (numAt #[(a, t), (b, u), (c, x)]) 2
  obtain ⟨h3, h4⟩ := lmin_mem a [b, c]
  generalize argBest (fun i j => decide (numAt #[(a, t), (b, u), (c, x)] i < numAt #[(a, t), (b, u), (c, x)] j)) 2 = k at *
  have e0 : numAt #[(a, t), (b, u), (c, x)] 0 = a := rfl
  have e1 : numAt #[(a, t), (b, u), (c, x)] 1 = b := rfl
  have e2 : numAt #[(a, t), (b, u), (c, x)] 2 = c := rfl
  have k0 := h2 0 (by omega)
  have k1 := h2 1 (by omega)
  have k2 := h2 2 (by omega)
  rw [e0] at k0
  rw [e1] at k1
  rw [e2] at k2
  have m0 := h4 a (by simp)
  have m1 := h4 b (by simp)
  have m2 := h4 c (by simp)
  have hk : numAt #[(a, t), (b, u), (c, x)] k = a ∨ numAt #[(a, t), (b, u), (c, x)] k = b ∨ numAt #[(a, t), (b, u), (c, x)] k = c := by
    rcases (by omega : k = 0 ∨ k = 1 ∨ k = 2) with rfl | rfl | rfl
    · exact .inl rfl
    · exact .inr (.inl rfl)
    · exact .inr (.inr rfl)
  simp only [List.mem_cons, List.not_mem_nil, or_false] at h3
  omega
section
variable {prog : Program} {w : World} {A : Around} {E : Value → Shared → Prop} {s : Shared} {a b c : Int} {t u x : Tok} {Q : Value → Shared → Prop}
theorem tup3 : (s.heap.push { cls := .type "tuple", data := .seq #[.int a t, .int b u, .int c x] }).IsTuple s.heap.objs.size (intItems #[(a, t), (b, u), (c, x)]) :=
  ⟨_, Heap.get?_push_size s.heap rfl, rfl, 0, by simp [intItems]⟩
theorem min_three_ints (hh : A.handled = none) (h : ∀ (h' : Heap) (tk : Nat) (t' : Tok), (∀ (c : Addr) (o : Obj), s.heap.get? c = some o → h'.get? c = some o) → Q (.int (lmin a [b, c]) t') { heap := h', gens := s.gens, drawn := s.drawn, toks := tk, os := s.os }) :
    wpAny (model prog w) A (call (.builtin "min") [.int a t, .int b u, .int c x]) Q E s := by
  refine call_min_three (wpAny_pyIter_tuple tup3 ?_)
  have hsz := Heap.size_push s.heap { cls := .type "tuple", data := .seq #[.int a t, .int b u, .int c x] }
  refine ⟨(s.heap.push { cls := .type "tuple", data := .seq #[.int a t, .int b u, .int c x] }).objs.size, [(s.heap.push { cls := .type "tuple", data := .seq #[.int a t, .int b u, .int c x] }).objs.size, s.heap.objs.size], [(s.heap.push { cls := .type "tuple", data := .seq #[.int a t, .int b u, .int c x] }).objs.size], (intItems #[(a, t), (b, u), (c, x)]).size, fun i v => (intItems #[(a, t), (b, u), (c, x)])[i]? = some v, fun i h => h.IsTupleIter (s.heap.push { cls := .type "tuple", data := .seq #[.int a t, .int b u, .int c x] }).objs.size s.heap.objs.size i ∧ h.IsTuple s.heap.objs.size (intItems #[(a, t), (b, u), (c, x)]), fun i j => decide (numAt #[(a, t), (b, u), (c, x)] i < numAt #[(a, t), (b, u), (c, x)] j), rfl, Walks.tuple (A := A.in1) hh _ s.heap.objs.size ?_ (intItems #[(a, t), (b, u), (c, x)]), ⟨⟨_, Heap.get?_push_size _ rfl, rfl, rfl⟩, Heap.IsTuple.push tup3 _⟩, ?_, ?_, CmpOf.ints_lt (numAt #[(a, t), (b, u), (c, x)]) fun _ _ => intItems_at, ?_⟩
  · show s.heap.objs.size ≠ (s.heap.push _).objs.size
    rw [hsz]
    omega
  · intro c hc
    show c < ((s.heap.push _).push _).objs.size
    rw [Heap.size_push, hsz]
    rw [hsz] at hc
    rcases List.mem_cons.mp hc with e | hc
    · have e : @Eq Nat c _ := e
      have g : @LT.lt Nat _ c (s.heap.objs.size + 1 + 1) := by omega
      exact g
    · rcases List.mem_cons.mp hc with e | hc
      · have e : @Eq Nat c _ := e
        have g : @LT.lt Nat _ c (s.heap.objs.size + 1 + 1) := by omega
        exact g
      · cases hc
  · simp [intItems]
  · intro v h' tk hP hk
    have e : (intItems #[(a, t), (b, u), (c, x)]).size - 1 = 2 := by simp [intItems]
    rw [e] at hP
    obtain ⟨t', rfl⟩ := intItems_at hP
    rw [best3_min]
    refine h h' tk t' fun c o e => hk c o (fun hm => ?_) (Heap.get?_push_of_some _ (Heap.get?_push_of_some _ e))
    have lt := Heap.lt_size e
    rw [hsz] at hm
    have lt : @LT.lt Nat _ c s.heap.objs.size := lt
    rcases List.mem_cons.mp hm with e | hm
    · have e : @Eq Nat c _ := e
      omega
    · cases hm
end
theorem vals3 {x y z : V} {us : List Value} (h : Vals [x, y, z] us) : ∃ u v w, us = [u, v, w] ∧ RelV x u ∧ RelV y v ∧ RelV z w := by
  match us, h with
  | [u, v, w], .cons a (.cons b (.cons c .nil)) => exact ⟨u, v, w, rfl, a, b, c⟩
theorem call_min3 {X : Cx} (hc : X.calm = true) : CallR X (.builtin "min") fun xs H Q => ∃ i j k, xs = [V.int i, V.int j, V.int k] ∧ Q (V.int (lmin i [j, k])) H := by
  intro pins s σ H xs us Q I r h
  obtain ⟨i, j, k, rfl, q⟩ := h
  obtain ⟨u, v, w, rfl, ⟨t, rfl⟩, ⟨t', rfl⟩, ⟨t'', rfl⟩⟩ := vals3 r
  refine min_three_ints (I.ok.hd hc) fun h' tk t k => ?_
  exact ⟨V.int _, H, I.kept k, ⟨t, rfl⟩, q⟩
theorem os_min3 : OpSN B oMin3 (fun xs H Q => ∃ i j k, xs = [.int i, .int j, .int k] ∧ Q (.int (lmin i [j, k])) H) := by
  intro S e g g1 σ H0 H xs z vs Q R x0 i1 os hz hq
  unfold oMin3 at hz
  split at hz
  · cases hz
    cases os with
    | cons o os =>
    cases os with
    | cons o2 os =>
    cases os with
    | cons o3 os =>
    cases os
    cases o
    cases o2
    cases o3
    exact ⟨_, _, _, rfl, hq _ H (.inl rfl) (.int _)⟩
  · cases hz
end PB
set_option Elab.async false
set_option linter.all false
set_option maxRecDepth 100000
set_option maxHeartbeats 4000000
namespace PB
open PySem PySem.Spec PyProof.Rows L2
end PB
set_option Elab.async false
set_option linter.all false
set_option maxRecDepth 100000
set_option maxHeartbeats 4000000
namespace PB
open PySem PySem.Spec PyProof.Rows L2
variable [Kts]
/-- the table holds no other key -/
def TabAll (K : Frag) (a : Addr) (tab : List (List Nat × D)) : Prop := ∀ (es : Array DictEntry) (n : Nat), K.lookup a = some { cls := Value.type "dict", data := Data.dict es n } → ∀ e ∈ es.toList, ∃ p ∈ tab, ∃ t, e.key = .str (mkS p.1) t
def TabTot (K : Frag) (w : World) (mg : Str → Option Value) (x : Str) (tab : List (List Nat × D)) : Prop := ∃ a, mg x = some (.ref a) ∧ (∃ es n, KDict K w a es n) ∧ (∀ p ∈ tab, ∃ v u, PySem.W.nsIn K a (mkS p.1) = some (some u) ∧ RelV v u ∧ ∀ O H, At K O H v p.2) ∧ TabAll K a tab
theorem TabTot.at_ {K : Frag} {w : World} {mg : Str → Option Value} {x : Str} {tab : List (List Nat × D)} (t : TabTot K w mg x tab) : TabAt K w mg x tab := by
  obtain ⟨a, h1, h2, h3, _⟩ := t
  exact ⟨a, h1, h2, h3⟩
end PB
set_option Elab.async false
set_option linter.all false
set_option maxRecDepth 100000
set_option maxHeartbeats 4000000
namespace PB
open PySem PySem.Spec PyProof.Rows L2
end PB
set_option Elab.async false
set_option linter.all false
set_option maxRecDepth 100000
set_option maxHeartbeats 4000000
namespace PB
open PySem PySem.Spec PyProof.Rows L2
variable [Kts]
section
variable {γ ι : Type} {B : Bs γ ι} {X : Cx}
theorem os_rep : OpS2 B oRep rRep := by
  intro S e g g1 σ H0 H x y z vx vy Q R x0 i1 ox oy hz hq
  unfold oRep at hz
  split at hz
  · rename_i ds k
    · split at hz
      · rename_i hl
        cases hz
        obtain ⟨p, ys, rfl, _, hp, ap'⟩ := ox
        have ap : AtL B.K (Om ⟨B, S⟩ e σ) H ys ds := ap'.less fun a z => .inl z
        cases oy
        have hk := hl.2
        have kb : -(2 ^ 63) ≤ k ∧ k < 2 ^ 63 := by
          have : k.natAbs.log2 < 62 := hk
          have h2 : k.natAbs < 2 ^ 62 := Nat.lt_of_lt_of_le Nat.lt_log2_self (Nat.pow_le_pow_right (by decide) this)
          omega
        refine ⟨p, k, ys, rfl, rfl, hp, kb.1, kb.2, by rw [ap.length]; exact szle hl.1, fun l hl => ?_⟩
        exact hq _ _ (.inr ⟨l, _, hl, rfl⟩) (VOk.mk x0 i1 (ap.rep _) hl)
      · cases hz
  · cases hz
end
end PB
set_option Elab.async false
set_option linter.all false
set_option maxRecDepth 100000
set_option maxHeartbeats 4000000
namespace PB
open PySem PySem.Spec PyProof.Rows L2
variable [Kts]
section
variable {K : Frag} {O : Addr → Prop} {H : Hp}
theorem AtL.erase {xs : List V} {ds : List D} (n : Nat) (h : AtL K O H xs ds) : AtL K O H (xs.eraseIdx n) (ds.eraseIdx n) := by
  rw [List.eraseIdx_eq_take_drop_succ, List.eraseIdx_eq_take_drop_succ]
  exact (h.take n).app (h.drop (n + 1))
end
section
variable {γ ι : Type} {B : Bs γ ι} {W : WX} {X : Cx} {pos : Pos} {a : Expr} {es : List Expr} {mr : MA γ}
theorem pb_insert {i : Nat} {x : Str} {px apos : Pos} (hK : B.K = X.K) (hN : X.N[i]? = some x) (ha : PA X (a :: es) (RA B W mr)) (hv : Vis X.env.scope x := by first | exact Or.inl rfl | exact Or.inr (Or.inl rfl)) (hd : (x == ("__debug__" : Str)) = false := by decide) (hcd : (x == ("__classdict__" : Str)) = false := by decide)
    (hbase : attributeBase (.Name x px) "insert" X.env (eval (.Name x px) X.env) = eval (.Name x px) X.env := by rfl)
    (hfew : ((backTo pos (starEach (a :: es) X.env)).all (fun x => !x.1) && (backToKw pos (keywordEach [] X.env)).all (fun x => x.1.isSome)
      && decide ((a :: es).length + ([] : List Keyword).length + (if ([] : List Keyword).isEmpty then 0 else 1) < 30)) = true := by rfl)
    (hline : (apos.endLine == pos.line) = true := by rfl) (hs : starEach (a :: es) X.env = (false, eval a X.env) :: starEach es X.env := by rfl) (hplain : (backTo pos (starEach es X.env)).any (·.1) = false := by rfl) {epos : Pos}
    (hsw : swapsWith (.Call (.Attribute (.Name x px) "insert" apos) (a :: es) [] pos) none epos.line X.env = pure false := by rfl) :
    PS X (.Expr (.Call (.Attribute (.Name x px) "insert" apos) (a :: es) [] pos) epos) (RS B W (mIns i mr)) := by
  refine ps_w (ps_expr (pe_bm PySem.F.plainAttrs_list PySem.F.slot_list_insert PySem.F.type_list_insert mt_insert (pe_var hN hv hd hcd) ha hbase hfew hline hs hplain) hsw) fun Dd σ H ⟨S, e, g, R, h⟩ => ?_
  unfold mIns at h
  have sl := R.sl i
  cases k : gt e i with
  | un =>
    rw [k] at h
    exact h.elim
  | dat d =>
    rw [k] at h
    exact h.elim
  | xc y =>
    rw [k] at h
    exact h.elim
  | gh y =>
    rw [k] at h
    exact h.elim
  | owd tt ks vs =>
    rw [k] at h
    exact h.elim
  | own ds =>
    rw [k] at h sl
    obtain ⟨p, xs, ev, hp, al⟩ := sl
    refine ⟨.ref p, ev, .inl ⟨rfl, xs, SqL.of hp⟩, S, e, g, R, RSK.bind R h fun ys g1 vs H1 x1 i1 o1 h1 => ?_⟩
    have R1 := R.exe x1 i1
    split at h1
    · rename_i n y
      split at h1
      · rename_i d ks
        split at h1
        · rename_i hz
          cases o1 with
          | cons ok os =>
          cases os with
          | cons oy os =>
          cases os
          cases ok
          have op : OwnA e σ p := .of k rfl ev
          have hp1 : H1 p = some (.lst xs) := x1 p _ hp (R.notF op)
          have al1 := R.atL x1 al
          obtain ⟨R2, s2⟩ := R1.upd_own (es := ds.take n.toNat ++ [d] ++ ds.drop n.toNat) k ev (((al1.take n.toNat).app (.cons (oy.sto R ks) .nil)).app (al1.drop n.toNat))
          exact ⟨p, xs, n, _, rfl, rfl, hp1, by rw [al1.length]; exact szlt hz.1, hz.2.1, by have := hz.2.2; omega, h1 _ _ R2 (.trans R1 (.exe R x1) s2)⟩
        · exact h1.elim
      · exact h1.elim
    · exact h1.elim
theorem pb_popAt {i : Nat} {x : Str} {px apos : Pos} (hK : B.K = X.K) (hN : X.N[i]? = some x) (ha : PA X (a :: es) (RA B W mr)) (hv : Vis X.env.scope x := by first | exact Or.inl rfl | exact Or.inr (Or.inl rfl)) (hd : (x == ("__debug__" : Str)) = false := by decide) (hcd : (x == ("__classdict__" : Str)) = false := by decide)
    (hbase : attributeBase (.Name x px) "pop" X.env (eval (.Name x px) X.env) = eval (.Name x px) X.env := by rfl)
    (hfew : ((backTo pos (starEach (a :: es) X.env)).all (fun x => !x.1) && (backToKw pos (keywordEach [] X.env)).all (fun x => x.1.isSome)
      && decide ((a :: es).length + ([] : List Keyword).length + (if ([] : List Keyword).isEmpty then 0 else 1) < 30)) = true := by rfl)
    (hline : (apos.endLine == pos.line) = true := by rfl) (hs : starEach (a :: es) X.env = (false, eval a X.env) :: starEach es X.env := by rfl) (hplain : (backTo pos (starEach es X.env)).any (·.1) = false := by rfl) {epos : Pos}
    (hsw : swapsWith (.Call (.Attribute (.Name x px) "pop" apos) (a :: es) [] pos) none epos.line X.env = pure false := by rfl) :
    PS X (.Expr (.Call (.Attribute (.Name x px) "pop" apos) (a :: es) [] pos) epos) (RS B W (mPopAt i mr)) := by
  refine ps_w (ps_expr (pe_bm PySem.F.plainAttrs_list PySem.F.slot_list_pop PySem.F.type_list_pop mt_popAt (pe_var hN hv hd hcd) ha hbase hfew hline hs hplain) hsw) fun Dd σ H ⟨S, e, g, R, h⟩ => ?_
  unfold mPopAt at h
  have sl := R.sl i
  cases k : gt e i with
  | un =>
    rw [k] at h
    exact h.elim
  | dat d =>
    rw [k] at h
    exact h.elim
  | xc y =>
    rw [k] at h
    exact h.elim
  | gh y =>
    rw [k] at h
    exact h.elim
  | owd tt ks vs =>
    rw [k] at h
    exact h.elim
  | own ds =>
    rw [k] at h sl
    obtain ⟨p, xs, ev, hp, al⟩ := sl
    refine ⟨.ref p, ev, .inl ⟨rfl, xs, SqL.of hp⟩, S, e, g, R, RSK.bind R h fun ys g1 vs H1 x1 i1 o1 h1 => ?_⟩
    have R1 := R.exe x1 i1
    split at h1
    · rename_i n
      split at h1
      · rename_i hz
        cases o1 with
        | cons ok os =>
        cases os
        cases ok
        have op : OwnA e σ p := .of k rfl ev
        have hp1 : H1 p = some (.lst xs) := x1 p _ hp (R.notF op)
        have al1 := R.atL x1 al
        obtain ⟨R2, s2⟩ := R1.upd_own (es := ds.eraseIdx n.toNat) k ev (al1.erase n.toNat)
        have hl : n.toNat < xs.length := by
          rw [al1.length]
          omega
        have sq : seqIndex? n xs.length = some n.toNat := by
          unfold seqIndex?
          have h0 : ¬ n < 0 := by omega
          have h1 : (decide (0 ≤ n) && decide (n < (xs.length : Int))) = true := by
            rw [decide_eq_true hz.1, decide_eq_true (by rw [al1.length]; exact hz.2.1)]
            rfl
          dsimp only
          rw [if_neg h0, if_pos h1]
        exact ⟨p, xs, n, n.toNat, xs[n.toNat], rfl, rfl, hp1, by omega, by have := hz.2.2; omega, sq, List.getElem?_eq_getElem hl, h1 _ _ R2 (.trans R1 (.exe R x1) s2)⟩
      · exact h1.elim
    · exact h1.elim
end
end PB
set_option Elab.async false
set_option linter.all false
set_option maxRecDepth 100000
set_option maxHeartbeats 4000000
namespace PB
open PySem PySem.Spec PyProof.Rows L2
open PySem.W (alike alikeAll dataLt keyToks keyToksAll AlikeAll dataLt_int dataLt_str dataLt_tuple dataLt_cons)
end PB
set_option Elab.async false
set_option linter.all false
set_option maxRecDepth 100000
set_option maxHeartbeats 4000000
namespace PB
open PySem PySem.Spec PyProof.Rows L2
variable [Kts]
theorem keyD_inj {a b : Key} (h : keyD a = keyD b) : a = b := by
  cases a with
  | inl i =>
    cases b with
    | inl j => cases h; rfl
    | inr s => cases h
  | inr s =>
    cases b with
    | inl j => cases h
    | inr s' =>
      have h : s.cps.toList = s'.cps.toList := D.str.inj h
      have : s = s' := by
        cases s
        cases s'
        simp at h
        rw [h]
      rw [this]
theorem eqv_key (a b : Key) : eqv (keyD a) (keyD b) = decide (a = b) := by
  cases a with
  | inl i =>
    cases b with
    | inl j =>
      show (i == j) = _
      by_cases h : i = j
      · subst h
        simp
      · rw [decide_eq_false (fun z => h (Sum.inl.inj z))]
        simp [h]
    | inr s => rw [decide_eq_false (fun z => nomatch z)]; rfl
  | inr s =>
    cases b with
    | inl j => rw [decide_eq_false (fun z => nomatch z)]; rfl
    | inr s' =>
      show (s.cps.toList == s'.cps.toList) = _
      by_cases h : s = s'
      · subst h
        simp
      · rw [decide_eq_false (fun z => h (Sum.inr.inj z))]
        rw [beq_eq_false_iff_ne]
        intro z
        exact h (by have := keyD_inj (a := .inr s) (b := .inr s') (congrArg D.str z); exact Sum.inr.inj this)
theorem eqvL_key : ∀ a b : List Key, eqvL (a.map keyD) (b.map keyD) = decide (a = b)
  | [], [] => rfl
  | [], _ :: _ => rfl
  | _ :: _, [] => rfl
  | x :: xs, y :: ys => by
    show (eqv (keyD x) (keyD y) && eqvL (xs.map keyD) (ys.map keyD)) = _
    rw [eqv_key, eqvL_key xs ys, ← Bool.decide_and]
    exact decide_eq_decide.mpr (by rw [List.cons.injEq])
section
variable {K : Frag} {O : Addr → Prop} {H : Hp}
theorem atom_at {v : V} {d : D} (h : At K O H v d) (a : atomB d = true) : ∃ k : Key, v = kV k ∧ d = keyD k := by
  cases h with
  | int i => exact ⟨.inl i, rfl, rfl⟩
  | str l _ _ => exact ⟨.inr (mkS l), rfl, by show D.str l = .str _; rw [mkS_list]⟩
  | _ => cases a
theorem ints_at : ∀ {vs : List V} {ds : List D}, AtL K O H vs ds → ds.all intB = true → ∃ k : List Key, vs = k.map kV ∧ ds = k.map keyD ∧ k.all Sum.isLeft = true
  | _, _, .nil, _ => ⟨[], rfl, rfl, rfl⟩
  | _, _, .cons h hs, a => by
    rw [List.all_cons, Bool.and_eq_true] at a
    cases h with
    | int i =>
      obtain ⟨ks, rfl, rfl, q⟩ := ints_at hs a.2
      exact ⟨.inl i :: ks, rfl, rfl, q⟩
    | _ => cases a.1
/-- a key as it stands -/
def KeyAt (K : Frag) (O : Addr → Prop) (H : Hp) : Bool → V → D → Prop
  | true, y, d => ∃ (k : List Key) (b : Addr), y = .ref b ∧ TKy K O H b k ∧ d = .tup (k.map keyD) ∧ k.all Sum.isLeft = true
  | false, y, d => ∃ k : Key, y = kV k ∧ d = keyD k
theorem key_at {t : Bool} {y : V} {d : D} (h : At K O H y d) (hk : keyB t d = true) : KeyAt K O H t y d := by
  cases t with
  | false => exact atom_at h hk
  | true =>
    cases h with
    | @tup b xs ds h1 h2 =>
      obtain ⟨k, rfl, rfl, q⟩ := ints_at h2 hk
      exact ⟨k, b, rfl, h1, rfl, q⟩
    | _ => cases hk
theorem dGet_val {κ : Type} [DecidableEq κ] (f : κ → D) (hf : ∀ a b, eqv (f a) (f b) = decide (a = b)) (x : κ) : ∀ (kvs : List (κ × V)) (vs : List D), AtL K O H (kvs.map (·.2)) vs → match dGet (kvs.map fun kv => f kv.1) vs (f x) with
    | some d => ∃ v, valV kvs x = some v ∧ At K O H v d
    | none => valV kvs x = none
  | [], _, .nil => rfl
  | kv :: kvs, d :: vs, .cons h hs => by
    show match (if eqv (f kv.1) (f x) = true then some d else dGet (kvs.map fun kv => f kv.1) vs (f x)) with
      | some d => ∃ v, valV (kv :: kvs) x = some v ∧ At K O H v d
      | none => valV (kv :: kvs) x = none
    rw [hf]
    by_cases c : kv.1 = x
    · rw [decide_eq_true c, if_pos rfl]
      exact ⟨kv.2, valV_pos c, h⟩
    · rw [decide_eq_false c, if_neg Bool.false_ne_true, valV_neg c]
      exact dGet_val f hf x kvs vs hs
abbrev KX (kvs : List (List Key × V)) (xs : List (List Key × Addr × Value)) : Prop := Paired (fun p q => p.1 = q.1 ∧ RelV p.2 q.2.2) kvs xs
theorem KX.val {kvs : List (List Key × V)} {xs : List (List Key × Addr × Value)} (r : KX kvs xs) (k : List Key) : RelO (valV kvs k) ((atKey xs k).map (·.2)) := by
  induction r with
  | nil => exact True.intro
  | @cons p q ps qs h t ih =>
    by_cases e : p.1 = k
    · have b : atKey (q :: qs) k = some q.2 := by simp [atKey, List.find?_cons, h.1.symm.trans e]
      rw [valV_pos e, b]
      exact h.2
    · have b : atKey (q :: qs) k = atKey qs k := by
        have e' : ¬ q.1 = k := fun z => e (h.1.trans z)
        simp [atKey, List.find?_cons, e']
      rw [valV_neg e, b]
      exact ih
theorem KX.repl {kvs : List (List Key × V)} {xs : List (List Key × Addr × Value)} (r : KX kvs xs) (k : List Key) {y : V} {u : Value} (ry : RelV y u) :
    KX (kvs.map fun kv => if kv.1 = k then (kv.1, y) else kv) (xs.map (putAt k u)) := by
  induction r with
  | nil => exact .nil
  | @cons p q ps qs h t ih =>
    rw [List.map_cons, List.map_cons]
    refine .cons ?_ ih
    unfold putAt
    by_cases e : p.1 = k
    · rw [if_pos e, if_pos (h.1.symm.trans e)]
      exact ⟨h.1, ry⟩
    · rw [if_neg e, if_neg (fun z => e (h.1.trans z))]
      exact h
theorem KX.put {kvs : List (List Key × V)} {xs : List (List Key × Addr × Value)} (r : KX kvs xs) (k : List Key) {b : Addr} {y : V} {u : Value} (ry : RelV y u) : KX (putK kvs k y) (storedH xs k b u) := by
  have e : (kvs.any fun kv => decide (kv.1 = k)) = (atKey xs k).isSome := by rw [valV_any, (r.val k).isSome_eq, Option.isSome_map]
  unfold putK storedH
  rw [e]
  by_cases q : (atKey xs k).isSome = true
  · rw [if_pos q, if_pos q]
    exact r.repl k ry
  · rw [if_neg q, if_neg q]
    exact Paired.snoc r ⟨rfl, ry⟩
theorem KX.of : ∀ {us : List V} {xs : List (List Key × Addr × Value)}, Vals us (xs.map (·.2.2)) → ∃ kvs, KX kvs xs ∧ kvs.map (·.2) = us
  | us, [], r => by
    cases r
    exact ⟨[], .nil, rfl⟩
  | us, x :: xs, r => by
    rw [List.map_cons] at r
    cases r with
    | @cons u _ us _ h t =>
      obtain ⟨kvs, q, e⟩ := KX.of t
      exact ⟨(x.1, u) :: kvs, .cons ⟨rfl, h⟩ q, by rw [List.map_cons, e]⟩
theorem KX.keys {kvs : List (List Key × V)} {xs : List (List Key × Addr × Value)} (r : KX kvs xs) {β : Type} (f : List Key → β) : xs.map (fun x => f x.1) = kvs.map fun kv => f kv.1 := by
  induction r with
  | nil => rfl
  | cons h t ih => rw [List.map_cons, List.map_cons, ih, h.1]
theorem KX.vals {kvs : List (List Key × V)} {xs : List (List Key × Addr × Value)} (r : KX kvs xs) : Vals (kvs.map (·.2)) (xs.map (·.2.2)) := by
  induction r with
  | nil => exact .nil
  | cons h t ih => exact .cons h.2 ih
theorem mem_storedH {xs : List (List Key × Addr × Value)} {k : List Key} {b : Addr} {v : Value} {x : List Key × Addr × Value} (h : x ∈ storedH xs k b v) : (∃ y ∈ xs, x.1 = y.1 ∧ x.2.1 = y.2.1) ∨ (x.1 = k ∧ x.2.1 = b) := by
  unfold storedH at h
  split at h
  · obtain ⟨y, hy, e⟩ := List.mem_map.mp h
    unfold putAt at e
    split at e
    · subst e
      exact .inl ⟨y, hy, rfl, rfl⟩
    · subst e
      exact .inl ⟨y, hy, rfl, rfl⟩
  · rcases List.mem_append.mp h with h | h
    · exact .inl ⟨x, h, rfl, rfl⟩
    · rw [List.mem_singleton] at h
      subst h
      exact .inr ⟨rfl, rfl⟩
theorem len_storedH (xs : List (List Key × Addr × Value)) (k : List Key) (b : Addr) (v : Value) : (storedH xs k b v).length ≤ xs.length + 1 := by
  unfold storedH
  split
  · rw [List.length_map]
    omega
  · rw [List.length_append]
    exact Nat.le_refl _
/-- the dict at a holds at the key y -/
def XGet (K : Frag) (H : Hp) (a : Addr) (y : V) (r : Option V) : Prop := ∃ (O : Addr → Prop) (ob : Obj) (xs : List (List Key × Addr × Value)) (k : List Key) (b : Addr), H a = some (.ext (dPhi a ob xs)) ∧ y = .ref b ∧ TKy K O H b k ∧ (∀ x ∈ xs, TKy K O H x.2.1 x.1) ∧ RelO r ((atKey xs k).map (·.2))
def GetD (K : Frag) (H : Hp) (a : Addr) (y : V) (r : Option V) : Prop := DGet H a y r ∨ XGet K H a y r
def XPut (K : Frag) (H : Hp) (a : Addr) (y v : V) (N : Hp → Prop) : Prop := ∃ (O : Addr → Prop) (ob : Obj) (xs : List (List Key × Addr × Value)) (k : List Key) (b : Addr), H a = some (.ext (dPhi a ob xs)) ∧ y = .ref b ∧ TKy K O H b k ∧ (∀ x ∈ xs, TKy K O H x.2.1 x.1) ∧ k.all Sum.isLeft = true ∧ xs.length < sizeLine ∧ ∀ r ob, RelV v r → N (upd H a (.ext (dPhi a ob (storedH xs k b r))))
def PutD (K : Frag) (H : Hp) (a : Addr) (y v : V) (N : Hp → Prop) : Prop := (∃ H', DPut H a y v H' ∧ N H') ∨ XPut K H a y v N
/-- what a look-up tells -/
theorem dget_at {a : Addr} {t : Bool} {ks vs : List D} {us : List V} {y : V} {d : D} (h : DiS K O H a t ks us) (al : AtL K O H us vs) (k : KeyAt K O H t y d) : match dGet ks vs d with
    | some r => ∃ v, GetD K H a y (some v) ∧ At K O H v r
    | none => GetD K H a y none := by
  cases t with
  | false =>
    obtain ⟨kvs, e1, rfl, rfl⟩ := DiS.ff.mp h
    obtain ⟨k, rfl, rfl⟩ := k
    have := dGet_val keyD eqv_key k kvs vs al
    cases q : dGet (kvs.map fun kv => keyD kv.1) vs (keyD k) with
    | none =>
      rw [q] at this
      exact .inl (.inl ⟨kvs, k, .inl e1, rfl, this.symm⟩)
    | some r =>
      rw [q] at this
      obtain ⟨v, e2, hv⟩ := this
      exact ⟨v, .inl (.inl ⟨kvs, k, .inl e1, rfl, e2.symm⟩), hv⟩
  | true =>
    obtain ⟨ob, xs, e1, rfl, vv, tk, tki⟩ := DiS.tt.mp h
    obtain ⟨k, b, rfl, eb, rfl, _⟩ := k
    obtain ⟨kvs, kx, rfl⟩ := KX.of vv
    have := dGet_val (fun k : List Key => D.tup (k.map keyD)) (fun a b => eqvL_key a b) k kvs vs al
    have rv := kx.val k
    rw [kx.keys fun k => D.tup (k.map keyD)]
    cases q : dGet (kvs.map fun kv => .tup (kv.1.map keyD)) vs (.tup (k.map keyD)) with
    | none =>
      rw [q] at this
      rw [this] at rv
      exact .inr ⟨O, ob, xs, k, b, e1, rfl, eb, tk, rv⟩
    | some r =>
      rw [q] at this
      obtain ⟨v, e2, hv⟩ := this
      rw [e2] at rv
      exact ⟨v, .inr ⟨O, ob, xs, k, b, e1, rfl, eb, tk, rv⟩, hv⟩
theorem any_key {κ : Type} [DecidableEq κ] (f : κ → D) (hf : ∀ a b, eqv (f a) (f b) = decide (a = b)) (x : κ) : ∀ kvs : List (κ × V), (kvs.map fun kv => f kv.1).any (fun k => eqv k (f x)) = kvs.any fun kv => decide (kv.1 = x)
  | [] => rfl
  | kv :: kvs => by
    rw [List.map_cons, List.any_cons, List.any_cons, hf, any_key f hf x kvs]
theorem put_at {κ : Type} [DecidableEq κ] (f : κ → D) (hf : ∀ a b, eqv (f a) (f b) = decide (a = b)) (x : κ) {v : V} {r : D} (hv : At K O H v r) (kvs : List (κ × V)) (vs : List D) (al : AtL K O H (kvs.map (·.2)) vs) :
    (dPut (kvs.map fun kv => f kv.1) vs (f x) r).1 = (putK kvs x v).map (fun kv => f kv.1) ∧ AtL K O H ((putK kvs x v).map (·.2)) (dPut (kvs.map fun kv => f kv.1) vs (f x) r).2 := by
  unfold dPut putK
  rw [any_key f hf]
  by_cases c : (kvs.any fun kv => decide (kv.1 = x)) = true
  · rw [if_pos c, if_pos c]
    clear c
    constructor
    · show kvs.map (fun kv => f kv.1) = _
      rw [List.map_map]
      refine List.map_congr_left fun kv _ => ?_
      show _ = f (if kv.1 = x then (kv.1, v) else kv).1
      split <;> rfl
    · show AtL K O H _ (dRep (kvs.map fun kv => f kv.1) vs (f x) r)
      induction kvs generalizing vs with
      | nil => cases al; exact .nil
      | cons kv kvs ih =>
        cases al with
        | @cons _ d _ vs h hs =>
          show AtL K O H ((if kv.1 = x then (kv.1, v) else kv).2 :: _) ((if eqv (f kv.1) (f x) = true then r else d) :: dRep (kvs.map fun kv => f kv.1) vs (f x) r)
          refine .cons ?_ (ih vs hs)
          rw [hf]
          by_cases c : kv.1 = x
          · rw [if_pos c, decide_eq_true c, if_pos rfl]
            exact hv
          · rw [if_neg c, decide_eq_false c, if_neg Bool.false_ne_true]
            exact h
  · rw [if_neg c, if_neg c]
    refine ⟨by rw [List.map_append]; rfl, ?_⟩
    rw [List.map_append]
    exact al.app (.cons hv .nil)
/-- .. and a store -/
theorem dput_at {a : Addr} {t : Bool} {ks vs : List D} {us : List V} {y v : V} {d r : D} {N : Hp → Prop} (h : DiS K O H a t ks us) (al : AtL K O H us vs) (k : KeyAt K O H t y d) (hv : At K O H v r) (hl : ks.length < SZ)
    (hN : ∀ (u : HO) (us' : List V), Cont u → (∀ b ys, H b = some (.tup ys) → b ≠ a) → (∀ O' : Addr → Prop, (∀ b o, H b = some o → ¬ O b → upd H a u b = some o ∧ ¬ O' b) → DiS K O' (upd H a u) a t (dPut ks vs d r).1 us') → AtL K O H us' (dPut ks vs d r).2 → N (upd H a u)) : PutD K H a y v N := by
  cases t with
  | false =>
    obtain ⟨kvs, e1, rfl, rfl⟩ := DiS.ff.mp h
    obtain ⟨k, rfl, rfl⟩ := k
    obtain ⟨p1, p2⟩ := put_at keyD eqv_key k hv kvs vs al
    rw [List.length_map] at hl
    exact .inl ⟨_, DPut.k e1 (szlt hl), hN (.dK (putK kvs k v)) _ trivial (fun b ys z q => by rw [q, e1] at z; cases z) (fun _ _ => DiS.ff.mpr ⟨_, upd_same, p1, rfl⟩) p2⟩
  | true =>
    obtain ⟨ob, xs, e1, rfl, vv, tk, tki⟩ := DiS.tt.mp h
    obtain ⟨k, b, rfl, eb, rfl, ki⟩ := k
    obtain ⟨kvs, kx, rfl⟩ := KX.of vv
    obtain ⟨p1, p2⟩ := put_at (fun k : List Key => D.tup (k.map keyD)) (fun a b => eqvL_key a b) k hv kvs vs al
    rw [List.length_map] at hl
    rw [kx.keys fun k => D.tup (k.map keyD)] at hN
    have ne : ∀ b ys, H b = some (.tup ys) → b ≠ a := fun b ys z q => by
      rw [q, e1] at z
      cases z
    refine .inr ⟨O, ob, xs, k, b, e1, rfl, eb, tk, ki, szlt hl, fun r' ob' rr => hN (.ext (dPhi a ob' (storedH xs k b r'))) ((putK kvs k v).map (·.2)) trivial ne (fun O' go => ?_) p2⟩
    have kx' := kx.put k (b := b) rr
    have tgo : ∀ c kk, TKy K O H c kk → TKy K O' (upd H a (.ext (dPhi a ob' (storedH xs k b r')))) c kk := fun c kk z => z.elim (fun z => .inl (go c _ z.1 z.2)) .inr
    refine DiS.tt.mpr ⟨ob', storedH xs k b r', upd_same, ?_, kx'.vals, fun x hx => ?_, fun x hx => (mem_storedH hx).elim (fun ⟨y, hy, e2, _⟩ => by rw [e2]; exact tki y hy) fun z => by rw [z.1]; exact ki⟩
    · rw [p1, kx'.keys fun k => D.tup (k.map keyD)]
    · rcases mem_storedH hx with ⟨y, hy, e2, e3⟩ | ⟨e2, e3⟩
      · rw [e2, e3]
        exact tgo _ _ (tk y hy)
      · rw [e2, e3]
        exact tgo _ _ eb
end
section
variable {X : Cx} {pins : List (Addr × Obj)} {σ : L2.St} {H : Hp} {s : Shared} {a : Addr} {y v : V} {u r : Value} {o : Option V} {A : Around} {E : Value → Shared → Prop} {O : Addr → Prop}
theorem tky_is {b : Addr} {k : List Key} (I : Inv X pins σ H s) (h : TKy X.K O H b k) : (tupleKind (mixKind X.prog X.w)).is s.heap k b := by
  rcases h with h | ⟨_, o, its, n, e, hc, hd, _, r⟩
  · exact key_of I.hok h.1
  · exact ⟨o, its, n, I.kIn b o e, hc, hd, items_are r⟩
theorem xt_rd {ob : Obj} {xs : List (List Key × Addr × Value)} (I : Inv X pins σ H s) (e : H a = some (.ext (dPhi a ob xs))) (t : ∀ x ∈ xs, TKy X.K O H x.2.1 x.1) :
    xs.length ≤ sizeLine ∧ (a == sysModules) = false ∧ s.heap.DictOfH (tupleKind (mixKind X.prog X.w)) a xs ∧ ∀ x ∈ xs, x.1.all Sum.isLeft = true := by
  obtain ⟨⟨es, ep, h1, h2, h3, h4, h5, h6, h7, h8⟩, _⟩ := (show ObjOk X.prog X.w H s.heap a (.ext (dPhi a ob xs)) from I.hok a _ e)
  exact ⟨h7, h6, ⟨ob, es, ep, h1, h2, h3, h4 _ _, fun x hx => tky_is I (t x hx), h5⟩, h8⟩
theorem hash_ind (P P' : Program) (w w' : World) : ∀ k : List Key, k.all Sum.isLeft = true → k.map (mixKind P w).hash = k.map (mixKind P' w').hash
  | [], _ => rfl
  | .inl i :: k, h => by
    rw [List.map_cons, List.map_cons, hash_ind P P' w w' k h]
    rfl
  | .inr i :: k, h => by cases h
theorem ent_ind (P P' : Program) (w w' : World) (x : List Key × Addr × Value) (h : x.1.all Sum.isLeft = true) : entryOfKey (tupleKind (mixKind P w)) x = entryOfKey (tupleKind (mixKind P' w')) x := by
  show DictEntry.mk (tupleKeyHash (mixKind P w) x.1) _ _ = DictEntry.mk (tupleKeyHash (mixKind P' w') x.1) _ _
  unfold tupleKeyHash
  rw [hash_ind P P' w w' x.1 h]
theorem xt_ok {P : Program} {w : World} {h' : Heap} {xs : List (List Key × Addr × Value)} (z : xs.length ≤ sizeLine) (hd : (a == sysModules) = false) (dd : h'.DictOfH (tupleKind (mixKind P w)) a xs) (ki : ∀ x ∈ xs, x.1.all Sum.isLeft = true) : ∃ ob, h'.get? a = some ob ∧ ∀ H', ObjOk P w H' h' a (.ext (dPhi a ob xs)) := by
  obtain ⟨o, es, ep, h1, h2, h3, h4, _, h5⟩ := dd
  refine ⟨o, h1, fun H' => ⟨⟨es, ep, h1, h2, h3, fun P' w' => ?_, h5, hd, z, ki⟩, ⟨o, h1⟩, fun g1 g2 ⟨es, ep, q1, q⟩ k => ⟨es, ep, k o q1, q⟩⟩⟩
  rw [h4]
  exact List.map_congr_left fun x hx => ent_ind _ _ _ _ x (ki x hx)
theorem g_typeIs (I : Inv X pins σ H s) (g : GetD X.K H a y o) : s.TypeIs (.ref a) "dict" := by
  rcases g with g | ⟨O, ob, xs, k, b, e, rfl, eb, t, q⟩
  · exact dict_typeIs I g
  · exact (xt_rd I e t).2.2.1.typeIs
theorem g_getItem {Q : Value → Shared → Prop} (hu : A.units + 1 < cLine) (I : Inv X pins σ H s) (g : GetD X.K H a y (some v)) (ry : RelV y u) (h : ∀ w' s', Inv X pins σ H s' → RelV v w' → Q w' s') :
    wpAny (model X.prog X.w) A (getItem (.ref a) u) Q E s := by
  rcases g with g | ⟨O, ob, xs, k, b, e, rfl, eb, t, q⟩
  · exact d_getItem hu I g ry h
  · cases (show u = Value.ref b from ry)
    obtain ⟨w', hw, rw'⟩ := RelO.some_of (v := v) (o := (atKey xs k).map (·.2)) q
    obtain ⟨p, hp, hp2⟩ := Option.map_eq_some_iff.mp hw
    refine wpAny_getItem_heap (tupleKind_room_in1 hu) (tky_is I eb) (xt_rd I e t).2.2.1 hp ?_
    rw [hp2]
    exact h w' _ (I.tok _) rw'
theorem g_setItem {N : Hp → Prop} {Q : Unit → Shared → Prop} (hu : A.units + 1 < cLine) (I : Inv X pins σ H s) (g : PutD X.K H a y v N) (ry : RelV y u) (rv : RelV v r) (h : ∀ H' s', N H' → Inv X pins σ H' s' → Q () s') :
    wpAny (model X.prog X.w) A (setItem (.ref a) u r) Q E s := by
  rcases g with ⟨H', g, n⟩ | ⟨O, ob, xs, k, b, e, rfl, eb, t, ki, l, n⟩
  · exact d_setItem hu I g ry rv fun s' => h _ s' n
  · cases (show u = Value.ref b from ry)
    obtain ⟨z, hd, dd, kk⟩ := xt_rd I e t
    refine wpAny_setItem_heap (hsz := z) (tupleKind_room_in1 hu) (tky_is I eb) dd fun h' dd' hs => ?_
    have k2 : ∀ x ∈ storedH xs k b r, x.1.all Sum.isLeft = true := fun x hx => by
      rcases mem_storedH hx with ⟨y, hy, e2, _⟩ | ⟨e2, _⟩
      · rw [e2]
        exact kk y hy
      · rw [e2]
        exact ki
    obtain ⟨ob', he, ok⟩ := xt_ok (a := a) (by have := len_storedH xs k b r; omega) hd dd' k2
    exact h _ _ (n r ob' rv) (d_write I (by rw [e]; exact True.intro) hs ⟨_, he⟩ (ok _))
end
def tDGetG (K : Frag) (td ty : TE) : TE := fun σ H Q => td σ H fun x H1 => ty σ H1 fun y H2 => ∃ a v, x = .ref a ∧ GetD K H2 a y (some v) ∧ Q v H2
def sDPutG (K : Frag) (td ty tv : TE) : TS := fun D σ H => tv σ H fun v H1 => td σ H1 fun x H2 => ty σ H2 fun y H3 => ∃ a, x = .ref a ∧ PutD K H3 a y v fun H4 => D.nx σ H4
section
variable {X : Cx} {o i e f value : Expr} {pos pos' apos cpos : Pos} {td ty tv tx : TE}
theorem pe_dgetG (hu : X.A.units + 1 < cLine) (ho : PE X o td) (hi : PE X i ty) (hs : NoSl i) : PE X (.Subscript o i pos) (tDGetG X.K td ty) := by
  refine ⟨fun pins s σ H Q I h => ?_⟩
  refine subD_of PySem.F.slot_dict_getitem.lookup hs (thn (ho.run pins s σ H _ I h) fun u s1 ⟨x, H1, I1, rx, q1⟩ => thn (hi.run pins s1 σ H1 _ I1 q1) fun iv s2 ⟨y, H2, I2, ry, a, v, ex, g, q2⟩ => ?_)
  subst ex
  obtain rfl : u = Value.ref a := rx
  exact ⟨g_typeIs I2 g, g_getItem hu I2 g ry fun w' s3 I3 rw' => ⟨v, H2, I3, rw', q2⟩⟩
theorem ps_dputG (hu : X.A.units + 1 < cLine) (ho : PE X o td) (hi : PE X i ty) (hv : PE X value tv) (hs : swapsWith value (some (.Subscript o i pos')) pos.line X.env = pure false) :
    PS X (.Assign [.Subscript o i pos'] value pos) (sDPutG X.K td ty tv) := by
  refine ⟨fun pins s σ H D I h => ?_⟩
  refine wpAny_Assign_Subscript (thn (hv.run pins s σ H _ I h) fun r s1 ⟨v, H1, I1, rv, q1⟩ => thn (ho.run pins s1 σ H1 _ I1 q1) fun u s2 ⟨x, H2, I2, rx, q2⟩ => thn (hi.run pins s2 σ H2 _ I2 q2) fun iv s3 ⟨y, H3, I3, ry, a, ex, g⟩ => ?_) hs
  subst ex
  obtain rfl : u = Value.ref a := rx
  exact g_setItem hu I3 g ry rv fun H4 s4 q3 I4 => ⟨σ, H4, I4, q3⟩
end
section
variable {γ ι : Type} {B : Bs γ ι} {W : WX} {X : Cx} {pos px : Pos} {a ke : Expr} {ma mk mz : ME γ} {i : Nat} {x : Str}
/-- what a slot that holds a dict holds -/
theorem Rep.dct {A : Act γ ι} {e : Env} {g : γ} {σ : L2.St} {H : Hp} (R : Rep A e g σ H) {t : Bool} {ks vs : List D} (h : dctOf (gt e i) = some (t, ks, vs)) : ∃ p us, σ[i]? = some (some (.ref p)) ∧ DiS A.K (Om A e σ) H p t ks us ∧ AtL A.K (Om A e σ) H us vs := by
  have q := R.sl i
  cases k : gt e i with
  | owd t' ks' vs' =>
    rw [k] at h q
    cases h
    obtain ⟨p, us, e1, e2, e3⟩ := q
    exact ⟨p, us, e1, e2, e3⟩
  | dat d =>
    rw [k] at h q
    obtain ⟨v, e1, a⟩ := q
    cases d with
    | dct t' ks' vs' =>
      cases h
      cases a with
      | dct h1 h2 h3 => exact ⟨_, _, e1, h1, h3⟩
    | _ => cases h
  | _ =>
    rw [k] at h
    cases h
theorem onK_some {t : Bool} {y : Rv} {f : D → Option D} {z : Rv} (h : onK t y f = some z) : ∃ d r, y = .dat d ∧ keyB t d = true ∧ f d = some r ∧ z = .dat r := by
  unfold onK at h
  split at h
  · rename_i d
    split at h
    · rename_i hk
      cases q : f d with
      | none =>
        rw [q] at h
        cases h
      | some r =>
        rw [q] at h
        cases h
        exact ⟨d, r, rfl, hk, q, rfl⟩
    · cases h
  · cases h
theorem re_mono {σ : L2.St} {H : Hp} {Q Q' : VK} (h : RE B W mk σ H Q) (k : ∀ v H1, Q v H1 → Q' v H1) : RE B W mk σ H Q' := by
  obtain ⟨S, e, g, R, h⟩ := h
  refine ⟨S, e, g, R, ?_⟩
  cases q : mk e g with
  | no =>
    rw [q] at h
    exact h
  | ex y g1 =>
    rw [q] at h
    exact h
  | ok a g1 =>
    rw [q] at h
    exact fun b H' x i o => k _ _ (h b H' x i o)
/-- the reading of an operation with a key -/
theorem dop_tot {f : List D → List D → D → Option D} {σ : L2.St} {H : Hp} {Q : VK} (h : RE B W (mDOp f i mk) σ H Q) :
    ∃ p, σ[i]? = some (some (.ref p)) ∧ (∃ O t ks us, DiS B.K O H p t ks us) ∧ RE B W mk σ H fun y H1 => ∃ (O : Addr → Prop) (t : Bool) (ks vs : List D) (us : List V) (d r : D), DiS B.K O H1 p t ks us ∧ AtL B.K O H1 us vs ∧ KeyAt B.K O H1 t y d ∧ f ks vs d = some r ∧ ∀ v, At B.K O H1 v r → Q v H1 := by
  obtain ⟨S, e, g, R, h⟩ := h
  unfold mDOp at h
  cases q : dctOf (gt e i) with
  | none =>
    rw [q] at h
    exact h.elim
  | some z =>
    obtain ⟨t, ks, vs⟩ := z
    rw [q] at h
    obtain ⟨p, us, e1, di, al⟩ := R.dct q
    refine ⟨p, e1, ⟨_, t, ks, us, di⟩, S, e, g, R, RK.bind (.refl H) h fun y g1 vy H1 _ x1 i1 o1 h1 => ?_⟩
    obtain ⟨z, ez, qz⟩ := h1.ofO
    obtain ⟨d, r, rfl, hk, ef, rfl⟩ := onK_some ez
    have R1 := R.exe x1 i1
    obtain ⟨p', us', e1', di', al'⟩ := R1.dct q
    rw [e1] at e1'
    cases e1'
    exact ⟨Om ⟨B, S⟩ e σ, t, ks, vs, us', d, r, di', al', key_at o1 hk, ef, fun v hv => qz v H1 x1 i1 hv⟩
theorem pb_dget (i : Nat) {x : Str} (hK : B.K = X.K) (hu : X.A.units + 1 < cLine) (hN : X.N[i]? = some x) (hk : PE X ke (RE B W mk)) (hs : NoSl ke) (hv : Vis X.env.scope x := by first | exact Or.inl rfl | exact Or.inr (Or.inl rfl) | exact Or.inr (Or.inr rfl)) (hd : (x == ("__debug__" : Str)) = false := by decide) (hcd : (x == ("__classdict__" : Str)) = false := by decide) :
    PE X (.Subscript (.Name x px) ke pos) (RE B W (mDGet i mk)) := pe_w (pe_dgetG hu (pe_var hN hv hd hcd) hk hs) fun σ H Q h => by
  obtain ⟨p, e1, _, q⟩ := dop_tot h
  refine ⟨_, e1, re_mono q fun y H1 hy => ?_⟩
  obtain ⟨O, t, ks, vs, us, d, r, di, al, ka, ef, hq⟩ := hy
  have := dget_at di al ka
  rw [ef] at this
  obtain ⟨v, dg, av⟩ := this
  rw [hK] at dg
  exact ⟨p, v, rfl, dg, hq v av⟩
/-- x[k] = a -/
theorem pb_dput (i : Nat) {x : Str} {pos' : Pos} (hK : B.K = X.K) (hu : X.A.units + 1 < cLine) (hN : X.N[i]? = some x) (hk : PE X ke (RE B W mk)) (ha : PE X a (RE B W ma)) (hs : swapsWith a (some (.Subscript (.Name x px) ke pos')) pos.line X.env = pure false) (hv : Vis X.env.scope x := by first | exact Or.inl rfl | exact Or.inr (Or.inl rfl) | exact Or.inr (Or.inr rfl)) (hd : (x == ("__debug__" : Str)) = false := by decide) (hcd : (x == ("__classdict__" : Str)) = false := by decide) :
    PS X (.Assign [.Subscript (.Name x px) ke pos'] a pos) (RS B W (mDPut i mk ma)) := ps_w (ps_dputG hu (pe_var hN hv hd hcd) hk ha hs) fun Dd σ H ⟨S, e, g, R, h⟩ => by
  rw [← hK]
  refine ⟨S, e, g, R, RSK.bind R h fun y g1 vy H1 x1 i1 o1 h1 => ?_⟩
  have R1 := R.exe x1 i1
  cases q : gt e i with
  | owd t ks vs =>
    rw [q] at h1
    obtain ⟨p, us, e1, di, al⟩ := R1.dct (i := i) (by rw [q]; rfl)
    refine ⟨_, e1, S, e, g1, R1, RSK.bind R1 (RSK.late R1 (.exe R x1) h1) fun z g2 vz H2 x12 i2 o2 h2 => ?_⟩
    have R2 := R1.exe x12 i2
    cases qs : y.sto with
    | none =>
      rw [qs] at h2
      exact h2.elim
    | some v =>
      rw [qs] at h2
      cases z with
      | dat d =>
        have h2 : RSK ⟨B, S⟩ W e σ H1 (if keyB t d = true ∧ ks.length < SZ then Rs.ok (.nx (st e i (.owd t (dPut ks vs d v).1 (dPut ks vs d v).2))) g2 else .no) Dd := h2
        by_cases c : keyB t d = true ∧ ks.length < SZ
        · rw [if_pos c] at h2
          have av := R1.at x12 (o1.sto R qs)
          obtain ⟨p', us', e1', di', al'⟩ := R2.dct (i := i) (by rw [q]; rfl)
          rw [e1] at e1'
          cases e1'
          refine ⟨p, rfl, dput_at di' al' (key_at o2 c.1) av c.2 fun u us2 cu nt di2 al2 => ?_⟩
          obtain ⟨R3, s3⟩ := R2.upd_any (s' := .owd t (dPut ks vs d v).1 (dPut ks vs d v).2) (by rw [q]; rfl) rfl e1 cu fun O go => ⟨p, us2, rfl, di2 O go, al2.go go⟩
          exact h2 _ _ R3 (Stp.trans R2 (.exe R1 x12) s3)
        · rw [if_neg c] at h2
          exact h2.elim
      | _ => exact h2.elim
  | _ =>
    rw [q] at h1
    exact h1.elim
end
end PB
set_option Elab.async false
set_option linter.all false
set_option maxRecDepth 100000
set_option maxHeartbeats 4000000
namespace PB
open PySem PySem.Spec PyProof.Rows L2
variable [Kts]
section
variable {γ ι : Type} {B : Bs γ ι} {W : WX} {X : Cx} {pos px : Pos} {a ke : Expr} {ma mk : ME γ} {i : Nat} {x : Str}
/-- a new dict's object -/
def oD0 : Obj := { cls := .type "dict", data := .dict #[] }
def dnO (p : Addr) (t : Bool) : HO := if t then .ext (dPhi p oD0 []) else .dK []
theorem dnO_is {K : Frag} {O : Addr → Prop} {H : Hp} {p : Addr} (t : Bool) : DiS K O (upd H p (dnO p t)) p t [] [] := by
  cases t with
  | true => exact DiS.tt.mpr ⟨oD0, [], upd_same, rfl, .nil, (by intro x hx; cases hx), (by intro x hx; cases hx)⟩
  | false => exact DiS.ff.mpr ⟨[], upd_same, rfl, rfl⟩
theorem xt_empty {P : Program} {w : World} {H : Hp} (h : Heap) (hb : sysModules < h.objs.size) : ObjOk P w H (h.push { cls := .type "dict", data := .dict #[] }) h.objs.size (.ext (dPhi h.objs.size oD0 [])) :=
  by
  obtain ⟨ob, e, ok⟩ := xt_ok (P := P) (w := w) (a := h.objs.size) (h' := h.push { cls := .type "dict", data := .dict #[] }) (xs := []) (Nat.zero_le _) (beq_eq_false_iff_ne.mpr (Ne.symm (Nat.ne_of_lt hb))) (Heap.DictOfH.new h) fun _ z => nomatch z
  have e2 : (h.push { cls := .type "dict", data := .dict #[] }).get? h.objs.size = some oD0 := Heap.get?_push_size _ rfl
  rw [e2] at e
  cases e
  exact ok H
theorem pe_dnewX {X : Cx} {pos : Pos} : PE X (.Dict [] [] pos) (fun _ H Q => ∀ p, H p = none → Q (.ref p) (upd H p (.ext (dPhi p oD0 [])))) := ⟨fun pins s σ H Q I h =>
  wpAny_Dict_empty ⟨.ref s.heap.objs.size, _, I.laid (a := s.heap.objs.size) (t' := s.toks) (fun _ _ q => Heap.get?_push_of_some _ q) (Nat.le_refl _) (xt_empty s.heap I.big), rfl, h _ (I.hok.fresh (Nat.le_refl _))⟩⟩
theorem dnew_go {t : Bool} {Dd : Ends} {σ : L2.St} {H : Hp} (h : RS B W (mDNew t i) Dd σ H) (p : Addr) (hp : H p = none) : Dd.nx (σ.set i (some (.ref p))) (upd H p (dnO p t)) := by
  obtain ⟨S, e, g, R, h⟩ := h
  have x1 : ExE ⟨B, S⟩ H (upd H p (dnO p t)) := .new hp
  have R1 := R.exe x1 (Gho.new R.gh hp)
  obtain ⟨R2, ow⟩ := R.setN (s' := .owd t [] []) x1 R1 hp rfl (fun O _ => ⟨p, [], rfl, dnO_is t, .nil⟩) i
  exact h _ _ R2 ⟨fun b o q n => x1 b o q fun z => n (.inl z), ow⟩
/-- x = {} -/
theorem pb_dnew (t : Bool) {pos' p2 : Pos} (hN : X.N.Nodup) (hi : X.N[i]? = some x) (hx : Loc X.env.scope x) (hs : swapsWith (.Dict [] [] p2) (some (.Name x pos')) pos.line X.env = pure false := by rfl) (hf : X.fn x = true ∨ X.env.scope.names.lookup x = some .local := by first | exact .inl rfl | exact .inr rfl | assumption) :
    PS X (.Assign [.Name x pos'] (.Dict [] [] p2) pos) (RS B W (mDNew t i)) := by
  cases t with
  | true => exact ps_w (ps_set hN hi hx pe_dnewX hs hf) fun Dd σ H h => fun p hp => dnew_go h p hp
  | false => exact ps_w (ps_set hN hi hx pe_dnewK hs hf) fun Dd σ H h => fun p hp => dnew_go h p hp
end
end PB
set_option Elab.async false
set_option linter.all false
set_option maxRecDepth 100000
set_option maxHeartbeats 4000000
namespace PB
open PySem PySem.Spec PyProof.Rows L2
variable [Kts]
theorem rngD_get (lo : Int) (n : Nat) : ∀ i, (rngD lo n)[i]? = if i < n then some (.int (lo - i)) else none := by
  induction n generalizing lo with
  | zero => intro i; simp [rngD]
  | succ n ih =>
    intro i
    cases i with
    | zero => simp [rngD]
    | succ i =>
      simp only [rngD, List.getElem?_cons_succ, ih]
      by_cases h : i < n
      · rw [if_pos h, if_pos (by omega)]
        congr 2
        omega
      · rw [if_neg h, if_neg (by omega)]
theorem rngD_len (lo : Int) (n : Nat) : (rngD lo n).length = n := by
  induction n generalizing lo with
  | zero => rfl
  | succ n ih => simp [rngD, ih]
section
variable {γ ι : Type} {B : Bs γ ι} {W : WX} {X : Cx} {pos : Pos} {tg a b c : Expr} {ma : ME γ} {mr : MA γ}
theorem it_rngD {A : Act γ ι} {e : Env} {σ : L2.St} {H' : Hp} (lo : Int) (n : Nat) : ItOk A e σ H' (Itc lo (-1) n) (rngD lo n) := fun H1 h1 => by
  refine ⟨fun i hi => by rw [rngD_len] at hi; exact hi, fun i d hd => ?_⟩
  rw [rngD_get] at hd
  by_cases hi : i < n
  · rw [if_pos hi] at hd
    cases hd
    refine ⟨hi, fun x H2 hy => ?_⟩
    obtain ⟨e1, e2⟩ := hy
    have e3 : lo + (i : Nat) * (-1 : Int) = lo - i := by omega
    rw [e3] at e2
    subst e1 e2
    exact ⟨.inl rfl, fun _ _ _ => .int _⟩
  · rw [if_neg hi] at hd
    cases hd
theorem pb_range3 {p : Pos} (hg : Gl X "range") (hm : X.mg "range" = none) (ha : PA X [a, b, c] (RA B W mr)) (hs : starEach [a, b, c] X.env = (false, eval a X.env) :: starEach [b, c] X.env := by rfl) (hpl : (backTo pos (starEach [b, c] X.env)).any (·.1) = false := by rfl) (hl : ∀ e g rs g', mr e g = .ok rs g' → rs.length = 3) :
    PI X tg (.Call (.Name "range" p) [a, b, c] [] pos) (RI B W (mRangeA mr)) := by
  refine pi_w (pi_range3 hg hm ha hs hpl) fun σ H Q ⟨S, e, g, R, h⟩ => ?_
  refine ⟨S, e, g, R, ?_⟩
  unfold mRangeA at h
  cases q : mr e g with
  | no =>
    rw [q] at h
    exact h
  | ex y g1 =>
    rw [q] at h
    exact h
  | ok xs g1 =>
    rw [q] at h
    intro vs H1 x1 i1 o1
    have h1 : RK PIt ⟨B, S⟩ W e σ H (ofO (rngA xs) g1) Q := h
    obtain ⟨ds, k, h1⟩ := h1.ofO
    have hl2 := hl _ _ _ _ q
    unfold rngA at k
    split at k
    · cases hl2
    · split at k
      · rename_i hc
        obtain ⟨hc1, hc2, rfl⟩ := hc
        cases k
        cases o1 with
        | cons oa os =>
        cases os with
        | cons ob os =>
        cases os with
        | cons oc os =>
        cases os
        cases oa
        cases ob
        cases oc
        exact ⟨_, _, _, _, rfl, RgC.neg (rngOk_bd hc1).1 (rngOk_bd hc1).2 (rngOk_bd hc2).1 (rngOk_bd hc2).2, h1 _ H1 x1 i1 (it_rngD _ _)⟩
      · cases k
    · cases k
end
end PB
set_option Elab.async false
set_option linter.all false
set_option maxRecDepth 100000
set_option maxHeartbeats 4000000
namespace PB
open PySem PySem.Spec PyProof.Rows L2
open PySem.W (alike alikeAll dataLt keyToks keyToksAll AlikeAll AllAlike Sortable EachIs)
end PB
set_option Elab.async false
set_option linter.all false
set_option maxRecDepth 100000
set_option maxHeartbeats 4000000
namespace PB
open PySem PySem.Spec PyProof.Rows L2
variable [Kts]
inductive ScL : List V → List D → Prop
  | nil : ScL [] []
  | cons {v : V} {d : D} {vs : List V} {ds : List D} (h : ScV v d) (hs : ScL vs ds) : ScL (v :: vs) (d :: ds)
/-- a scalar, or a tuple of such -/
inductive It1 (K : Frag) (H : Hp) : V → D → Prop
  | sc {v : V} {d : D} (h : ScV v d) : It1 K H v d
  | tup {a : Addr} {xs : List V} {ds : List D} (h : H a = some (.tup xs) ∨ KT K a xs) (hs : ScL xs ds) : It1 K H (.ref a) (.tup ds)
inductive ItL (K : Frag) (H : Hp) : List V → List D → Prop
  | nil : ItL K H [] []
  | cons {v : V} {d : D} {vs : List V} {ds : List D} (h : It1 K H v d) (hs : ItL K H vs ds) : ItL K H (v :: vs) (d :: ds)
section
variable {K : Frag} {O : Addr → Prop} {H H' : Hp}
theorem ScL.at : ∀ {xs : List V} {ds : List D}, ScL xs ds → AtL K O H xs ds
  | _, _, .nil => .nil
  | _, _, .cons h hs => .cons h.at hs.at
theorem scl_of : ∀ {xs : List V} {ds : List D}, AtL K O H xs ds → ds.all scl = true → ScL xs ds
  | _, _, .nil, _ => .nil
  | _, _, .cons h hs, e => by
    rw [List.all_cons, Bool.and_eq_true] at e
    exact .cons (scv_of h e.1) (scl_of hs e.2)
theorem it1_of {v : V} {d : D} (h : At K O H v d) (e : flat d = true) : It1 K H v d := by
  cases h with
  | tup h hs => exact .tup (h.elim (fun z => .inl z.1) .inr) (scl_of hs e)
  | non => exact .sc .non
  | bl b => exact .sc (.bl b)
  | int i => exact .sc (.int i)
  | str l h h2 => exact .sc (.str l h h2)
  | lst _ _ _ => cases e
  | ref _ => cases e
  | dct _ _ _ => cases e
/-- nothing that is nobody's is a list: tuples are free of owners -/
theorem It1.at {v : V} {d : D} (h : It1 K H v d) (k : ∀ a, O a → Stk (H a)) : At K O H v d := by
  cases h with
  | sc h => exact h.at
  | tup h hs => exact .tup (h.elim (fun z => .inl ⟨z, fun o => (k _ o).notT _ z⟩) .inr) hs.at
theorem It1.go {v : V} {d : D} (h : It1 K H v d) (k : ∀ a xs, H a = some (.tup xs) → H' a = some (.tup xs)) : It1 K H' v d := by
  cases h with
  | sc h => exact .sc h
  | tup h hs => exact .tup (h.elim (fun z => .inl (k _ _ z)) .inr) hs
theorem ItL.go (k : ∀ a xs, H a = some (.tup xs) → H' a = some (.tup xs)) : ∀ {vs : List V} {ds : List D}, ItL K H vs ds → ItL K H' vs ds
  | _, _, .nil => .nil
  | _, _, .cons h hs => .cons (h.go k) (hs.go k)
theorem ItL.length : ∀ {vs : List V} {ds : List D}, ItL K H vs ds → vs.length = ds.length
  | _, _, .nil => rfl
  | _, _, .cons _ hs => by rw [List.length_cons, List.length_cons, hs.length]
theorem ItL.get : ∀ {vs : List V} {ds : List D} {i : Nat} {d : D}, ItL K H vs ds → ds[i]? = some d → ∃ v, vs[i]? = some v ∧ It1 K H v d
  | _, _, 0, _, .cons h _, e => by
    cases e
    exact ⟨_, rfl, h⟩
  | _, _, i + 1, _, .cons _ hs, e => hs.get (i := i) e
theorem ItL.set : ∀ {vs : List V} {ds : List D} {i : Nat} {v : V} {d : D}, ItL K H vs ds → It1 K H v d → ItL K H (vs.set i v) (ds.set i d)
  | _, _, _, _, _, .nil, _ => .nil
  | _, _, 0, _, _, .cons _ hs, h => .cons h hs
  | _, _, i + 1, _, _, .cons h0 hs, h => .cons h0 (hs.set (i := i) h)
theorem itl_of : ∀ {xs : List V} {ds : List D}, AtL K O H xs ds → ds.all flat = true → ItL K H xs ds
  | _, _, .nil, _ => .nil
  | _, _, .cons h hs, e => by
    rw [List.all_cons, Bool.and_eq_true] at e
    exact .cons (it1_of h e.1) (itl_of hs e.2)
theorem ItL.at (k : ∀ a, O a → Stk (H a)) : ∀ {xs : List V} {ds : List D}, ItL K H xs ds → AtL K O H xs ds
  | _, _, .nil => .nil
  | _, _, .cons h hs => .cons (h.at k) (hs.at k)
end
/-- where it stands: the list, its rows -/
structure NA where
  p : Addr
  ps : List Addr
structure NlAt (K : Frag) (na : NA) (n : NL) (H : Hp) : Prop where
  hp : H na.p = some (.lst (na.ps.map V.ref))
  len : na.ps.length = n.length
  row : ∀ (i : Nat) (a : Addr) (ds : List D), na.ps[i]? = some a → n[i]? = some ds → ∃ xs, H a = some (.lst xs) ∧ ItL K H xs ds
  nd : na.ps.Nodup
  np : na.p ∉ na.ps
theorem NlAt.go {K : Frag} {na : NA} {n : NL} {H H' : Hp} (h : NlAt K na n H) (k : ∀ a, a = na.p ∨ a ∈ na.ps → H' a = H a) (t : ∀ a xs, H a = some (.tup xs) → H' a = some (.tup xs)) : NlAt K na n H' where
  hp := by rw [k _ (.inl rfl)]; exact h.hp
  len := h.len
  row := fun i a ds h1 h2 => by
    obtain ⟨xs, e, al⟩ := h.row i a ds h1 h2
    exact ⟨xs, by rw [k a (.inr (List.mem_of_getElem? h1))]; exact e, al.go t⟩
  nd := h.nd
  np := h.np
theorem NlAt.lst {K : Frag} {na : NA} {n : NL} {H : Hp} (h : NlAt K na n H) {a : Addr} (m : a = na.p ∨ a ∈ na.ps) : ∃ xs, H a = some (.lst xs) := by
  rcases m with rfl | m
  · exact ⟨_, h.hp⟩
  · obtain ⟨i, hi⟩ := List.getElem?_of_mem m
    have hl : i < n.length := by
      rw [← h.len]
      exact (List.getElem?_eq_some_iff.mp hi).1
    obtain ⟨xs, e, _⟩ := h.row i a n[i] hi (List.getElem?_eq_getElem hl)
    exact ⟨xs, e⟩
section
variable {γ ι : Type}
/-- with the list of lists -/
def nlG (K : Frag) (fam : ι → Gho γ) (i : ι × NA) : Gho (γ × NL) where
  F := fun a => (fam i.1).F a ∨ (a = i.2.p ∨ a ∈ i.2.ps)
  I := fun g H => (fam i.1).I g.1 H ∧ NlAt K i.2 g.2 H ∧ ∀ a, (a = i.2.p ∨ a ∈ i.2.ps) → ¬ (fam i.1).F a
  stab := fun g H H' h k t => ⟨(fam i.1).stab _ _ _ h.1 (fun a z => k a (.inl z)) t, h.2.1.go (fun a z => k a (.inr z)) (fun a xs => t a _ trivial), h.2.2⟩
  lsts := fun g H a h z => z.elim (fun z => (fam i.1).lsts _ _ _ h.1 z) fun z => by
    obtain ⟨xs, e⟩ := h.2.1.lst z
    exact .lst e
  ad := fun _ => i.2.p
theorem spOf_lift {K : Frag} {fam : ι → Gho γ} {n : Nat} {F : MF γ} {vs : List V} {H : Hp} {Q : VK} {E : XK} (h : spOf K (nlG K fam) n (liftF F) vs H Q E) : spOf K fam n F vs H Q E := by
  obtain ⟨⟨i, na⟩, S, ds, ⟨g, nl⟩, h1, h2, h3, h4, h5, h6⟩ := h
  refine ⟨i, S, ds, g, h1, fun a z => h2 a (.inl z), h3, h4, h5.1, ?_⟩
  unfold liftF at h6
  cases hF : F ds g with
  | no => simp [hF] at h6
  | ex x g' => simp [hF] at h6
  | ok r g' =>
    rw [hF] at h6
    dsimp only at h6 ⊢
    intro v H' k i' fr
    refine h6 v H' (fun b o q nz => k b o q fun z => nz (.inl z)) ⟨i', ?_, h5.2.2⟩ fr
    refine h5.2.1.go (fun a z => ?_) (fun a xs q => ?_)
    · obtain ⟨xs, e⟩ := h5.2.1.lst z
      rw [e]
      exact k a _ e (h5.2.2 a z)
    · refine k a _ q fun z => ?_
      exact ((fam i).lsts _ _ _ h5.1 z).notT xs q
end
end PB
set_option Elab.async false
set_option linter.all false
set_option maxRecDepth 100000
set_option maxHeartbeats 4000000
namespace PB
open PySem PySem.Spec PyProof.Rows L2
variable [Kts]
section
variable {γ ι : Type} {B : Bs γ ι} {W : WX} {X : Cx}
theorem lc_goN {mi : MI γ} {g : TG} {tgm : MG} {is vs : List Nat} {me : ME γ} (ts : TgS B g tgm is) (hsub : ∀ i ∈ is, i ∈ vs) {σ : L2.St} {H : Hp} {Q : VK} {S : Addr → Prop} {e : Env} {gm : γ} {n : NL} {gN : γ} (R : Rep ⟨B, S⟩ e gm σ H) (h : mNew mi tgm me vs e gm = .ok n gN)
    (hq : ∀ (na : NA) (H' : Hp), ExE ⟨B, S⟩ H H' → (B.fam B.i).I gN H' → H na.p = none → (∀ q ∈ na.ps, H q = none) → NlAt B.K na n H' → Q (.ref na.p) H') : tLc (RI B W mi) g (RT B W0 mYes) (RE B W0 me) vs σ H Q := by
  unfold mNew at h
  refine ⟨S, e, gm, R, ?_⟩
  cases q0 : mi e gm with
  | no =>
    rw [q0] at h
    cases h
  | ex y g1 =>
    rw [q0] at h
    cases h
  | ok ds g1 =>
  rw [q0] at h
  intro J H1 x1 i1 it Dp hD
  have h1 : nlL tgm me (wp e vs) ds [] g1 = .ok n gN := h
  have R1 := R.exe x1 i1
  have nF : ∀ a, (B.fam B.i).F a → H1 a ≠ none := fun a z => (B.fam B.i).trk _ _ _ i1 z
  have DF : ¬ (B.fam B.i).F Dp := fun z => nF Dp z hD
  refine ⟨fun i m H2 => ∃ gi acc ps, Rep ⟨B, Bl ⟨B, S⟩ e σ vs Dp⟩ (wp e vs) gi (wipe σ vs) H2 ∧ (∀ b o, H1 b = some o → ¬ (B.fam B.i).F b → H2 b = some o) ∧ NlAt B.K ⟨Dp, ps⟩ acc H2 ∧ (∀ q ∈ ps, H1 q = none) ∧ m = ds.length - i ∧ i ≤ ds.length ∧ nlL tgm me (wp e vs) (ds.drop i) acc gi = .ok n gN,
    ⟨ds.length, g1, [], [], R1.blk vs hD [], fun b o q _ => by rw [upd_ne (ne_of_none q hD)]; exact q, ⟨upd_same, rfl, fun i a ds h _ => by simp at h, List.nodup_nil, by simp⟩, (fun q h => by cases h), by omega, Nat.zero_le _, h1⟩, ?_⟩
  rintro i m H2 ⟨gi, acc, ps, Ri, kp, nl, fr, rfl, hi, hr⟩
  obtain ⟨stop, go⟩ := it H2 fun b o q n => kp b o q fun z => n (.inl z)
  by_cases hlt : i < ds.length
  · obtain ⟨d, hd⟩ : ∃ d, ds[i]? = some d := ⟨ds[i], by simp [hlt]⟩
    obtain ⟨gJ, gy⟩ := go i d hd
    rw [drop_at hd] at hr
    unfold nlL at hr
    refine .inr ⟨gJ, fun H' => ∃ m', m' < ds.length - i ∧ ∃ gi acc ps, Rep ⟨B, Bl ⟨B, S⟩ e σ vs Dp⟩ (wp e vs) gi (wipe σ vs) H' ∧ (∀ b o, H1 b = some o → ¬ (B.fam B.i).F b → H' b = some o) ∧ NlAt B.K ⟨Dp, ps⟩ acc H' ∧ (∀ q ∈ ps, H1 q = none) ∧ m' = ds.length - (i + 1) ∧ i + 1 ≤ ds.length ∧
      nlL tgm me (wp e vs) (ds.drop (i + 1)) acc gi = .ok n gN, fun H' q => q, fun x Hy hy => ?_⟩
    obtain ⟨nw, at1⟩ := gy x Hy hy
    have a1 := at1 (Om ⟨B, Bl ⟨B, S⟩ e σ vs Dp⟩ (wp e vs) (wipe σ vs)) (fun a z => (bl_om.mp z).elim .inl fun z => .inr (by rw [z]; exact hD)) (fun a z => Ri.omt z)
    have Ry := Ri.exe nw.exe (nw.gh Ri.gh)
    cases kt : tgm d (wp e vs) with
    | none =>
      rw [kt] at hr
      cases hr
    | some e2 =>
      rw [kt] at hr
      refine ts _ (wp e vs) gi (wipe σ vs) Hy x d e2 _ Ry a1 kt fun σ2 R2 s2 wl kj => ?_
      refine ⟨wipe_eq (by rw [wl, wipe_length]) hsub fun j hj => (kj j hj).2, ?_⟩
      have own2 : ∀ a, OwnA (wp e vs) (wipe σ vs) a → OwnA e2 σ2 a := fun a ⟨j, k1, k2⟩ => by
        have hj : j ∉ is := fun z => by
          rw [gt_wp, if_pos (hsub j z)] at k1
          cases k1
        obtain ⟨q1, q2⟩ := kj j hj
        exact ⟨j, by rw [q1]; exact k1, by rw [q2]; exact k2⟩
      refine ⟨_, e2, gi, R2, ?_⟩
      intro b' H3 x3 i3 eb
      cases eb
      have R3 := R2.exe x3 i3
      rw [if_pos rfl]
      refine ⟨_, e2, gi, R3, ?_⟩
      have hr : (match me e2 gi with
        | .ok (.own r) g2 => if r.all flat = true ∧ acc.length < SZ then nlL tgm me (wp e vs) (ds.drop (i + 1)) (acc ++ [r]) g2 else .no
        | _ => .no) = Rs.ok n gN := hr
      cases ke : me e2 gi with
      | no =>
        rw [ke] at hr
        cases hr
      | ex y g4 =>
        rw [ke] at hr
        cases hr
      | ok r g4 =>
        rw [ke] at hr
        cases r with
        | dat _ => cases hr
        | bor _ => cases hr
        | odt _ _ _ => cases hr
        | bdt _ _ _ => cases hr
        | own r =>
          have hr : (if r.all flat = true ∧ acc.length < SZ then nlL tgm me (wp e vs) (ds.drop (i + 1)) (acc ++ [r]) g4 else .no) = Rs.ok n gN := hr
          by_cases hc : r.all flat = true ∧ acc.length < SZ
          · rw [if_pos hc] at hr
            intro yv H4 x4 i4 oy
            obtain ⟨p, xs, e1, h0, k, al⟩ := oy
            subst e1
            have kp3 : ∀ b o, H1 b = some o → ¬ (B.fam B.i).F b → H3 b = some o := fun b o q n => x3 b o (nw.exe (A := ⟨B, S⟩) b o (kp b o q n) n) n
            have kp23 : ∀ b o, H2 b = some o → ¬ (B.fam B.i).F b → H3 b = some o := fun b o q n => x3 b o (nw.exe (A := ⟨B, S⟩) b o q n) n
            have kp24 : ∀ b o, H2 b = some o → ¬ (B.fam B.i).F b → H4 b = some o := fun b o q n => x4 b o (kp23 b o q n) n
            have pF : ∀ q ∈ ps, ¬ (B.fam B.i).F q := fun q hq z => nF q z (fr q hq)
            have p1 : H1 p = none := by
              cases z : H1 p with
              | none => rfl
              | some o =>
                by_cases f : (B.fam B.i).F p
                · exact absurd h0 ((B.fam B.i).trk _ _ _ i3 f)
                · rw [kp3 p o z f] at h0
                  cases h0
            have hD2 : H2 Dp = some (.lst (ps.map V.ref)) := nl.hp
            have pD : p ≠ Dp := fun z => by
              rw [z, kp23 _ _ hD2 DF] at h0
              cases h0
            have pps : p ∉ ps := fun z => by
              obtain ⟨ys, e⟩ := nl.lst (.inr z)
              rw [kp23 _ _ e (pF p z)] at h0
              cases h0
            have hD4 : H4 Dp = some (.lst (ps.map V.ref)) := kp24 _ _ hD2 DF
            have t24 : ∀ a xs, H2 a = some (.tup xs) → upd H4 Dp (.lst ((ps ++ [p]).map V.ref)) a = some (.tup xs) := fun a xs q => by
              have := kp24 a _ q fun z => ((B.fam B.i).stk _ _ _ Ri.gh z).notT xs q
              rw [upd_ne (fun z => by rw [z, hD4] at this; cases this)]
              exact this
            have s4 : ∀ a u, Sm u → H4 a = some u → upd H4 Dp (.lst ((ps ++ [p]).map V.ref)) a = some u := fun a u hu q => by
              rw [upd_ne (fun z => by rw [z, hD4] at q; cases q; exact hu)]
              exact q
            have t4 : ∀ a xs, H4 a = some (.tup xs) → upd H4 Dp (.lst ((ps ++ [p]).map V.ref)) a = some (.tup xs) := fun a xs q => by
              rw [upd_ne (fun z => by rw [z, hD4] at q; cases q)]
              exact q
            refine ⟨ps.map V.ref, hD4, by rw [List.length_map, nl.len]; exact szlt hc.2, ?_⟩
            have em : ps.map V.ref ++ [V.ref p] = (ps ++ [p]).map V.ref := by rw [List.map_append]; rfl
            rw [em]
            refine ⟨ds.length - (i + 1), by omega, g4, acc ++ [r], ps ++ [p], ?_, fun b o q n => ?_, ⟨upd_same, by show (ps ++ [p]).length = (acc ++ [r]).length; rw [List.length_append, List.length_append, nl.len]; rfl, fun j a rr h1 h2 => ?_, ?_, ?_⟩, fun q hq => ?_, rfl, hlt, hr⟩
            · have R4 := (Ry.exe x3 i3).exe x4 i4
              refine R4.exX (fun b o q n => ?_) (fun a z => ?_) ((B.fam B.i).stab _ _ _ i4 (fun a z => ?_) s4)
              · have : b ≠ Dp := fun z => n (.inr z)
                rw [upd_ne this]
                exact q
              · by_cases q : a = Dp
                · rw [q]
                  exact .lst upd_same
                · rw [upd_ne q]
                  exact R4.xs a z
              · have : a ≠ Dp := fun q => DF (by rw [← q]; exact z)
                rw [upd_ne this]
            · have : b ≠ Dp := ne_of_none q hD
              rw [upd_ne this]
              exact x4 b o (kp3 b o q n) n
            · have hl : ps.length = acc.length := nl.len
              by_cases hj : j < ps.length
              · rw [List.getElem?_append_left hj] at h1
                rw [List.getElem?_append_left (by omega)] at h2
                obtain ⟨ys, e, il⟩ := nl.row j a rr h1 h2
                have ha : a ∈ ps := List.mem_of_getElem? h1
                refine ⟨ys, ?_, il.go t24⟩
                rw [upd_ne (fun z => by rw [z] at ha; exact nl.np ha)]
                exact kp24 _ _ e (pF a ha)
              · rw [List.getElem?_append_right (by omega)] at h1 h2
                have e0 : j - ps.length = 0 := by
                  cases z : j - ps.length with
                  | zero => rfl
                  | succ m =>
                    rw [z] at h1
                    simp at h1
                rw [e0] at h1
                rw [← hl, e0] at h2
                cases h1
                cases h2
                exact ⟨xs, by rw [upd_ne pD]; exact k, (itl_of al hc.1).go t4⟩
            · show (ps ++ [p]).Nodup
              rw [List.nodup_append]
              exact ⟨nl.nd, by simp, fun a ha b hb => by rw [List.mem_singleton.mp hb]; intro z; exact pps (by rw [← z]; exact ha)⟩
            · show Dp ∉ ps ++ [p]
              intro z
              rcases List.mem_append.mp z with z | z
              · exact nl.np z
              · exact pD (List.mem_singleton.mp z).symm
            · rcases List.mem_append.mp hq with hq | hq
              · exact fr q hq
              · rw [List.mem_singleton.mp hq]
                exact p1
          · rw [if_neg hc] at hr
            cases hr
  · have e2 : i = ds.length := by omega
    subst e2
    rw [List.drop_length] at hr
    cases hr
    exact .inl ⟨stop _ (Nat.le_refl _), hq ⟨Dp, ps⟩ H2 (fun b o q n => kp b o (x1 b o q n) n) Ri.gh (x1.back hD i1) (fun q hq => x1.back (fr q hq) i1) nl⟩
end
end PB
set_option Elab.async false
set_option linter.all false
set_option maxRecDepth 100000
set_option maxHeartbeats 4000000
namespace PB
open PySem PySem.Spec PyProof.Rows L2
variable [Kts]
section
variable {γ ι : Type}
def nlB (B : Bs γ ι) (na : NA) : Bs (γ × NL) (ι × NA) := ⟨B.K, B.T, nlG B.K B.fam, (B.i, na), B.xa⟩
variable {B : Bs γ ι} {W : WX} {X : Cx} {na : NA} {i : Nat} {pos px p1 p2 : Pos} {x : Str}
theorem noGh_ne : ∀ {e : Env}, noGh e = true → ∀ j y, gt e j ≠ .gh y
  | [], _, j, y, h => by cases h
  | s :: e, hn, 0, y, h => by
    have h : s = .gh y := h
    rw [h] at hn
    cases hn
  | s :: e, hn, j + 1, y, h => noGh_ne (e := e) (by cases s <;> first | exact hn | cases hn) j y h
/-- into the nest -/
theorem Rep.nest {S : Addr → Prop} {e : Env} {g gN : γ} {σ : L2.St} {H0 H : Hp} {n : NL} (R : Rep ⟨B, S⟩ e g σ H0) (xe : ExE ⟨B, S⟩ H0 H) (ig : (B.fam B.i).I gN H) (hp : H0 na.p = none) (hs : ∀ q ∈ na.ps, H0 q = none) (nl : NlAt B.K na n H) (i : Nat) (ng : noGh e = true) :
    Rep ⟨nlB B na, fun a => S a ∨ (a = na.p ∨ a ∈ na.ps)⟩ (st e i (.gh 0)) (gN, n) (σ.set i (some (.ref na.p))) H := by
  have R1 := R.exe xe ig
  have fr : ∀ a, (a = na.p ∨ a ∈ na.ps) → H0 a = none := fun a z => z.elim (fun z => by rw [z]; exact hp) (hs a)
  have own : ∀ b, OwnA (st e i (.gh 0)) (σ.set i (some (.ref na.p))) b → OwnA e σ b := fun b ⟨j, h1, h2⟩ => by
    rw [gt_st] at h1
    rw [set_at, R.len] at h2
    by_cases c : j = i ∧ i < e.length
    · rw [if_pos c] at h1
      cases h1
    · rw [if_neg c] at h1 h2
      exact ⟨j, h1, h2⟩
  have go : ∀ a o, H0 a = some o → ¬ Om ⟨B, S⟩ e σ a → H a = some o ∧ ¬ Om ⟨nlB B na, fun a => S a ∨ (a = na.p ∨ a ∈ na.ps)⟩ (st e i (.gh 0)) (σ.set i (some (.ref na.p))) a := fun a o q nn =>
    ⟨xe a o q fun z => nn (.inl (R.fx a z)), fun z => z.elim (fun z => z.elim (fun z => nn (.inl z)) fun z => by rw [fr a z] at q; cases q) fun z => nn (.inr (own a z))⟩
  refine ⟨by rw [List.length_set, len_st, R.len], fun j => ?_, fun j k2 q h1 h2 h3 h4 => ?_, fun a z q => ?_, ⟨ig, nl, fun a z f => (B.fam B.i).trk _ _ _ R.gh f (fr a z)⟩, fun a z => z.elim (fun z => .inl (R.fx a z)) .inr, fun a z => ?_⟩
  · rw [gt_st, set_at, R.len]
    by_cases c : j = i ∧ i < e.length
    · rw [if_pos c, if_pos c]
      rfl
    · rw [if_neg c, if_neg c]
      have q := R.sl j
      cases h : gt e j with
      | un => trivial
      | dat d2 =>
        rw [h] at q
        obtain ⟨w, e1, a1⟩ := q
        exact ⟨w, e1, a1.go go⟩
      | own es =>
        rw [h] at q
        obtain ⟨q2, ys, e1, k1, a1⟩ := q
        exact ⟨q2, ys, e1, xe _ _ k1 (R.notF (.of h rfl e1)), a1.go go⟩
      | xc y =>
        rw [h] at q
        exact ⟨q.1, q.2.go fun p fs k => xe p _ k fun z => R.nxd k (.inl (R.fx p z))⟩
      | gh y => exact absurd h (noGh_ne ng j y)
      | owd t ks vs =>
        rw [h] at q
        obtain ⟨q2, us, e1, k1, a1⟩ := q
        exact ⟨q2, us, e1, k1.go go fun o e => xe _ _ e (R.notF (.of h rfl e1)), a1.go go⟩
  · rw [gt_st] at h1 h2
    rw [set_at, R.len] at h3 h4
    by_cases c : j = i ∧ i < e.length
    · rw [if_pos c] at h1
      cases h1
    · by_cases c2 : k2 = i ∧ i < e.length
      · rw [if_pos c2] at h2
        cases h2
      · rw [if_neg c] at h1 h3
        rw [if_neg c2] at h2 h4
        exact R.inj j k2 q h1 h2 h3 h4
  · rcases q with q | q
    · exact R.nx a (own a z) q
    · exact ((own a z).stk R).1.1 (fr a q)
  · rcases z with z | z
    · exact R1.xs a z
    · obtain ⟨xs, e⟩ := nl.lst z
      exact .lst e
/-- the nest's block, and the return behind it -/
def RSN (B' : Bs (γ × NL) (ι × NA)) (i : Nat) (p : Addr) (m : MS (γ × NL)) : TS := fun Dd σ H => ∃ (S : Addr → Prop) (e : Env) (g : γ × NL), Rep ⟨B', S⟩ e g σ H ∧ match m e g with
  | .ok (.nx e') g' => ∀ σ' H', Rep ⟨B', S⟩ e' g' σ' H' → Stp ⟨B', S⟩ e σ H e' σ' H' → σ'[i]? = some (some (.ref p)) ∧ Dd.rt (.ref p) H'
  | _ => False
theorem pb_nret {p : Addr} (hN : X.N[i]? = some x) (hv : Vis X.env.scope x := by first | exact Or.inl rfl | exact Or.inr (Or.inl rfl) | exact Or.inr (Or.inr rfl)) (hd : (x == ("__debug__" : Str)) = false := by decide) (hcd : (x == ("__classdict__" : Str)) = false := by decide) :
    PSs X [.Return (some (.Name x px)) pos] (RSN (nlB B na) i p mPass) := pss_w (pss_one (ps_ret (pe_var hN hv hd hcd))) fun Dd σ H ⟨S, e, g, R, h⟩ => by
  obtain ⟨h1, h2⟩ := h σ H R .refl
  exact ⟨_, h1, h2⟩
theorem pb_nscons {p : Addr} {st : Stmt} {rest : List Stmt} {s1 s2 : MS (γ × NL)} (h1 : PS X st (RS (nlB B na) W0 s1)) (h2 : PSs X rest (RSN (nlB B na) i p s2)) : PSs X (st :: rest) (RSN (nlB B na) i p (mSeq s1 s2)) := pss_w (pss_cons h1 h2) fun Dd σ H ⟨S, e, g, R, h⟩ => by
  refine ⟨S, e, g, R, ?_⟩
  unfold mSeq at h
  cases k : s1 e g with
  | no =>
    rw [k] at h
    exact h
  | ex x g' =>
    rw [k] at h
    exact h.elim
  | ok f g' =>
    rw [k] at h
    cases f with
    | rt r => exact h.elim
    | bk e1 => exact h.elim
    | ct e1 => exact h.elim
    | nx e1 =>
      have h : match s2 e1 g' with
        | .ok (.nx e') g' => ∀ σ' H', Rep ⟨nlB B na, S⟩ e' g' σ' H' → Stp ⟨nlB B na, S⟩ e σ H e' σ' H' → σ'[i]? = some (some (.ref p)) ∧ Dd.rt (.ref p) H'
        | _ => False := h
      intro σ' H' R' s'
      refine ⟨S, e1, g', R', ?_⟩
      cases k2 : s2 e1 g' with
      | no =>
        rw [k2] at h
        exact h
      | ex x g' =>
        rw [k2] at h
        exact h
      | ok f g2 =>
        rw [k2] at h
        cases f with
        | rt r => exact h
        | bk e1 => exact h
        | ct e1 => exact h
        | nx e2 => exact fun σ2 H2 R2 s2 => h σ2 H2 R2 (s'.trans R' s2)
end
end PB
set_option Elab.async false
set_option linter.all false
set_option maxRecDepth 100000
set_option maxHeartbeats 4000000
namespace PB
open PySem PySem.Spec PyProof.Rows L2
variable [Kts]
section
variable {γ ι : Type} {B : Bs γ ι} {W : WX} {X : Cx} {na : NA} {pos px p1 p2 : Pos} {x : Str} {ka kb a : Expr} {ma mb mv : ME (γ × NL)}
theorem NlAt.at {K : Frag} {n : NL} {H : Hp} (h : NlAt K na n H) {m : Int} {j : Nat} (e : PB.ixN n.length m = some j) : ∃ q, L2.atI (na.ps.map V.ref) m = some (.ref q) ∧ na.ps[j]? = some q ∧ j < n.length := by
  have hl := h.len
  have hj : j < n.length := by
    unfold PB.ixN at e
    split at e
    · split at e
      · cases e; omega
      · cases e
    · split at e
      · cases e; omega
      · cases e
  obtain ⟨q, hq⟩ : ∃ q, na.ps[j]? = some q := ⟨na.ps[j]'(by omega), by simp [hl, hj]⟩
  refine ⟨q, ?_, hq, hj⟩
  unfold L2.atI
  rw [List.length_map, hl]
  rw [show L2.ixN n.length m = some j from e]
  show (na.ps.map V.ref)[j]? = _
  rw [List.getElem?_map, hq]
  rfl
theorem NlAt.set {K : Frag} {n : NL} {H : Hp} (h : NlAt K na n H) {j c : Nat} {q : Addr} {r : List D} {xs : List V} {v : V} {d : D} (hq : na.ps[j]? = some q) (hr : n[j]? = some r) (hx : H q = some (.lst xs)) (il : ItL K H xs r) (iv : It1 K H v d) : NlAt K na (n.set j (r.set c d)) (upd H q (.lst (xs.set c v))) := by
  have hqm : q ∈ na.ps := List.mem_of_getElem? hq
  have ht : ∀ a ys, H a = some (.tup ys) → upd H q (.lst (xs.set c v)) a = some (.tup ys) := fun a ys e => by
    rw [upd_ne (fun z => by rw [z, hx] at e; cases e)]
    exact e
  refine ⟨by rw [upd_ne (fun z => h.np (by rw [z]; exact hqm))]; exact h.hp, by rw [List.length_set]; exact h.len, fun i b ds h1 h2 => ?_, h.nd, h.np⟩
  by_cases c1 : i = j
  · subst c1
    rw [hq] at h1
    cases h1
    have hl : i < n.length := (List.getElem?_eq_some_iff.mp hr).1
    rw [List.getElem?_set_self hl] at h2
    cases h2
    exact ⟨_, upd_same, (il.go ht).set (iv.go ht)⟩
  · rw [List.getElem?_set_ne (fun z => c1 z.symm)] at h2
    obtain ⟨ys, e1, al⟩ := h.row i b ds h1 h2
    have : b ≠ q := fun z => by
      rw [z] at h1
      have := (List.getElem?_inj (by exact (List.getElem?_eq_some_iff.mp h1).1) h.nd).mp (h1.trans hq.symm)
      exact c1 this
    exact ⟨ys, by rw [upd_ne this]; exact e1, al.go ht⟩
/-- x[a][b] -/
theorem pb_nlGet (i : Nat) (hN : X.N[i]? = some x) (ha : PE X ka (RE (nlB B na) W ma)) (hb : PE X kb (RE (nlB B na) W mb)) (hp1 : PlainIx ka) (hp2 : PlainIx kb) (hv : Vis X.env.scope x := by first | exact Or.inl rfl | exact Or.inr (Or.inl rfl) | exact Or.inr (Or.inr rfl)) (hd : (x == ("__debug__" : Str)) = false := by decide) (hcd : (x == ("__classdict__" : Str)) = false := by decide) :
    PE X (.Subscript (.Subscript (.Name x px) ka p1) kb p2) (RE (nlB B na) W (mNlGet i ma mb)) := pe_w (pe_ix ix_list (pe_ix ix_list (pe_var hN hv hd hcd) ha hp1) hb hp2) fun σ H Q ⟨S, e, g, R, h⟩ => by
  unfold mNlGet at h
  cases kg : gt e i with
  | gh y =>
    rw [kg] at h
    have sl := R.sl i
    rw [kg] at sl
    refine ⟨.ref na.p, sl, S, e, g, R, RK.bind (.refl H) h fun r g1 v1 H1 _ x1 i1 o1 h1 => ?_⟩
    split at h1
    · rename_i m
      cases o1
      have R1 := R.exe x1 i1
      obtain ⟨_, nl1, _⟩ := i1
      cases kj : PB.atI g1.2 m with
      | none =>
        rw [kj] at h1
        exact h1.elim
      | some rr =>
        rw [kj] at h1
        obtain ⟨j, ej, er⟩ : ∃ j, PB.ixN g1.2.length m = some j ∧ g1.2[j]? = some rr := by
          unfold PB.atI at kj
          cases z : PB.ixN g1.2.length m with
          | none => rw [z] at kj; cases kj
          | some j => rw [z] at kj; exact ⟨j, rfl, kj⟩
        obtain ⟨q, e1, e2, hj⟩ := nl1.at ej
        refine ⟨na.p, _, m, .ref q, rfl, rfl, SqL.of nl1.hp, e1, S, e, g1, R1, RK.bind x1 h1 fun w g2 v2 H2 x12 x2 i2 o2 h2 => ?_⟩
        split at h2
        · rename_i k
          cases o2
          obtain ⟨z, ez, qz⟩ := h2.ofO
          obtain ⟨_, nl2, _⟩ := id i2
          have hlen : g2.2.length = g1.2.length := by rw [← nl2.len, ← nl1.len]
          have hj2 : j < g2.2.length := by omega
          have er2 : PB.atI g2.2 m = some g2.2[j] := by
            unfold PB.atI
            rw [hlen, ej]
            simp [hj2]
          rw [er2] at ez
          cases kc : PB.atI g2.2[j] k with
          | none =>
            have ez : (PB.atI g2.2[j] k).map Rv.dat = some z := ez
            rw [kc] at ez
            cases ez
          | some d =>
            have ez : (PB.atI g2.2[j] k).map Rv.dat = some z := ez
            rw [kc] at ez
            cases ez
            obtain ⟨xs, hx, il⟩ := nl2.row j q g2.2[j] e2 (by simp)
            have R2 := R.exe x2 i2
            have al : AtL B.K (Om ⟨nlB B na, S⟩ e σ) H2 xs g2.2[j] := il.at fun a z => R2.oms z
            obtain ⟨v, ev, av⟩ := al.atI kc
            exact ⟨q, xs, k, v, rfl, rfl, SqL.of hx, ev, qz v H2 x2 i2 av⟩
        · exact h2.elim
    · exact h1.elim
  | _ =>
    rw [kg] at h
    exact h.elim
/-- x[a][b] = v -/
theorem pb_nlPut (i : Nat) {ve : Expr} {tp : Pos} (hN : X.N[i]? = some x) (ha : PE X ka (RE (nlB B na) W ma)) (hb : PE X kb (RE (nlB B na) W mb)) (hve : PE X ve (RE (nlB B na) W mv)) (hp1 : PlainIx ka) (hv : Vis X.env.scope x := by first | exact Or.inl rfl | exact Or.inr (Or.inl rfl) | exact Or.inr (Or.inr rfl)) (hd : (x == ("__debug__" : Str)) = false := by decide) (hcd : (x == ("__classdict__" : Str)) = false := by decide)
    (hasg : ∀ v, assign (.Subscript (.Subscript (.Name x px) ka p1) kb tp) X.env v = (do
      let ov ← holding [v] (eval (.Subscript (.Name x px) ka p1) X.env)
      let iv ← holding [v, ov] (eval kb X.env)
      standAt tp
      holding [v, ov, iv] (setItem ov iv v)
      release [v, ov, iv] []) := by intro _; rfl)
    (hs : swapsWithSole [.Subscript (.Subscript (.Name x px) ka p1) kb tp] ve pos.line X.env = pure false := by rfl) (hw : swappedStores [.Subscript (.Subscript (.Name x px) ka p1) kb tp] ve X.env = pure none := by rfl)
    (h1 : (assignEach [.Subscript (.Subscript (.Name x px) ka p1) kb tp] X.env).map (·.2) = [assign (.Subscript (.Subscript (.Name x px) ka p1) kb tp) X.env] := by rfl) :
    PS X (.Assign [.Subscript (.Subscript (.Name x px) ka p1) kb tp] ve pos) (RS (nlB B na) W (mNlPut i ma mb mv)) := by
  refine ps_w (ps_asg hve (pg_sub (pe_ix ix_list (pe_var hN hv hd hcd) ha hp1) hb set_list hasg) hs hw h1) fun Dd σ H ⟨S, e, g, R, h⟩ => ?_
  refine ⟨S, e, g, R, RSK.bind R h fun z g0 vz H0 x0 i0 o0 h0 => ?_⟩
  have R0 := R.exe x0 i0
  cases kg : gt e i with
  | gh y =>
    rw [kg] at h0
    have sl := R0.sl i
    rw [kg] at sl
    have h0' := RSK.late R0 (.exe R x0) h0
    refine ⟨.ref na.p, sl, S, e, g0, R0, RSK.bind R0 h0' fun r g1 v1 H1 x1 i1 o1 h1 => ?_⟩
    split at h1
    · rename_i m
      cases o1
      have R1 := R0.exe x1 i1
      obtain ⟨_, nl1, _⟩ := id i1
      cases kj : PB.ixN g1.2.length m with
      | none =>
        rw [kj] at h1
        exact h1.elim
      | some j =>
        rw [kj] at h1
        obtain ⟨q, e1, e2, hj⟩ := nl1.at kj
        refine ⟨na.p, _, m, .ref q, rfl, rfl, SqL.of nl1.hp, e1, S, e, g1, R1, RSK.bind R1 (RSK.late R1 (.exe R0 x1) h1) fun w g2 v2 H2 x12 i2 o2 h2 => ?_⟩
        split at h2
        · rename_i d k
          cases o2
          obtain ⟨if2, nl2, nf2⟩ := id i2
          have R2 := R1.exe x12 i2
          cases kr : g2.2[j]? with
          | none =>
            rw [kr] at h2
            exact h2.elim
          | some r =>
            rw [kr] at h2
            cases kc : PB.ixN r.length k with
            | none =>
              have h2 : RSK ⟨nlB B na, S⟩ W e σ H1 (match PB.ixN r.length k with
                | some c => if flat d = true then .ok (.nx e) (g2.1, g2.2.set j (r.set c d)) else .no
                | none => .no) Dd := h2
              rw [kc] at h2
              exact h2.elim
            | some c =>
              have h2 : RSK ⟨nlB B na, S⟩ W e σ H1 (match PB.ixN r.length k with
                | some c => if flat d = true then .ok (.nx e) (g2.1, g2.2.set j (r.set c d)) else .no
                | none => .no) Dd := h2
              rw [kc] at h2
              have h2 : RSK ⟨nlB B na, S⟩ W e σ H1 (if flat d = true then .ok (.nx e) (g2.1, g2.2.set j (r.set c d)) else .no) Dd := h2
              by_cases hf : flat d = true
              · rw [if_pos hf] at h2
                obtain ⟨xs, hx, il⟩ := nl2.row j q r e2 kr
                have o0' : At B.K (Om ⟨nlB B na, S⟩ e σ) H2 vz d := R0.at x12 (R0.at x1 o0)
                have hqm : q ∈ na.ps := List.mem_of_getElem? e2
                have nl3 := nl2.set (c := c) e2 kr hx il (it1_of o0' hf)
                have i3 : ((nlB B na).fam (nlB B na).i).I (g2.1, g2.2.set j (r.set c d)) (upd H2 q (.lst (xs.set c vz))) := ⟨(B.fam B.i).stab _ _ _ if2 (fun a f => upd_ne fun z => nf2 a (.inr (by rw [z]; exact hqm)) f) (fun a u hu e => by rw [upd_ne (fun z => by rw [z, hx] at e; cases e; exact hu)]; exact e), nl3, nf2⟩
                have x3 : ExE ⟨nlB B na, S⟩ H2 (upd H2 q (.lst (xs.set c vz))) := fun b o e n => by
                  rw [upd_ne (fun z => n (.inr (.inr (by rw [z]; exact hqm))))]
                  exact e
                exact ⟨q, xs, k, c, rfl, rfl, hx, by rw [il.length]; exact kc, h2 _ _ (R2.exe x3 i3) (.exe R1 (x12.trans x3))⟩
              · rw [if_neg hf] at h2
                exact h2.elim
        · exact h2.elim
    · exact h1.elim
  | _ =>
    rw [kg] at h0
    exact h0.elim
end
end PB
set_option Elab.async false
set_option linter.all false
set_option maxRecDepth 100000
set_option maxHeartbeats 4000000
namespace PB
open PySem PySem.Spec PyProof.Rows L2
variable [Kts]
theorem fn_lift {γ ι : Type} {P : Program} {w : World} {K : Frag} {mg : Str → Option Value} {base : Heap} {CX : CXT} {k : Nat} {f : Addr} {fd : FuncData} {ps : List Str} {fam : ι → Gho γ} {n : Nat} {F : MF γ} (G : FnOk P w K mg base CX k f fd ps (spOf K fam n F)) : FnOk P w K mg base CX k f fd ps (spOf K (nlG K fam) n (liftF F)) :=
  ⟨fun vs H Q E h => G.len vs H Q E (spOf_lift h), fun A outer s H args us vs Q E hr e0 hb hv h => G.run A outer s H args us vs Q E hr e0 hb hv (spOf_lift h)⟩
def rListS : List V → Hp → VK → Prop := fun xs H Q => ∃ z : Str, xs = [.str z] ∧ z.cps.size ≤ sizeLine ∧ ∀ p, H p = none → Q (.ref p) (upd H p (.lst (z.cps.toList.map fun c => V.str ⟨#[c]⟩)))
theorem vals_map {α : Type} {f : α → V} : ∀ {l : List α} {us : List Value}, us.length = l.length → (∀ (i : Nat) (x : α) (u : Value), l[i]? = some x → us[i]? = some u → RelV (f x) u) → Vals (l.map f) us
  | [], [], _, _ => .nil
  | [], _ :: _, h, _ => by cases h
  | _ :: _, [], h, _ => by cases h
  | x :: xs, u :: us, h, k => .cons (k 0 x u rfl rfl) (vals_map (Nat.succ.inj h) fun i y w h1 h2 => k (i + 1) y w h1 h2)
theorem cl_listS {X : Cx} (hc : X.calm = true) : CallR X (.type "list") rListS := by
  intro pins s σ H xs us Q I r h
  obtain ⟨z, rfl, hz, q⟩ := h
  obtain ⟨u, rfl, w⟩ : ∃ u, us = [u] ∧ RelV (.str z) u := by
    cases r with
    | cons a b => cases b; exact ⟨_, rfl, a⟩
  obtain ⟨t, rfl⟩ := w
  refine call_list_str (I.ok.hd hc) z t (hn := hz) fun h' tk acc' c' hk hat hit => ?_
  have vs : Vals (z.cps.toList.map fun c => V.str ⟨#[c]⟩) acc'.toList := by
    refine vals_map (by rw [Array.length_toList, Array.length_toList]; exact hit.1) fun i c u h1 h2 => ?_
    obtain ⟨c', t', e1, rfl⟩ := hit.2 i u (by simpa using h2)
    have e2 : z.cps[i]? = some c := by simpa using h1
    rw [e1] at e2
    cases e2
    exact ⟨t', rfl⟩
  refine ⟨.ref s.heap.objs.size, _, I.laid (a := s.heap.objs.size) (o := .lst (z.cps.toList.map fun c => V.str ⟨#[c]⟩)) (t' := tk) hk (Nat.le_refl _) ⟨by rw [List.length_map, Array.length_toList]; exact hz, acc'.toList, c', vs, by simpa using hat⟩, rfl, q _ (I.hok.fresh (Nat.le_refl _))⟩
theorem os_listS {γ ι : Type} {B : Bs γ ι} : OpSN B oListS rListS := by
  intro S e g g1 σ H0 H xs z vs Q R x0 i1 os hz hq
  unfold oListS at hz
  split at hz
  · rename_i s
    cases hz
    cases os with
    | cons o os =>
    cases os
    cases o with
    | str _ h1 h2 =>
    refine ⟨mkS s, rfl, by show (mkS s).cps.size ≤ _; have : (mkS s).cps.size = s.length := by simp [mkS]
                           rw [this]; exact szle h1, fun p hp => ?_⟩
    refine hq _ _ (.inr ⟨p, _, hp, rfl⟩) (VOk.mk x0 i1 ?_ hp)
    have : ∀ l : List Nat, l.all (· < 0x110000) = true → AtL B.K (Om ⟨B, S⟩ e σ) H (l.map fun c => V.str ⟨#[c]⟩) (l.map fun c => D.str [c]) := by
      intro l
      induction l with
      | nil => intro _; exact .nil
      | cons c l ih =>
        intro h
        rw [List.all_cons, Bool.and_eq_true] at h
        exact .cons (.str [c] (by show 1 ≤ 16777216; decide) (by rw [List.all_cons, h.1]; rfl)) (ih h.2)
    rw [mkS_list]
    exact this s h2
  · cases hz
end PB
set_option Elab.async false
set_option linter.all false
set_option maxHeartbeats 0
namespace PB
open PySem PySem.Spec PyProof.Rows L2
end PB
set_option Elab.async false
set_option linter.all false
set_option maxRecDepth 100000
set_option maxHeartbeats 4000000
namespace PB
open PySem PySem.Spec PyProof.Rows L2
end PB
set_option Elab.async false
set_option linter.all false
set_option maxRecDepth 100000
set_option maxHeartbeats 4000000
namespace PB
open PySem PySem.Spec PyProof.Rows L2
variable [Kts]
theorem fold_rep (c : Nat) : ∀ (n : Nat) (acc : Array Nat), (List.replicate n (#[c] : Array Nat)).foldl (· ++ ·) acc = acc ++ (List.replicate n c).toArray
  | 0, acc => by simp
  | n + 1, acc => by
    rw [List.replicate_succ, List.foldl_cons, fold_rep c n, List.replicate_succ]
    apply Array.toList_inj.mp
    simp
theorem op_mulSign {X : Cx} : OpR X (binaryOp Operator.Mult) (fun x y H Q => ∃ (c : Nat) (n : Int), x = .str (mkS [c]) ∧ y = .int n ∧ 0 ≤ n ∧ n ≤ 1000 ∧ Q (.str (mkS (List.replicate n.toNat c))) H) := by
  intro pins s σ H x y v u Q I rx ry h
  obtain ⟨c, n, rfl, rfl, n0, n1, q⟩ := h
  obtain ⟨t, rfl⟩ := rx
  obtain ⟨t', rfl⟩ := ry
  by_cases h0 : n = 0
  · subst h0
    refine PySem.P.mul_str_none (by decide) (by decide) ?_
    exact ⟨V.str Str.empty, H, I.tok _, ⟨_, rfl⟩, q⟩
  · by_cases h1 : n = 1
    · subst h1
      refine PySem.P.mul_str (by decide) (fun _ h => by simp at h) (fun _ h => by simp at h) ?_
      show ((if (1 : Int) < 1 then _ else _) : Made).post _ _
      rw [if_neg (by decide), if_pos (by simp)]
      exact ⟨V.str (mkS [c]), H, I, ⟨t, rfl⟩, q⟩
    · have hlen : (mkS [c]).length = 1 := rfl
      refine PySem.P.mul_str (by rw [decide_eq_false (by omega), decide_eq_false (by omega)]; rfl) (fun _ _ => ?_) (fun _ _ => ?_) ?_
      · rw [hlen]
        have : (1 : Int) ≤ (2 ^ 63 - 1) / n := by
          refine (Int.le_ediv_iff_mul_le (by omega)).mpr ?_
          omega
        omega
      · rw [hlen, Nat.one_mul]
        exact decide_eq_false (by show ¬ n.toNat > PySem.sizeLine; have : (1000 : Nat) ≤ PySem.sizeLine := by decide
                                  omega)
      · rw [if_neg (by omega), if_neg (by rw [hlen]; simp; omega)]
        have e : (⟨(List.replicate n.toNat (mkS [c]).cps).foldl (· ++ ·) #[]⟩ : Str) = mkS (List.replicate n.toNat c) := by
          show Str.mk _ = Str.mk _
          congr 1
          have := fold_rep c n.toNat #[]
          rw [Array.empty_append] at this
          exact this
        rw [e]
        refine ⟨?_, ?_⟩
        · rw [mkS_len, List.length_replicate]
          show _ ≤ 2 ^ 24
          omega
        · exact ⟨V.str _, H, I.tok _, ⟨_, rfl⟩, q⟩
section
variable {γ ι : Type} {B : Bs γ ι}
theorem os_repC : OpS2 B oRepC (fun x y H Q => ∃ (c : Nat) (n : Int), x = .str (mkS [c]) ∧ y = .int n ∧ 0 ≤ n ∧ n ≤ 1000 ∧ Q (.str (mkS (List.replicate n.toNat c))) H) := by
  intro S e g g1 σ H0 H x y z vx vy Q R x0 i1 ox oy hz hq
  unfold oRepC at hz
  split at hz
  · rename_i c n
    split at hz
    · rename_i hn
      cases hz
      cases ox with
      | str _ k1 k2 =>
      cases oy
      refine ⟨c, n, rfl, rfl, hn.1, hn.2, hq _ H (.inl rfl) (.str _ ?_ ?_)⟩
      · rw [List.length_replicate]
        show _ ≤ 16777216
        omega
      · rw [List.all_replicate]
        have : decide (c < 0x110000) = true := by
          rw [List.all_cons, Bool.and_eq_true] at k2
          exact k2.1
        split
        · rfl
        · exact this
    · cases hz
  · cases hz
end
end PB
set_option Elab.async false
set_option linter.all false
set_option maxRecDepth 100000
set_option maxHeartbeats 4000000
namespace PB
open PySem PySem.Spec PyProof.Rows L2
end PB
set_option Elab.async false
set_option linter.all false
set_option maxRecDepth 100000
set_option maxHeartbeats 4000000
namespace PB
open PySem PySem.Spec PyProof.Rows L2
variable [Kts]
section
variable {γ ι : Type}
variable {B : Bs γ ι} {W : WX} {X : Cx} {p : Addr} {S S' : Addr → Prop} {e : Env} {g g' : γ} {σ : L2.St} {H H' H0 : Hp}
/-- more that values must not be -/
theorem Rep.more (R : Rep ⟨B, S⟩ e g σ H) (x : ∀ b o, H b = some o → ¬ S b → H' b = some o) (h1 : ∀ a, S a → S' a) (h2 : ∀ a, S' a → S a ∨ H a = none) (t : ∀ a, S' a → Stk (H' a)) (i : (B.fam B.i).I g' H') : Rep ⟨B, S'⟩ e g' σ H' := by
  have go : ∀ a o, H a = some o → ¬ Om ⟨B, S⟩ e σ a → H' a = some o ∧ ¬ Om ⟨B, S'⟩ e σ a := fun a o q n =>
    ⟨x a o q fun z => n (.inl z), fun z => z.elim (fun z => (h2 a z).elim (fun z => n (.inl z)) fun z => by rw [z] at q; cases q) fun z => n (.inr z)⟩
  refine ⟨R.len, fun j => ?_, R.inj, fun a z q => ?_, i, fun a z => h1 a (R.fx a z), t⟩
  · have q := R.sl j
    cases h : gt e j with
    | un => trivial
    | dat d =>
      rw [h] at q
      obtain ⟨v, e1, a⟩ := q
      exact ⟨v, e1, a.go go⟩
    | own ds =>
      rw [h] at q
      obtain ⟨p, xs, e1, k, a⟩ := q
      exact ⟨p, xs, e1, x p _ k (R.nx p (.of h rfl e1)), a.go go⟩
    | xc y =>
      rw [h] at q
      exact ⟨q.1, q.2.go fun p fs k => x p _ k fun z => R.nxd k (.inl z)⟩
    | gh y =>
      rw [h] at q
      exact q
    | owd tt ks vs =>
      rw [h] at q
      obtain ⟨p, us, e1, k, a⟩ := q
      exact ⟨p, us, e1, k.go go fun o e => x p _ e (R.nx p (.of h rfl e1)), a.go go⟩
  · rcases h2 a q with q | q
    · exact R.nx a z q
    · exact (z.stk R).1.1 q
/-- a row more -/
theorem NlAt.push {K : Frag} {ps : List Addr} {q : Addr} {n : NL} (h : NlAt K ⟨p, ps⟩ n H) (hq : H q = none) : NlAt K ⟨p, ps ++ [q]⟩ (n ++ [[]]) (upd (upd H q (.lst [])) p (.lst ((ps ++ [q]).map V.ref))) := by
  have hp : H p = some (.lst (ps.map V.ref)) := h.hp
  have qp : q ≠ p := fun z => by rw [z, hp] at hq; cases hq
  have qps : q ∉ ps := fun z => by
    obtain ⟨xs, e⟩ := h.lst (.inr z)
    rw [e] at hq
    cases hq
  have hl : ps.length = n.length := h.len
  have ht : ∀ a ys, H a = some (.tup ys) → upd (upd H q (.lst [])) p (.lst ((ps ++ [q]).map V.ref)) a = some (.tup ys) := fun a ys e => by
    rw [upd_ne (fun z => by rw [z, hp] at e; cases e), upd_ne (fun z => by rw [z, hq] at e; cases e)]
    exact e
  refine ⟨upd_same, by show (ps ++ [q]).length = _; simp [hl], fun j a ds h1 h2 => ?_, ?_, ?_⟩
  · have h1 : (ps ++ [q])[j]? = some a := h1
    by_cases hj : j < ps.length
    · rw [List.getElem?_append_left hj] at h1
      rw [List.getElem?_append_left (by omega)] at h2
      obtain ⟨ys, e1, al⟩ := h.row j a ds h1 h2
      have ha : a ∈ ps := List.mem_of_getElem? h1
      exact ⟨ys, by rw [upd_ne (fun z => h.np (by show p ∈ ps; rw [← z]; exact ha)), upd_ne (fun z => qps (by rw [← z]; exact ha))]; exact e1, al.go ht⟩
    · rw [List.getElem?_append_right (by omega)] at h1 h2
      have e0 : j - ps.length = 0 := by
        cases z : j - ps.length with
        | zero => rfl
        | succ m =>
          rw [z] at h1
          simp at h1
      rw [e0] at h1
      rw [← hl, e0] at h2
      cases h1
      cases h2
      exact ⟨[], by rw [upd_ne qp, upd_same], .nil⟩
  · show (ps ++ [q]).Nodup
    rw [List.nodup_append]
    exact ⟨h.nd, by simp, fun a ha b hb => by rw [List.mem_singleton.mp hb]; intro z; exact qps (by rw [← z]; exact ha)⟩
  · show p ∉ ps ++ [q]
    intro z
    rcases List.mem_append.mp z with z | z
    · exact h.np z
    · exact qp (List.mem_singleton.mp z).symm
end
end PB
set_option Elab.async false
set_option linter.all false
set_option maxRecDepth 100000
set_option maxHeartbeats 4000000
namespace PB
open PySem PySem.Spec PyProof.Rows L2
end PB
set_option Elab.async false
set_option linter.all false
set_option maxRecDepth 100000
set_option maxHeartbeats 4000000
namespace PB
open PySem PySem.Spec PyProof.Rows L2
end PB
set_option Elab.async false
set_option linter.all false
set_option maxRecDepth 100000
set_option maxHeartbeats 4000000
namespace PB
open PySem PySem.Spec PyProof.Rows L2
end PB
set_option Elab.async false
set_option linter.all false
set_option maxRecDepth 100000
set_option maxHeartbeats 4000000
namespace PB
open PySem PySem.Spec PyProof.Rows L2
end PB
set_option Elab.async false
set_option linter.all false
set_option maxRecDepth 100000
set_option maxHeartbeats 4000000
namespace PB
open PySem PySem.Spec PyProof.Rows L2
end PB
set_option Elab.async false
set_option linter.all false
set_option maxRecDepth 100000
set_option maxHeartbeats 4000000
namespace PB
open PySem PySem.Spec PyProof.Rows L2
end PB
set_option Elab.async false
set_option linter.all false
set_option maxRecDepth 100000
set_option maxHeartbeats 4000000
namespace PB
open PySem PySem.Spec PyProof.Rows L2
end PB
set_option Elab.async false
set_option linter.all false
set_option maxRecDepth 100000
set_option maxHeartbeats 4000000
namespace PB
open PySem PySem.Spec PyProof.Rows L2
end PB
set_option Elab.async false
set_option linter.all false
set_option maxRecDepth 100000
set_option maxHeartbeats 4000000
namespace PB
open PySem PySem.Spec PyProof.Rows L2 HotX L2H
end PB
set_option Elab.async false
set_option linter.all false
set_option maxRecDepth 100000
set_option maxHeartbeats 4000000
namespace PB
open PySem PySem.Spec PyProof.Rows L2 HotX L2H
end PB
set_option Elab.async false
set_option linter.all false
set_option maxRecDepth 100000
set_option maxHeartbeats 4000000
namespace PB
open PySem PySem.Spec PyProof.Rows L2 HotX L2H
end PB
set_option Elab.async false
set_option linter.all false
set_option maxRecDepth 100000
set_option maxHeartbeats 4000000
namespace PB
open PySem PySem.Spec PyProof.Rows L2 HotX L2H
end PB
set_option Elab.async false
set_option linter.all false
set_option maxRecDepth 100000
set_option maxHeartbeats 4000000
namespace PB
open PySem PySem.Spec PyProof.Rows L2
end PB
set_option Elab.async false
set_option linter.all false
set_option maxRecDepth 100000
set_option maxHeartbeats 4000000
namespace PB
open PySem PySem.Spec PyProof.Rows L2
end PB
set_option Elab.async false
set_option linter.all false
set_option maxRecDepth 100000
set_option maxHeartbeats 4000000
namespace PB
open PySem PySem.Spec PyProof.Rows L2
end PB
set_option Elab.async false
set_option linter.all false
set_option maxRecDepth 100000
set_option maxHeartbeats 4000000
namespace PB
open PySem PySem.Spec PyProof.Rows L2
end PB
set_option Elab.async false
set_option linter.all false
set_option maxRecDepth 100000
set_option maxHeartbeats 4000000
namespace PB
open PySem PySem.Spec PyProof.Rows L2
variable [Kts]
section
variable {K : Frag} {O O' : Addr → Prop} {H : Hp}
mutual
theorem At.noLD (f : ∀ b ys, H b = some (.tup ys) → ¬ O b → ¬ O' b) : ∀ {v : V} {d : D}, At K O H v d → noLD d = true → At K O' H v d
  | _, _, .non, _ => .non
  | _, _, .bl b, _ => .bl b
  | _, _, .int i, _ => .int i
  | _, _, .str l h h2, _ => .str l h h2
  | _, _, .tup h hs, e => .tup (h.imp_left fun z => ⟨z.1, f _ _ z.1 z.2⟩) (AtL.noLD f hs e)
  | _, _, .ref a, _ => .ref a
  | _, _, .lst _ _ _, e => by cases e
  | _, _, .dct _ _ _, e => by cases e
theorem AtL.noLD (f : ∀ b ys, H b = some (.tup ys) → ¬ O b → ¬ O' b) : ∀ {v : List V} {d : List D}, AtL K O H v d → noLDL d = true → AtL K O' H v d
  | _, _, .nil, _ => .nil
  | _, _, .cons h hs, e => by
    rw [noLDL, Bool.and_eq_true] at e
    exact .cons (At.noLD f h e.1) (AtL.noLD f hs e.2)
end
end
section
variable {γ ι : Type} {B : Bs γ ι} {W : WX} {X : Cx} {pos pz : Pos} {e : Expr} {es : List Expr} {mr : MA γ} {F : MF γ}
theorem VOkL.weak {A : Act γ ι} {e : Env} {g : γ} {σ : L2.St} {H0 H : Hp} (R : Rep A e g σ H0) : ∀ {rs : List Rv} {vs : List V}, VOkL A e σ H0 H rs vs → AtL A.K A.X H vs (lentL rs)
  | _, _, .nil => .nil
  | _, _, .cons a h => .cons (a.weak R) (h.weak R)
end
end PB
set_option Elab.async false
set_option linter.all false
set_option maxRecDepth 100000
set_option maxHeartbeats 4000000
namespace PB
open PySem PySem.Spec PyProof.Rows L2
variable [Kts]
section
variable {γ ι : Type} {B : Bs γ ι} {W : WX} {X : Cx} {pos : Pos} {ma mb mc : ME γ}
theorem pb_par3 {i j l : Nat} {x y z : Str} {a b c : Expr} {px py pz pt : Pos} {kt k2 pt2} (hc : X.calm = true) (hN : X.N.Nodup) (hi : X.N[i]? = some x) (hj : X.N[j]? = some y) (hl : X.N[l]? = some z) (hij : i ≠ j) (hil : i ≠ l) (hjl : j ≠ l)
    (hx : X.env.scope.names.lookup x = some .local) (hy : X.env.scope.names.lookup y = some .local) (hz : X.env.scope.names.lookup z = some .local) (ha : PE X a (RE B W ma)) (hb : PE X b (RE B W mb)) (hcc : PE X c (RE B W mc))
    (hw : swappedStores [.Tuple [.Name x px, .Name y py, .Name z pz] kt pt] (.Tuple [a, b, c] k2 pt2) X.env = pure (some [x, y, z]) := by rfl)
    (hs : swapsWithSole [.Tuple [.Name x px, .Name y py, .Name z pz] kt pt] (.Tuple [a, b, c] k2 pt2) pos.line X.env = pure false := by rfl)
    (hsa : starEach [a, b, c] X.env = (false, eval a X.env) :: starEach [b, c] X.env := by rfl) (hsb : starEach [b, c] X.env = (false, eval b X.env) :: starEach [c] X.env := by rfl) (hsc : starEach [c] X.env = (false, eval c X.env) :: starEach [] X.env := by rfl) :
    PS X (.Assign [.Tuple [.Name x px, .Name y py, .Name z pz] kt pt] (.Tuple [a, b, c] k2 pt2) pos) (RS B W (mPar3 i j l ma mb mc)) := by
  refine ps_w (ps_par3 hc hN hi hj hl hij hil hjl hx hy hz (pa_cons ha (pa_cons hb (pa_cons hcc pa_nil hsc) hsb) hsa) hw hs) fun Dd σ H ⟨S, e, g, R, h⟩ => ?_
  refine ⟨S, e, g, R, RSK.bind R h fun r g1 v H1 x1 i1 o1 h1 => ?_⟩
  have R1 := R.exe x1 i1
  refine ⟨S, e, g1, R1, RSK.bind R1 (rs_lateE R x1 i1 h1) fun r2 g2 v2 H2 x2 i2 o2 h2 => ?_⟩
  have R2 := R1.exe x2 i2
  refine ⟨S, e, g2, R2, RSK.bind R2 (rs_lateE R1 x2 i2 h2) fun r3 g3 v3 H3 x3 i3 o3 h3 => ?_⟩
  have R3 := R2.exe x3 i3
  split at h3
  · rename_i d1 d2 d3
    have a1 : At B.K (Om ⟨B, S⟩ e σ) H3 v d1 := R.at (x2.trans x3) o1
    have a2 : At B.K (Om ⟨B, S⟩ e σ) H3 v2 d2 := R.at x3 o2
    have a3 : At B.K (Om ⟨B, S⟩ e σ) H3 v3 d3 := o3
    refine ⟨v, v2, v3, rfl, ?_⟩
    have R4 := R3.set a1 i
    have s4 := Stp.set (v := v) (d := d1) R3 i
    have a2' := a2.go (s4.go R3)
    have R5 := R4.set a2' j
    have s5 := Stp.set (v := v2) (d := d2) R4 j
    have a3' := (a3.go (s4.go R3)).go (s5.go R4)
    exact h3 _ _ (R5.set a3' l) (.trans R3 (.exe R2 x3) (.trans R4 s4 (.trans R5 s5 (.set R5 l))))
  · exact h3.elim
end
end PB
set_option Elab.async false
set_option linter.all false
set_option maxRecDepth 100000
set_option maxHeartbeats 4000000
namespace PB
open PySem PySem.Spec PyProof.Rows L2
end PB
set_option Elab.async false
set_option linter.all false
set_option maxRecDepth 100000
set_option maxHeartbeats 4000000
namespace PB
open PySem PySem.Spec PyProof.Rows L2
abbrev TSI (h : Heap) (a : Addr) (x : Str) (t : Tok) (i : Nat) : Prop := h.IsStrIter a "str_ascii_iterator" x t i
theorem TSI.at {h h' : Heap} {a : Addr} {x : Str} {t : Tok} {i : Nat} (k : TSI h a x t i) (f : ∀ o, h.get? a = some o → h'.get? a = some o) : TSI h' a x t i := by
  obtain ⟨o, e, c⟩ := k
  exact ⟨o, f o e, c⟩
/-- two texts, sign by sign, in new pairs -/
def ItzT (x y : Str) : It where
  go i H := ∃ c d, x.cps[i]? = some c ∧ y.cps[i]? = some d
  yld i H v H' := ∃ T c d, v = .ref T ∧ H T = none ∧ H' = upd H T (.tup [.str { cps := #[c] }, .str { cps := #[d] }]) ∧ x.cps[i]? = some c ∧ y.cps[i]? = some d
  stop i H := x.cps[i]? = none ∨ y.cps[i]? = none
variable [Kts]
end PB
set_option Elab.async false
set_option linter.all false
set_option maxRecDepth 100000
set_option maxHeartbeats 4000000
namespace PB
open PySem PySem.Spec PyProof.Rows L2
variable [Kts]
structure CA where
  p : Addr
  nas : List NA
def fpN (na : NA) : List Addr := na.p :: na.ps
def CA.fp (ca : CA) : List Addr := ca.p :: ca.nas.flatMap fpN
structure CuAt (K : Frag) (ca : CA) (n : N3) (H : Hp) : Prop where
  hp : H ca.p = some (.lst (ca.nas.map fun na => V.ref na.p))
  len : ca.nas.length = n.length
  row : ∀ (i : Nat) (na : NA) (r : NL), ca.nas[i]? = some na → n[i]? = some r → NlAt K na r H
  nd : (ca.nas.flatMap fpN).Nodup
  np : ca.p ∉ ca.nas.flatMap fpN
section
variable {K : Frag} {ca : CA} {n : N3} {H H' : Hp}
theorem mem_fpN {na : NA} {a : Addr} : a ∈ fpN na ↔ a = na.p ∨ a ∈ na.ps := List.mem_cons
theorem CuAt.ex (h : CuAt K ca n H) {na : NA} (m : na ∈ ca.nas) : ∃ r, NlAt K na r H := by
  obtain ⟨i, hi⟩ := List.getElem?_of_mem m
  have hl : i < n.length := by
    rw [← h.len]
    exact (List.getElem?_eq_some_iff.mp hi).1
  exact ⟨_, h.row i na n[i] hi (List.getElem?_eq_getElem hl)⟩
theorem CuAt.lst (h : CuAt K ca n H) {a : Addr} (m : a ∈ ca.fp) : ∃ xs, H a = some (.lst xs) := by
  rcases List.mem_cons.mp m with rfl | m
  · exact ⟨_, h.hp⟩
  · obtain ⟨na, h1, h2⟩ := List.mem_flatMap.mp m
    obtain ⟨r, nl⟩ := h.ex h1
    exact nl.lst (mem_fpN.mp h2)
theorem CuAt.go (h : CuAt K ca n H) (k : ∀ a ∈ ca.fp, H' a = H a) (t : ∀ a xs, H a = some (.tup xs) → H' a = some (.tup xs)) : CuAt K ca n H' where
  hp := by rw [k _ List.mem_cons_self]; exact h.hp
  len := h.len
  row := fun i na r h1 h2 => (h.row i na r h1 h2).go (fun a z => k a (List.mem_cons_of_mem _ (List.mem_flatMap.mpr ⟨na, List.mem_of_getElem? h1, mem_fpN.mpr z⟩))) t
  nd := h.nd
  np := h.np
end
end PB
set_option Elab.async false
set_option linter.all false
set_option maxRecDepth 100000
set_option maxHeartbeats 4000000
namespace PB
open PySem PySem.Spec PyProof.Rows L2
variable [Kts]
section
variable {γ ι : Type}
variable {B : Bs γ ι} {W : WX} {X : Cx} {ca : CA} {i : Nat} {pos px p1 p2 p3 : Pos} {x : Str} {S : Addr → Prop} {e : Env}
/-- a row of rows as data -/
theorem NlAt.atL {K : Frag} {na : NA} {n : NL} {H : Hp} {O : Addr → Prop} (h : NlAt K na n H) (k : ∀ a, O a → Stk (H a)) (no : ∀ a ∈ fpN na, ¬ O a) : At K O H (.ref na.p) (.lst (n.map .lst)) := by
  refine .lst (.inl h.hp) (no _ List.mem_cons_self) ?_
  have rows : ∀ (ps2 : List Addr) (rs : NL), ps2.length = rs.length → (∀ q ∈ ps2, q ∈ na.ps) → (∀ (j : Nat) (q : Addr) (r : List D), ps2[j]? = some q → rs[j]? = some r → ∃ xs, H q = some (.lst xs) ∧ ItL K H xs r) → AtL K O H (ps2.map V.ref) (rs.map D.lst) := by
    intro ps2
    induction ps2 with
    | nil =>
      intro rs hl _ _
      cases rs with
      | nil => exact .nil
      | cons _ _ => cases hl
    | cons q ps2 ih =>
      intro rs hl hn hrow
      cases rs with
      | nil => cases hl
      | cons r rs =>
        obtain ⟨xs, e1, il⟩ := hrow 0 q r rfl rfl
        exact .cons (.lst (.inl e1) (no q (List.mem_cons_of_mem _ (hn q List.mem_cons_self))) (il.at k)) (ih rs (Nat.succ.inj hl) (fun q hq => hn q (List.mem_cons_of_mem _ hq)) fun j q r h1 h2 => hrow (j + 1) q r h1 h2)
  exact rows na.ps n h.len (fun q hq => hq) h.row
end
end PB
set_option Elab.async false
set_option linter.all false
set_option maxRecDepth 100000
set_option maxHeartbeats 4000000
namespace PB
open PySem PySem.Spec PyProof.Rows L2
variable [Kts]
theorem flat_ne {α : Type} {f : α → List Addr} : ∀ {l : List α}, (l.flatMap f).Nodup → ∀ {i j : Nat} {x y : α} {a : Addr}, l[i]? = some x → l[j]? = some y → i ≠ j → a ∈ f x → a ∈ f y → False
  | [], _, i, _, _, _, _, h, _, _, _, _ => by simp at h
  | z :: l, hn, i, j, x, y, a, h1, h2, hij, k1, k2 => by
    rw [List.flatMap_cons, List.nodup_append] at hn
    obtain ⟨_, n2, n3⟩ := hn
    cases i with
    | zero =>
      cases j with
      | zero => exact hij rfl
      | succ j =>
        cases h1
        have h2 : l[j]? = some y := h2
        exact n3 a k1 a (List.mem_flatMap.mpr ⟨y, List.mem_of_getElem? h2, k2⟩) rfl
    | succ i =>
      have h1 : l[i]? = some x := h1
      cases j with
      | zero =>
        cases h2
        exact n3 a k2 a (List.mem_flatMap.mpr ⟨x, List.mem_of_getElem? h1, k1⟩) rfl
      | succ j =>
        have h2 : l[j]? = some y := h2
        exact flat_ne n2 h1 h2 (fun z => hij (by rw [z])) k1 k2
theorem atI_ix {α : Type} {l : List α} {a : Int} {r : α} (h : PB.atI l a = some r) : ∃ j, PB.ixN l.length a = some j ∧ l[j]? = some r := by
  unfold PB.atI at h
  cases z : PB.ixN l.length a with
  | none => rw [z] at h; cases h
  | some j => rw [z] at h; exact ⟨j, rfl, h⟩
theorem l2at {l : List V} {a : Int} {j : Nat} {v : V} (e : PB.ixN l.length a = some j) (h : l[j]? = some v) : L2.atI l a = some v := by
  unfold L2.atI
  rw [show L2.ixN l.length a = some j from e]
  exact h
section
variable {K : Frag} {ca : CA} {n : N3} {H : Hp}
theorem CuAt.get (h : CuAt K ca n H) {a b c : Int} {d : D} (e : c3At n a b c = some d) : ∃ (j : Nat) (na : NA) (k : Nat) (q : Addr) (xs : List V) (v : V), PB.ixN ca.nas.length a = some j ∧ ca.nas[j]? = some na ∧ PB.ixN na.ps.length b = some k ∧ na.ps[k]? = some q ∧ H na.p = some (.lst (na.ps.map V.ref)) ∧ H q = some (.lst xs) ∧ L2.atI xs c = some v ∧ It1 K H v d := by
  unfold c3At at e
  cases e1 : PB.atI n a with
  | none => rw [e1] at e; cases e
  | some r =>
    rw [e1] at e
    have e : ((PB.atI r b).bind fun q => PB.atI q c) = some d := e
    cases e2 : PB.atI r b with
    | none => rw [e2] at e; cases e
    | some qq =>
      rw [e2] at e
      have e : PB.atI qq c = some d := e
      obtain ⟨j, j1, j2⟩ := atI_ix e1
      obtain ⟨k, k1, k2⟩ := atI_ix e2
      obtain ⟨l, l1, l2⟩ := atI_ix e
      have hj : j < ca.nas.length := by
        rw [h.len]
        exact (List.getElem?_eq_some_iff.mp j2).1
      have n1 : ca.nas[j]? = some ca.nas[j] := List.getElem?_eq_getElem hj
      have nl := h.row j _ r n1 j2
      have hk : k < ca.nas[j].ps.length := by
        rw [nl.len]
        exact (List.getElem?_eq_some_iff.mp k2).1
      have q1 : ca.nas[j].ps[k]? = some ca.nas[j].ps[k] := List.getElem?_eq_getElem hk
      obtain ⟨xs, hx, il⟩ := nl.row k _ qq q1 k2
      obtain ⟨v, ev, iv⟩ := il.get l2
      exact ⟨j, ca.nas[j], k, ca.nas[j].ps[k], xs, v, by rw [h.len]; exact j1, n1, by rw [nl.len]; exact k1, q1, nl.hp, hx, l2at (by rw [il.length]; exact l1) ev, iv⟩
theorem CuAt.put (h : CuAt K ca n H) {a b c : Int} {d : D} {v : V} {n' : N3} (e : c3Set n a b c d = some n') (iv : It1 K H v d) : ∃ (j : Nat) (na : NA) (k : Nat) (q : Addr) (xs : List V) (l : Nat), PB.ixN ca.nas.length a = some j ∧ ca.nas[j]? = some na ∧ PB.ixN na.ps.length b = some k ∧ na.ps[k]? = some q ∧ H q = some (.lst xs) ∧ L2.ixN xs.length c = some l ∧ CuAt K ca n' (upd H q (.lst (xs.set l v))) ∧ q ∈ ca.fp := by
  unfold c3Set at e
  split at e
  · rename_i j j1
    split at e
    · rename_i r j2
      split at e
      · rename_i k k1
        split at e
        · rename_i qq k2
          split at e
          · rename_i l l1
            cases e
            have hj : j < ca.nas.length := by
              rw [h.len]
              exact (List.getElem?_eq_some_iff.mp j2).1
            have hjn : j < n.length := by rw [← h.len]; exact hj
            have n1 : ca.nas[j]? = some ca.nas[j] := List.getElem?_eq_getElem hj
            have nl := h.row j _ r n1 j2
            have hk : k < ca.nas[j].ps.length := by
              rw [nl.len]
              exact (List.getElem?_eq_some_iff.mp k2).1
            have q1 : ca.nas[j].ps[k]? = some ca.nas[j].ps[k] := List.getElem?_eq_getElem hk
            obtain ⟨xs, hx, il⟩ := nl.row k _ qq q1 k2
            generalize hq : ca.nas[j].ps[k] = q at *
            generalize hna : ca.nas[j] = na at *
            have qm : q ∈ fpN na := mem_fpN.mpr (.inr (List.mem_of_getElem? q1))
            have qf : q ∈ ca.nas.flatMap fpN := List.mem_flatMap.mpr ⟨na, List.mem_of_getElem? n1, qm⟩
            refine ⟨j, na, k, q, xs, l, by rw [h.len]; exact j1, n1, by rw [nl.len]; exact k1, q1, hx, by rw [il.length]; exact l1, ?_, List.mem_cons_of_mem _ qf⟩
            have ht : ∀ a ys, H a = some (.tup ys) → upd H q (.lst (xs.set l v)) a = some (.tup ys) := fun a ys e => by
              rw [upd_ne (fun z => by rw [z, hx] at e; cases e)]
              exact e
            refine ⟨by rw [upd_ne (fun z => h.np (by rw [z]; exact qf))]; exact h.hp, by rw [List.length_set]; exact h.len, fun i b ds h1 h2 => ?_, h.nd, h.np⟩
            by_cases c1 : i = j
            · subst c1
              rw [n1] at h1
              cases h1
              rw [List.getElem?_set_self hjn] at h2
              cases h2
              exact nl.set q1 k2 hx il iv
            · rw [List.getElem?_set_ne (fun z => c1 z.symm)] at h2
              exact (h.row i b ds h1 h2).go (fun a ha => upd_ne fun z => flat_ne h.nd h1 n1 c1 (mem_fpN.mpr ha) (by rw [z]; exact qm)) ht
          · cases e
        · cases e
      · cases e
    · cases e
  · cases e
end
end PB
set_option Elab.async false
set_option linter.all false
set_option maxRecDepth 100000
set_option maxHeartbeats 4000000
namespace PB
open PySem PySem.Spec PyProof.Rows L2
end PB
set_option Elab.async false
set_option linter.all false
set_option maxRecDepth 100000
set_option maxHeartbeats 4000000
namespace PB
open PySem PySem.Spec PyProof.Rows L2
variable [Kts]
section
variable {γ ι : Type}
def spNl (K : Frag) (fam : ι → Gho γ) (n : Nat) (F : MF γ) : Sp := fun vs H Q E => ∃ (i : ι) (S : Addr → Prop) (ds : List D) (g : γ), vs.length = n ∧ (∀ a, (fam i).F a → S a) ∧ (∀ a, S a → Stk (H a)) ∧ AtL K S H vs ds ∧ (fam i).I g H ∧
  ∃ (nl : NL) (g' : γ), F ds g = .ok (.own (nl.map .lst)) g' ∧ ∀ (na : NA) H', (∀ b o, H b = some o → ¬ (fam i).F b → H' b = some o) → (fam i).I g' H' → (∀ q, (q = na.p ∨ q ∈ na.ps) → H q = none) → NlAt K na nl H' → Q (.ref na.p) H'
/-- .. as a suite -/
def RNK (A : Act γ ι) (e : Env) (σ : L2.St) (H : Hp) (r : Rs γ NL) (Dd : Ends) : Prop := match r with
  | .ok n g' => ∀ (na : NA) H', (∀ b o, H b = some o → ¬ Mu A e σ b → H' b = some o) → A.G.I g' H' → (∀ q, (q = na.p ∨ q ∈ na.ps) → H q = none ∨ OwnA e σ q) → NlAt A.K na n H' → Dd.rt (.ref na.p) H'
  | _ => False
def RN (B : Bs γ ι) (m : Env → γ → Rs γ NL) : TS := fun Dd σ H => ∃ (S : Addr → Prop) (e : Env) (g : γ), Rep ⟨B, S⟩ e g σ H ∧ RNK ⟨B, S⟩ e σ H (m e g) Dd
variable {B : Bs γ ι} {W : WX} {X : Cx} {na : NA} {i : Nat} {pos px p1 p2 : Pos} {x : Str}
/-- what is new later is new, or was one's own -/
theorem Stp.fresh {A : Act γ ι} {e e' : Env} {g : γ} {σ σ' : L2.St} {H H' : Hp} (R' : Rep A e' g σ' H') (s : Stp A e σ H e' σ' H') {q : Addr} (h : H' q = none ∨ OwnA e' σ' q) : H q = none ∨ OwnA e σ q := by
  rcases h with h | h
  · by_cases o : OwnA e σ q
    · exact .inr o
    · cases k : H q with
      | none => exact .inl rfl
      | some u =>
        by_cases f : A.G.F q
        · exact absurd h (A.G.trk _ _ _ R'.gh f)
        · have := s.keep q u k fun z => z.elim f o
          rw [h] at this
          cases this
  · exact (s.mu q h).elim .inr .inl
theorem pb_rscons {st : Stmt} {rest : List Stmt} {s1 : MS γ} {s2 : Env → γ → Rs γ NL} (h1 : PS X st (RS B W0 s1)) (h2 : PSs X rest (RN B s2)) : PSs X (st :: rest) (RN B (mSeqN s1 s2)) := pss_w (pss_cons h1 h2) fun Dd σ H ⟨S, e, g, R, h⟩ => by
  refine ⟨S, e, g, R, ?_⟩
  unfold mSeqN at h
  cases k : s1 e g with
  | no =>
    rw [k] at h
    exact h
  | ex x g' =>
    rw [k] at h
    exact h.elim
  | ok f g' =>
    rw [k] at h
    cases f with
    | bk e1 => exact h.elim
    | ct e1 => exact h.elim
    | rt r => exact h.elim
    | nx e1 =>
      have h : RNK ⟨B, S⟩ e σ H (s2 e1 g') Dd := h
      intro σ' H' R' s'
      refine ⟨S, e1, g', R', ?_⟩
      cases k2 : s2 e1 g' with
      | no =>
        rw [k2] at h
        exact h
      | ex x g' =>
        rw [k2] at h
        exact h
      | ok n g2 =>
        rw [k2] at h
        exact fun na H2 kp ig fr nl => h na H2 (s'.kp R' kp) ig (fun q hq => s'.fresh R' (fr q hq)) nl
/-- x = [row for ..]; the block; return x: as rows -/
theorem pb_nestN {spos : Pos} {py : Pos} {elt iter tg : Expr} {scope : Scope} {own : List (Str × Nat)} {mi : MI γ} {g : TG} {tgm : MG} {is : List Nat} {me : ME γ} {rest : List Stmt} {mb : MS (γ × NL)} (hc : X.calm = true) (hN : X.N.Nodup) (hy : X.N[i]? = some x) (hyl : X.env.scope.names.lookup x = some .local)
    (hsw : swapsWith (.ListComp elt [⟨tg, iter, [], 0⟩] scope pos) (some (.Name x py)) spos.line X.env = pure true) (hi : PI X tg iter (RI B W0 mi)) (ok : BlkOk X.N X.env.scope scope own)
    (hg : ∀ (s : Shared) (H : Hp) (C : Addr) (cl : List (Str × Addr)) (fp : List Addr), PG (X.blk s H scope (compEnvC scope cl C X.env) fp) tg g) (ts : TgS B g tgm is) (hsub : ∀ i ∈ is, i ∈ own.map (·.2))
    (he : ∀ (s : Shared) (H : Hp) (C : Addr) (cl : List (Str × Addr)) (fp : List Addr), PE (X.blk s H scope (compEnvC scope cl C X.env) fp) elt (RE B W0 me))
    (hr : ∀ na, PSs X rest (RSN (nlB B na) i na.p mb)) (hs : ∀ x, foldedSetIterable iter X.env x = pure x := by intro _; rfl) :
    PSs X (.Assign [.Name x py] (.ListComp elt [⟨tg, iter, [], 0⟩] scope pos) spos :: rest) (RN B (mNestN i mi tgm me (own.map (·.2)) mb)) := by
  refine pss_w (pss_cons (ps_setLc hc hN hy hyl hsw hi ok hg (fun _ _ _ _ _ => pts_yes (B := B)) he hs) (pss_ex fun na => hr na)) fun Dd σ H ⟨S, e, gm, R, h⟩ => ?_
  unfold mNestN at h
  by_cases ng : noGh e = true
  · rw [if_pos ng] at h
    cases kn : mNew mi tgm me (own.map (·.2)) e gm with
    | no =>
      rw [kn] at h
      exact h.elim
    | ex y g1 =>
      rw [kn] at h
      exact h.elim
    | ok n gN =>
      rw [kn] at h
      dsimp only at h
      unfold tSeq tAsg
      refine lc_goN (W := W0) ts hsub R kn fun na H' xe ig fp fs nl => ?_
      refine ⟨na, _, _, _, R.nest xe ig fp fs nl i ng, ?_⟩
      cases kb : mb (st e i (.gh 0)) (gN, n) with
      | no =>
        rw [kb] at h
        exact h
      | ex y g2 =>
        rw [kb] at h
        exact h
      | ok f g2 =>
        rw [kb] at h
        cases f with
        | rt r => exact h
        | bk e1 => exact h
        | ct e1 => exact h
        | nx e2 =>
          dsimp only at h
          intro σ2 H2 R2 s2
          cases kg : gt e2 i with
          | gh y =>
            rw [kg] at h
            have sl := R2.sl i
            rw [kg] at sl
            refine ⟨sl, ?_⟩
            obtain ⟨ig2, nl2, nf⟩ := R2.gh
            refine h na H2 (fun b o q nn => ?_) ig2 (fun q hq => .inl (hq.elim (fun z => by rw [z]; exact fp) (fs q))) nl2
            refine s2.keep b o (xe b o q fun z => nn (.inl z)) fun z => ?_
            rcases z with (z | z) | z
            · exact nn (.inl z)
            · have : H b = none := z.elim (fun z => by rw [z]; exact fp) (fs b)
              rw [q] at this
              cases this
            · obtain ⟨j, h1, h2⟩ := z
              rw [gt_st] at h1
              rw [set_at, R.len] at h2
              by_cases c : j = i ∧ i < e.length
              · rw [if_pos c] at h1
                cases h1
              · rw [if_neg c] at h1 h2
                exact nn (.inr ⟨j, h1, h2⟩)
          | _ =>
            rw [kg] at h
            exact h.elim
  · rw [if_neg ng] at h
    exact h.elim
end
section
variable {γ ι : Type} {P : Program} {w : World} {K : Frag} {mg : Str → Option Value} {base : Heap} {Tx : XT} {xa : Addr × Value × Option Addr} {fam : ι → Gho γ}
theorem gt_start (ds : List D) (m j : Nat) : gt (ds.map Sl.dat ++ List.replicate m .un) j = match ds[j]? with
    | some d => .dat d
    | none => .un := by
  induction ds generalizing j with
  | nil =>
    rw [List.map_nil, List.nil_append, List.getElem?_nil]
    exact gt_rep m j
  | cons d ds ih =>
    cases j with
    | zero => rfl
    | succ j => exact ih j
theorem own_start {ds : List D} {m : Nat} {σ : L2.St} {a : Addr} : ¬ OwnA (ds.map Sl.dat ++ List.replicate m .un) σ a := fun ⟨j, h1, _⟩ => by
  rw [gt_start] at h1
  split at h1 <;> cases h1
theorem fn_nl {x qual : Str} {st : Stmt} {f : Addr} {fd : FuncData} {N ps : List Str} {k : Nat} {dvs : List V} (m : MS γ) {mN : Env → γ → Rs γ NL} (hm : NlM m mN) (a b : Nat) (F : FunD K x qual (defArgs st) (defBody st) (defScope st) dvs [] f fd) (Sc : FnScope N ps (defScope st)) (ha : N.length = a) (hb' : ps.length = b) (hn : b ≤ a)
    (hb : ∀ (i : ι) (cdv : Value) (A : Around) (outer : List PySem.Env) (s : Shared) (H : Hp) (E : XK), Room k (A.deeper (envOfC qual (defScope st) s.heap.objs.size f cdv)) →
      PSs (cxOf CX0 P w K mg base N qual (defScope st) f cdv A outer s H E).nox (defBody st) (RN ⟨K, Tx, fam, i, xa⟩ mN)) :
    FnOk P w K mg base CX0 (k + 1) f fd ps (spNl K fam b (mDef a b m)) := by
  subst ha hb'
  refine F.ok Sc (fun vs H Q E h => ?_) (fun cdv A outer s H vs Q E hr h => ?_)
  · obtain ⟨i, S, ds, g, hl, _⟩ := h
    exact hl
  · obtain ⟨i, S, ds, g, hl, fx, xt, al, gh, nl, g', hF, hq⟩ := h
    refine ⟨_, (hb i cdv A outer s H E hr).nox, S, _, g, start_rep (A := ⟨⟨K, Tx, fam, i, xa⟩, S⟩) (N := N) fx xt al gh (by omega), ?_⟩
    have hdl : ds.length = ps.length := by rw [← al.length]; exact hl
    unfold mDef at hF
    rw [if_pos hdl] at hF
    rw [hdl]
    cases km : m (ds.map Sl.dat ++ List.replicate (N.length - ps.length) .un) g with
    | no =>
      rw [km] at hF
      cases hF
    | ex y g1 =>
      rw [km] at hF
      cases hF
    | ok fl g1 =>
      rw [km] at hF
      cases fl with
      | nx e' => cases hF
      | bk e' => cases hF
      | ct e' => cases hF
      | rt r =>
        obtain ⟨nl2, e2, en⟩ := hm _ _ _ _ km
        subst e2
        have hF : (Rs.ok (.own (nl2.map .lst)) g1 : Rs γ Rv) = .ok (.own (nl.map .lst)) g' := hF
        have e3 : nl2.map D.lst = nl.map D.lst := by
          injection hF with e1 e2
          injection e1
        have e4 : nl2 = nl := by
          have := congrArg unL e3
          rw [unL_map, unL_map] at this
          exact Option.some.inj this
        have e5 : g1 = g' := by
          injection hF
        subst e4 e5
        rw [en]
        exact fun na H' kp ig fr nl => hq na H' (fun b o q n => kp b o q fun z => z.elim n own_start) ig (fun q z => (fr q z).elim id fun y => absurd y own_start) nl
end
end PB
set_option Elab.async false
set_option linter.all false
set_option maxRecDepth 100000
set_option maxHeartbeats 4000000
namespace PB
open PySem PySem.Spec PyProof.Rows L2
variable [Kts]
abbrev F0 : Addr → Prop := fun _ => False
section
variable {K : Frag} {O O' : Addr → Prop} {H H' : Hp}
mutual
/-- what holds tuples alone leans on tuples alone -/
theorem At.tp (f : ∀ b ys, H b = some (.tup ys) → ¬ O b → H' b = some (.tup ys) ∧ ¬ O' b) : ∀ {v : V} {d : D}, At K O H v d → noLD d = true → At K O' H' v d
  | _, _, .non, _ => .non
  | _, _, .bl b, _ => .bl b
  | _, _, .int i, _ => .int i
  | _, _, .str l h h2, _ => .str l h h2
  | _, _, .tup h hs, e => .tup (h.imp_left fun z => f _ _ z.1 z.2) (AtL.tp f hs e)
  | _, _, .ref a, _ => .ref a
  | _, _, .lst _ _ _, e => by cases e
  | _, _, .dct _ _ _, e => by cases e
theorem AtL.tp (f : ∀ b ys, H b = some (.tup ys) → ¬ O b → H' b = some (.tup ys) ∧ ¬ O' b) : ∀ {v : List V} {d : List D}, AtL K O H v d → noLDL d = true → AtL K O' H' v d
  | _, _, .nil, _ => .nil
  | _, _, .cons h hs, e => by
    rw [noLDL, Bool.and_eq_true] at e
    exact .cons (At.tp f h e.1) (AtL.tp f hs e.2)
end
theorem DiS.tp {a : Addr} {ks : List D} {us : List V} (h : DiS K O H a true ks us) (f : ∀ b ys, H b = Option.some (.tup ys) → ¬ O b → H' b = Option.some (.tup ys) ∧ ¬ O' b) (k : H' a = H a) : DiS K O' H' a true ks us := by
  obtain ⟨o, xs, e, r1, r2, r3, r4⟩ := DiS.tt.mp h
  exact DiS.tt.mpr ⟨o, xs, by rw [k]; exact e, r1, r2, fun x hx => (r3 x hx).elim (fun z => .inl (f _ _ z.1 z.2)) .inr, r4⟩
def PlV (K : Frag) (H : Hp) (v : V) (d : D) : Prop := At K F0 H v d ∧ noLD d = true
def FzV (K : Frag) (H : Hp) (v : V) (d : D) : Prop := ∃ p ob xs ds, v = .ref p ∧ d = .lst ds ∧ H p = some (.frz ob (.lst xs)) ∧ AtL K F0 H xs ds ∧ noLDL ds = true
theorem PlV.go {v : V} {d : D} (h : PlV K H v d) (t : ∀ a u, Sm u → H a = some u → H' a = some u) : PlV K H' v d := ⟨h.1.tp (fun b ys q _ => ⟨t b _ trivial q, id⟩) h.2, h.2⟩
theorem FzV.go {v : V} {d : D} (h : FzV K H v d) (t : ∀ a u, Sm u → H a = some u → H' a = some u) : FzV K H' v d := by
  obtain ⟨p, ob, xs, ds, e1, e2, e3, e4, e5⟩ := h
  exact ⟨p, ob, xs, ds, e1, e2, t _ _ trivial e3, e4.tp (fun b ys q _ => ⟨t b _ trivial q, id⟩) e5, e5⟩
theorem PlV.at {v : V} {d : D} (h : PlV K H v d) (k : ∀ a, O a → Stk (H a)) : At K O H v d := h.1.tp (fun b ys q _ => ⟨q, fun z => (k b z).notT ys q⟩) h.2
theorem FzV.at {v : V} {d : D} (h : FzV K H v d) (k : ∀ a, O a → Stk (H a)) : At K O H v d := by
  obtain ⟨p, ob, xs, ds, rfl, rfl, e3, e4, e5⟩ := h
  exact .lst (.inr ⟨ob, e3⟩) (fun z => (k p z).notS (v := .frz ob (.lst xs)) trivial e3) (e4.tp (fun b ys q _ => ⟨q, fun z => (k b z).notT ys q⟩) e5)
theorem plv_of {v : V} {d : D} (h : At K O H v d) (e : noLD d = true) : PlV K H v d := ⟨h.tp (fun b ys q _ => ⟨q, id⟩) e, e⟩
theorem plvs_of : ∀ {v : List V} {d : List D}, AtL K O H v d → noLDL d = true → AtL K F0 H v d := fun h e => h.tp (fun b ys q _ => ⟨q, id⟩) e
theorem paired_mono {α β : Type} {P Q : α → β → Prop} : ∀ {xs : List α} {ys : List β}, Paired P xs ys → (∀ x y, P x y → Q x y) → Paired Q xs ys
  | _, _, .nil, _ => .nil
  | _, _, .cons h hs, f => .cons (f _ _ h) (paired_mono hs f)
theorem paired_app {α β : Type} {P : α → β → Prop} : ∀ {xs xs' : List α} {ys ys' : List β}, Paired P xs ys → Paired P xs' ys' → Paired P (xs ++ xs') (ys ++ ys')
  | _, _, _, _, .nil, h => h
  | _, _, _, _, .cons a r, h => .cons a (paired_app r h)
theorem dGet_valP {κ : Type} [DecidableEq κ] {P : V → D → Prop} (f : κ → D) (hf : ∀ a b, eqv (f a) (f b) = decide (a = b)) (x : κ) : ∀ (kvs : List (κ × V)) (vs : List D), Paired P (kvs.map (·.2)) vs → match dGet (kvs.map fun kv => f kv.1) vs (f x) with
    | some d => ∃ v, valV kvs x = some v ∧ P v d
    | none => valV kvs x = none
  | [], _, .nil => rfl
  | kv :: kvs, d :: vs, .cons h hs => by
    show match (if eqv (f kv.1) (f x) = true then some d else dGet (kvs.map fun kv => f kv.1) vs (f x)) with
      | some d => ∃ v, valV (kv :: kvs) x = some v ∧ P v d
      | none => valV (kv :: kvs) x = none
    rw [hf]
    by_cases c : kv.1 = x
    · rw [decide_eq_true c, if_pos rfl]
      exact ⟨kv.2, valV_pos c, h⟩
    · rw [decide_eq_false c, if_neg Bool.false_ne_true, valV_neg c]
      exact dGet_valP f hf x kvs vs hs
theorem dget_atP {P : V → D → Prop} {a : Addr} {ks vs : List D} {us : List V} {y : V} {d r : D} (h : DiS K O H a true ks us) (al : Paired P us vs) (k : KeyAt K O H true y d) (hr : dGet ks vs d = some r) : ∃ v, GetD K H a y (some v) ∧ P v r := by
  obtain ⟨ob, xs, e1, rfl, vv, tk, tki⟩ := DiS.tt.mp h
  obtain ⟨k, b, rfl, eb, rfl, _⟩ := k
  obtain ⟨kvs, kx, rfl⟩ := KX.of vv
  have := dGet_valP (fun k : List Key => D.tup (k.map keyD)) (fun a b => eqvL_key a b) k kvs vs al
  have rv := kx.val k
  rw [kx.keys fun k => D.tup (k.map keyD)] at hr
  have hr : dGet (kvs.map fun kv => .tup (kv.1.map keyD)) vs (.tup (k.map keyD)) = some r := hr
  rw [hr] at this
  obtain ⟨v, e2, hv⟩ := this
  rw [e2] at rv
  exact ⟨v, .inr ⟨O, ob, xs, k, b, e1, rfl, eb, tk, rv⟩, hv⟩
theorem put_atP {κ : Type} [DecidableEq κ] {P : V → D → Prop} (f : κ → D) (hf : ∀ a b, eqv (f a) (f b) = decide (a = b)) (x : κ) {v : V} {r : D} (hv : P v r) (kvs : List (κ × V)) (vs : List D) (al : Paired P (kvs.map (·.2)) vs) :
    (dPut (kvs.map fun kv => f kv.1) vs (f x) r).1 = (putK kvs x v).map (fun kv => f kv.1) ∧ Paired P ((putK kvs x v).map (·.2)) (dPut (kvs.map fun kv => f kv.1) vs (f x) r).2 := by
  unfold dPut putK
  rw [any_key f hf]
  by_cases c : (kvs.any fun kv => decide (kv.1 = x)) = true
  · rw [if_pos c, if_pos c]
    clear c
    constructor
    · show kvs.map (fun kv => f kv.1) = _
      rw [List.map_map]
      refine List.map_congr_left fun kv _ => ?_
      show _ = f (if kv.1 = x then (kv.1, v) else kv).1
      split <;> rfl
    · show Paired P _ (dRep (kvs.map fun kv => f kv.1) vs (f x) r)
      induction kvs generalizing vs with
      | nil => cases al; exact .nil
      | cons kv kvs ih =>
        cases al with
        | @cons _ d _ vs h hs =>
          show Paired P ((if kv.1 = x then (kv.1, v) else kv).2 :: _) ((if eqv (f kv.1) (f x) = true then r else d) :: dRep (kvs.map fun kv => f kv.1) vs (f x) r)
          refine .cons ?_ (ih vs hs)
          rw [hf]
          by_cases c : kv.1 = x
          · rw [if_pos c, decide_eq_true c, if_pos rfl]
            exact hv
          · rw [if_neg c, decide_eq_false c, if_neg Bool.false_ne_true]
            exact h
  · rw [if_neg c, if_neg c]
    refine ⟨by rw [List.map_append]; rfl, ?_⟩
    rw [List.map_append]
    exact paired_app al (.cons hv .nil)
theorem dput_atP {P : V → D → Prop} {a : Addr} {ks vs : List D} {us : List V} {y v : V} {d r : D} {N : Hp → Prop} (h : DiS K O H a true ks us) (al : Paired P us vs) (k : KeyAt K O H true y d) (hv : P v r) (hl : ks.length < SZ)
    (hN : ∀ (u : HO) (us' : List V), Cont u → (∀ o, H a = some o → ¬ Sm o) → (∀ (H2 : Hp) (O' : Addr → Prop), H2 a = some u → (∀ b ys, H b = some (.tup ys) → ¬ O b → H2 b = some (.tup ys) ∧ ¬ O' b) → DiS K O' H2 a true (dPut ks vs d r).1 us') → Paired P us' (dPut ks vs d r).2 → N (upd H a u)) : PutD K H a y v N := by
  obtain ⟨ob, xs, e1, rfl, vv, tk, tki⟩ := DiS.tt.mp h
  obtain ⟨k, b, rfl, eb, rfl, ki⟩ := k
  obtain ⟨kvs, kx, rfl⟩ := KX.of vv
  obtain ⟨p1, p2⟩ := put_atP (fun k : List Key => D.tup (k.map keyD)) (fun a b => eqvL_key a b) k hv kvs vs al
  rw [List.length_map] at hl
  rw [kx.keys fun k => D.tup (k.map keyD)] at hN
  have ne : ∀ o, H a = some o → ¬ Sm o := fun o z q => by
    rw [e1] at z
    cases z
    exact q
  refine .inr ⟨O, ob, xs, k, b, e1, rfl, eb, tk, ki, szlt hl, fun r' ob' rr => hN (.ext (dPhi a ob' (storedH xs k b r'))) ((putK kvs k v).map (·.2)) trivial ne (fun H2 O' eH go => ?_) p2⟩
  have kx' := kx.put k (b := b) rr
  have tgo : ∀ c kk, TKy K O H c kk → TKy K O' H2 c kk := fun c kk z => z.elim (fun z => .inl (go c _ z.1 z.2)) .inr
  refine DiS.tt.mpr ⟨ob', storedH xs k b r', eH, ?_, kx'.vals, fun x hx => ?_, fun x hx => (mem_storedH hx).elim (fun ⟨y, hy, e2, _⟩ => by rw [e2]; exact tki y hy) fun z => by rw [z.1]; exact ki⟩
  · rw [p1, kx'.keys fun k => D.tup (k.map keyD)]
  · rcases mem_storedH hx with ⟨y, hy, e2, e3⟩ | ⟨e2, e3⟩
    · rw [e2, e3]
      exact tgo _ _ (tk y hy)
    · rw [e2, e3]
      exact tgo _ _ eb
theorem KeyAt.tp {y : V} {d : D} (h : KeyAt K O H true y d) (f : ∀ b ys, H b = some (.tup ys) → ¬ O b → H' b = some (.tup ys) ∧ ¬ O' b) : KeyAt K O' H' true y d := by
  obtain ⟨k, b, e1, e2, e3, e4⟩ := h
  exact ⟨k, b, e1, e2.imp_left fun z => f _ _ z.1 z.2, e3, e4⟩
end
/-- where it stands: itself, its dicts, its rows -/
structure WA where
  a : Addr
  sd : Addr
  md : Addr
  na : NA
def WA.fp (w : WA) (b : Addr) : Prop := b = w.a ∨ b = w.sd ∨ b = w.md ∨ b = w.na.p ∨ b ∈ w.na.ps
def wyF (vw vp : V) (w : WA) : List (Str × V) := [("words", vw), ("price", vp), ("rest", .ref w.na.p), ("steps", .ref w.sd), ("many_on", .ref w.md)]
structure WyAt (K : Frag) (C : Addr) (w : WA) (s : WS) (H : Hp) : Prop where
  ea : s.a = w.a
  ins : ∃ dx vw vp, H w.a = some (.ins C dx (wyF vw vp w)) ∧ PlV K H vw s.words ∧ PlV K H vp s.price
  rest : NlAt K w.na s.rest H
  st : ∃ us, DiS K F0 H w.sd true s.sk us ∧ Paired (FzV K H) us s.sv
  mn : ∃ us, DiS K F0 H w.md true s.qk us ∧ Paired (PlV K H) us s.qv
  ne : w.sd ≠ w.md
section
variable {K : Frag} {C : Addr} {w : WA} {s : WS} {H H' : Hp}
theorem WyAt.stk (h : WyAt K C w s H) {b : Addr} (m : w.fp b) : Stk (H b) := by
  rcases m with rfl | rfl | rfl | m
  · obtain ⟨_, _, _, e, _⟩ := h.ins
    exact .of e trivial
  · obtain ⟨_, e, _⟩ := h.st
    exact e.stk
  · obtain ⟨_, e, _⟩ := h.mn
    exact e.stk
  · obtain ⟨xs, e⟩ := h.rest.lst m
    exact .lst e
theorem WyAt.go (h : WyAt K C w s H) (k : ∀ a, w.fp a → H' a = H a) (t : ∀ a u, Sm u → H a = some u → H' a = some u) : WyAt K C w s H' where
  ea := h.ea
  ins := by
    obtain ⟨dx, vw, vp, e, p1, p2⟩ := h.ins
    exact ⟨dx, vw, vp, by rw [k _ (.inl rfl)]; exact e, p1.go t, p2.go t⟩
  rest := h.rest.go (fun a z => k a (.inr (.inr (.inr z)))) fun a xs q => t a _ trivial q
  st := by
    obtain ⟨us, d, p⟩ := h.st
    exact ⟨us, d.tp (fun b ys q _ => ⟨t b _ trivial q, id⟩) (k _ (.inr (.inl rfl))), paired_mono p fun _ _ z => z.go t⟩
  mn := by
    obtain ⟨us, d, p⟩ := h.mn
    exact ⟨us, d.tp (fun b ys q _ => ⟨t b _ trivial q, id⟩) (k _ (.inr (.inr (.inl rfl)))), paired_mono p fun _ _ z => z.go t⟩
  ne := h.ne
end
section
variable {γ ι : Type}
/-- with the thing -/
def wyG (K : Frag) (C : Addr) (fam : ι → Gho γ) (i : ι × WA) : Gho (GW γ) where
  F := fun a => (fam i.1).F a ∨ i.2.fp a
  I := fun g H => (fam i.1).I g.1 H ∧ WyAt K C i.2 g.2 H ∧ ∀ a, i.2.fp a → ¬ (fam i.1).F a
  stab := fun g H H' h k t => ⟨(fam i.1).stab _ _ _ h.1 (fun a z => k a (.inl z)) t, h.2.1.go (fun a z => k a (.inr z)) t, h.2.2⟩
  lsts := fun g H a h z => z.elim (fun z => (fam i.1).lsts _ _ _ h.1 z) fun z => h.2.1.stk z
  ad := (fam i.1).ad
def wyB (B : Bs γ ι) (C : Addr) (w : WA) : Bs (GW γ) (ι × WA) := ⟨B.K, B.T, wyG B.K C B.fam, (B.i, w), B.xa⟩
end
end PB
set_option Elab.async false
set_option linter.all false
set_option maxRecDepth 100000
set_option maxHeartbeats 4000000
namespace PB
open PySem PySem.Spec PyProof.Rows L2
variable [Kts]
section
variable {γ ι : Type} {B : Bs γ ι} {W : WX} {X : Cx} {C : Addr} {w : WA} {pos p0 p1 p2 : Pos} {o ke ka kb ve : Expr} {mo mk ma mb mv : ME (GW γ)}
theorem lk_words (vw vp : V) (w : WA) : (wyF vw vp w).lookup ("words" : Str) = some vw := rfl
theorem lk_price (vw vp : V) (w : WA) : (wyF vw vp w).lookup ("price" : Str) = some vp := rfl
theorem lk_rest (vw vp : V) (w : WA) : (wyF vw vp w).lookup ("rest" : Str) = some (.ref w.na.p) := rfl
theorem lk_steps (vw vp : V) (w : WA) : (wyF vw vp w).lookup ("steps" : Str) = some (.ref w.sd) := rfl
theorem lk_many (vw vp : V) (w : WA) : (wyF vw vp w).lookup ("many_on" : Str) = some (.ref w.md) := rfl
/-- a value that is the thing -/
theorem slf_at {K : Frag} {O : Addr → Prop} {H : Hp} {v : V} {b : Nat} (h : At K O H v (.ref b)) : v = .ref b := by
  cases h
  rfl
theorem pb_wyW (ho : PE X o (RE (wyB B C w) W mo)) (hC : Cls B.K C) (hK : B.K = X.K) (hn : NoAttr B.K C "words") (hb : attributeBase o "words" X.env (eval o X.env) = eval o X.env) :
    PE X (.Attribute o "words" pos) (RE (wyB B C w) W (mWyF WS.words mo)) := pe_w (pe_fld ho hb) fun σ H Q ⟨S, e, g, R, h⟩ => by
  refine ⟨S, e, g, R, RK.bind (.refl H) h fun x g1 vx H1 _ x1 i1 o1 h1 => ?_⟩
  split at h1
  · rename_i b
    split at h1
    · rename_i hbq
      have ev := slf_at o1
      obtain ⟨_, wy, _⟩ := id i1
      have wy : WyAt B.K C w g1.2 H1 := wy
      obtain ⟨dx, vw, vp, e1, p1, _⟩ := wy.ins
      have eb : b = w.a := hbq.trans wy.ea
      have R1 := R.exe x1 i1
      exact ⟨w.a, C, dx, _, vw, by rw [ev, eb], e1, hK ▸ hC, hK ▸ hn, lk_words _ _ _, h1 vw H1 x1 i1 (p1.at fun a z => R1.oms z)⟩
    · exact h1.elim
  · exact h1.elim
theorem pb_wyP (ho : PE X o (RE (wyB B C w) W mo)) (hC : Cls B.K C) (hK : B.K = X.K) (hn : NoAttr B.K C "price") (hb : attributeBase o "price" X.env (eval o X.env) = eval o X.env) :
    PE X (.Attribute o "price" pos) (RE (wyB B C w) W (mWyF WS.price mo)) := pe_w (pe_fld ho hb) fun σ H Q ⟨S, e, g, R, h⟩ => by
  refine ⟨S, e, g, R, RK.bind (.refl H) h fun x g1 vx H1 _ x1 i1 o1 h1 => ?_⟩
  split at h1
  · rename_i b
    split at h1
    · rename_i hbq
      have ev := slf_at o1
      obtain ⟨_, wy, _⟩ := id i1
      have wy : WyAt B.K C w g1.2 H1 := wy
      obtain ⟨dx, vw, vp, e1, _, p1⟩ := wy.ins
      have eb : b = w.a := hbq.trans wy.ea
      have R1 := R.exe x1 i1
      exact ⟨w.a, C, dx, _, vp, by rw [ev, eb], e1, hK ▸ hC, hK ▸ hn, lk_price _ _ _, h1 vp H1 x1 i1 (p1.at fun a z => R1.oms z)⟩
    · exact h1.elim
  · exact h1.elim
/-- x.rest[a][b] -/
theorem pb_wyR (ho : PE X o (RE (wyB B C w) W mo)) (ha : PE X ka (RE (wyB B C w) W ma)) (hb' : PE X kb (RE (wyB B C w) W mb)) (hC : Cls B.K C) (hK : B.K = X.K) (hn : NoAttr B.K C "rest") (hb : attributeBase o "rest" X.env (eval o X.env) = eval o X.env) (hp1 : PlainIx ka) (hp2 : PlainIx kb) :
    PE X (.Subscript (.Subscript (.Attribute o "rest" p0) ka p1) kb p2) (RE (wyB B C w) W (mWyRest mo ma mb)) := pe_w (pe_ix ix_list (pe_ix ix_list (pe_fld ho hb) ha hp1) hb' hp2) fun σ H Q ⟨S, e, g, R, h⟩ => by
  refine ⟨S, e, g, R, RK.bind (.refl H) h fun x g0 vx H0 _ x0 i0 o0 h0 => ?_⟩
  split at h0
  · rename_i b
    split at h0
    · rename_i hbq
      have ev := slf_at o0
      obtain ⟨_, wy, _⟩ := id i0
      have wy : WyAt B.K C w g0.2 H0 := wy
      obtain ⟨dx, vw, vp, e1, _⟩ := wy.ins
      have eb : b = w.a := hbq.trans wy.ea
      have R0 := R.exe x0 i0
      refine ⟨w.a, C, dx, _, .ref w.na.p, by rw [ev, eb], e1, hK ▸ hC, hK ▸ hn, lk_rest _ _ _, S, e, g0, R0, RK.bind x0 h0 fun r g1 v1 H1 x01 x1 i1 o1 h1 => ?_⟩
      split at h1
      · rename_i m
        cases o1
        have R1 := R.exe x1 i1
        obtain ⟨_, wy1, _⟩ := id i1
        have nl1 : NlAt B.K w.na g1.2.rest H1 := WyAt.rest wy1
        cases kj : PB.atI g1.2.rest m with
        | none =>
          rw [kj] at h1
          exact h1.elim
        | some rr =>
          rw [kj] at h1
          obtain ⟨j, ej, er⟩ : ∃ j, PB.ixN g1.2.rest.length m = some j ∧ g1.2.rest[j]? = some rr := by
            unfold PB.atI at kj
            cases z : PB.ixN g1.2.rest.length m with
            | none => rw [z] at kj; cases kj
            | some j => rw [z] at kj; exact ⟨j, rfl, kj⟩
          obtain ⟨q, e1, e2, hj⟩ := nl1.at ej
          refine ⟨w.na.p, _, m, .ref q, rfl, rfl, SqL.of nl1.hp, e1, S, e, g1, R1, RK.bind x1 h1 fun z g2 v2 H2 x12 x2 i2 o2 h2 => ?_⟩
          split at h2
          · rename_i k
            cases o2
            obtain ⟨z, ez, qz⟩ := h2.ofO
            obtain ⟨_, wy2, _⟩ := id i2
            have nl2 : NlAt B.K w.na g2.2.rest H2 := WyAt.rest wy2
            have hlen : g2.2.rest.length = g1.2.rest.length := by rw [← nl2.len, ← nl1.len]
            have hj2 : j < g2.2.rest.length := by omega
            have er2 : PB.atI g2.2.rest m = some g2.2.rest[j] := by
              unfold PB.atI
              rw [hlen, ej]
              simp [hj2]
            rw [er2] at ez
            cases kc : PB.atI g2.2.rest[j] k with
            | none =>
              have ez : (PB.atI g2.2.rest[j] k).map Rv.dat = some z := ez
              rw [kc] at ez
              cases ez
            | some d =>
              have ez : (PB.atI g2.2.rest[j] k).map Rv.dat = some z := ez
              rw [kc] at ez
              cases ez
              obtain ⟨xs, hx, il⟩ := nl2.row j q g2.2.rest[j] e2 (by simp)
              have R2 := R.exe x2 i2
              have al : AtL B.K (Om ⟨wyB B C w, S⟩ e σ) H2 xs g2.2.rest[j] := il.at fun a z => R2.oms z
              obtain ⟨v, ev, av⟩ := al.atI kc
              exact ⟨q, xs, k, v, rfl, rfl, SqL.of hx, ev, qz v H2 x2 i2 av⟩
          · exact h2.elim
      · exact h1.elim
    · exact h0.elim
  · exact h0.elim
/-- x.steps[k] -/
theorem pb_wyS (ho : PE X o (RE (wyB B C w) W mo)) (hk : PE X ke (RE (wyB B C w) W mk)) (hC : Cls B.K C) (hK : B.K = X.K) (hu : X.A.units + 1 < cLine) (hn : NoAttr B.K C "steps") (hb : attributeBase o "steps" X.env (eval o X.env) = eval o X.env) (hs : NoSl ke) :
    PE X (.Subscript (.Attribute o "steps" p0) ke pos) (RE (wyB B C w) W (mWyD true mo mk)) := pe_w (pe_dgetG hu (pe_fld ho hb) hk hs) fun σ H Q ⟨S, e, g, R, h⟩ => by
  refine ⟨S, e, g, R, RK.bind (.refl H) h fun x g0 vx H0 _ x0 i0 o0 h0 => ?_⟩
  split at h0
  · rename_i b
    split at h0
    · rename_i hbq
      have ev := slf_at o0
      obtain ⟨_, wy, _⟩ := id i0
      have wy : WyAt B.K C w g0.2 H0 := wy
      obtain ⟨dx, vw, vp, e1, _⟩ := wy.ins
      have eb : b = w.a := hbq.trans wy.ea
      have R0 := R.exe x0 i0
      refine ⟨w.a, C, dx, _, .ref w.sd, by rw [ev, eb], e1, hK ▸ hC, hK ▸ hn, lk_steps _ _ _, S, e, g0, R0, RK.bind x0 h0 fun r g1 v1 H1 x01 x1 i1 o1 h1 => ?_⟩
      split at h1
      · rename_i d
        split at h1
        · rename_i hkb
          have R1 := R.exe x1 i1
          obtain ⟨_, wy1, _⟩ := id i1
          have wy1 : WyAt B.K C w g1.2 H1 := wy1
          obtain ⟨us, di, pa⟩ := wy1.st
          obtain ⟨z, ez, qz⟩ := h1.ofO
          obtain ⟨r, er, rfl⟩ := Option.map_eq_some_iff.mp ez
          have ka := (key_at (t := true) o1 hkb).tp (O' := F0) fun b ys q _ => ⟨q, id⟩
          obtain ⟨v, gd, fz⟩ := dget_atP di pa ka er
          rw [← hK]
          exact ⟨w.sd, v, rfl, gd, qz v H1 x1 i1 (fz.at fun a z => R1.oms z)⟩
        · exact h1.elim
      · exact h1.elim
    · exact h0.elim
  · exact h0.elim
/-- x.many_on[k] -/
theorem pb_wyM (ho : PE X o (RE (wyB B C w) W mo)) (hk : PE X ke (RE (wyB B C w) W mk)) (hC : Cls B.K C) (hK : B.K = X.K) (hu : X.A.units + 1 < cLine) (hn : NoAttr B.K C "many_on") (hb : attributeBase o "many_on" X.env (eval o X.env) = eval o X.env) (hs : NoSl ke) :
    PE X (.Subscript (.Attribute o "many_on" p0) ke pos) (RE (wyB B C w) W (mWyD false mo mk)) := pe_w (pe_dgetG hu (pe_fld ho hb) hk hs) fun σ H Q ⟨S, e, g, R, h⟩ => by
  refine ⟨S, e, g, R, RK.bind (.refl H) h fun x g0 vx H0 _ x0 i0 o0 h0 => ?_⟩
  split at h0
  · rename_i b
    split at h0
    · rename_i hbq
      have ev := slf_at o0
      obtain ⟨_, wy, _⟩ := id i0
      have wy : WyAt B.K C w g0.2 H0 := wy
      obtain ⟨dx, vw, vp, e1, _⟩ := wy.ins
      have eb : b = w.a := hbq.trans wy.ea
      have R0 := R.exe x0 i0
      refine ⟨w.a, C, dx, _, .ref w.md, by rw [ev, eb], e1, hK ▸ hC, hK ▸ hn, lk_many _ _ _, S, e, g0, R0, RK.bind x0 h0 fun r g1 v1 H1 x01 x1 i1 o1 h1 => ?_⟩
      split at h1
      · rename_i d
        split at h1
        · rename_i hkb
          have R1 := R.exe x1 i1
          obtain ⟨_, wy1, _⟩ := id i1
          have wy1 : WyAt B.K C w g1.2 H1 := wy1
          obtain ⟨us, di, pa⟩ := wy1.mn
          obtain ⟨z, ez, qz⟩ := h1.ofO
          obtain ⟨r, er, rfl⟩ := Option.map_eq_some_iff.mp ez
          have ka := (key_at (t := true) o1 hkb).tp (O' := F0) fun b ys q _ => ⟨q, id⟩
          obtain ⟨v, gd, fz⟩ := dget_atP di pa ka er
          rw [← hK]
          exact ⟨w.md, v, rfl, gd, qz v H1 x1 i1 (fz.at fun a z => R1.oms z)⟩
        · exact h1.elim
      · exact h1.elim
    · exact h0.elim
  · exact h0.elim
/-- a change at a dict of the thing -/
theorem wy_chg {S : Addr → Prop} {e : Env} {g : GW γ} {σ : L2.St} {H : Hp} {b : Addr} {u : HO} {s' : WS} (R : Rep ⟨wyB B C w, S⟩ e g σ H) (hb : w.fp b) (ns : ∀ o, H b = some o → ¬ Sm o) (n : WyAt B.K C w s' (upd H b u)) : ((wyB B C w).fam (wyB B C w).i).I (g.1, s') (upd H b u) ∧ ExE ⟨wyB B C w, S⟩ H (upd H b u) := by
  obtain ⟨ig, wy, nf⟩ := R.gh
  refine ⟨⟨(B.fam B.i).stab _ _ _ ig (fun a f => upd_ne fun z => nf a (by rw [z]; exact hb) f) (fun a v hv q => ?_), n, nf⟩, fun c o q n => ?_⟩
  · rw [upd_ne (fun z => by rw [z] at q; exact ns _ q hv)]
    exact q
  · rw [upd_ne (fun z => n (.inr (by rw [z]; exact hb)))]
    exact q
/-- x.many_on[k] = v -/
theorem pb_wyPutM (ho : PE X o (RE (wyB B C w) W mo)) (hk : PE X ke (RE (wyB B C w) W mk)) (hv : PE X ve (RE (wyB B C w) W mv)) (hC : Cls B.K C) (hK : B.K = X.K) (hu : X.A.units + 1 < cLine) (hn : NoAttr B.K C "many_on") (hb : attributeBase o "many_on" X.env (eval o X.env) = eval o X.env)
    (hs : swapsWith ve (some (.Subscript (.Attribute o "many_on" p0) ke p1)) pos.line X.env = pure false) :
    PS X (.Assign [.Subscript (.Attribute o "many_on" p0) ke p1] ve pos) (RS (wyB B C w) W (mWyPutM mo mk mv)) := ps_w (ps_dputG hu (pe_fld ho hb) hk hv hs) fun Dd σ H ⟨S, e, g, R, h⟩ => by
  refine ⟨S, e, g, R, RSK.bind R h fun rv ga va Ha xa ia oa ha => ?_⟩
  split at ha
  · rename_i r
    have Ra := R.exe xa ia
    refine ⟨S, e, ga, Ra, RSK.bind Ra (RSK.late Ra (.exe R xa) ha) fun x g0 vx H0 x0 i0 o0 h0 => ?_⟩
    split at h0
    · rename_i b
      split at h0
      · rename_i hbq
        obtain ⟨hbq, hr⟩ := hbq
        have ev := slf_at o0
        obtain ⟨_, wy, _⟩ := id i0
        have wy : WyAt B.K C w g0.2 H0 := wy
        obtain ⟨dx, vw, vp, e1, _⟩ := wy.ins
        have eb : b = w.a := hbq.trans wy.ea
        have R0 := Ra.exe x0 i0
        refine ⟨w.a, C, dx, _, .ref w.md, by rw [ev, eb], e1, hK ▸ hC, hK ▸ hn, lk_many _ _ _, S, e, g0, R0, RSK.bind R0 (RSK.late R0 (.exe Ra x0) h0) fun r2 g1 v1 H1 x1 i1 o1 h1 => ?_⟩
        split at h1
        · rename_i d
          split at h1
          · rename_i hkb
            have R1 := R0.exe x1 i1
            obtain ⟨_, wy1, _⟩ := id i1
            have wy1 : WyAt B.K C w g1.2 H1 := wy1
            obtain ⟨us, di, pa⟩ := wy1.mn
            have ka := (key_at (t := true) o1 hkb.1).tp (O' := F0) fun b ys q _ => ⟨q, id⟩
            have oa1 : At B.K (Om ⟨wyB B C w, S⟩ e σ) H1 va r := R.at (x0.trans x1) oa
            rw [← hK]
            refine ⟨w.md, rfl, dput_atP di pa ka (plv_of oa1 hr) hkb.2 fun u us' cu ns dn pn => ?_⟩
            have n : WyAt B.K C w { g1.2 with qk := (dPut g1.2.qk g1.2.qv d r).1, qv := (dPut g1.2.qk g1.2.qv d r).2 } (upd H1 w.md u) := by
              have t : ∀ a v, Sm v → H1 a = some v → upd H1 w.md u a = some v := fun a v hv q => by
                rw [upd_ne (fun z => by rw [z] at q; exact ns _ q hv)]
                exact q
              obtain ⟨dx1, vw1, vp1, f1, f2, f3⟩ := wy1.ins
              obtain ⟨us1, st1, st2⟩ := wy1.st
              have nea : w.a ≠ w.md := fun z => by
                obtain ⟨_, _, q, _⟩ := DiS.tt.mp di
                rw [← z, f1] at q
                cases q
              exact ⟨wy1.ea, ⟨dx1, vw1, vp1, by rw [upd_ne nea]; exact f1, f2.go t, f3.go t⟩, wy1.rest.go (fun a z => upd_ne fun y => by
                  obtain ⟨xs, q⟩ := wy1.rest.lst z
                  obtain ⟨_, _, q2, _⟩ := DiS.tt.mp di
                  rw [y, q2] at q
                  cases q) (fun a xs q => t a _ trivial q),
                ⟨us1, st1.tp (fun b ys q _ => ⟨t b _ trivial q, id⟩) (upd_ne wy1.ne), paired_mono st2 fun _ _ z => z.go t⟩, ⟨us', dn _ _ upd_same fun b ys q _ => ⟨t b _ trivial q, id⟩, paired_mono pn fun _ _ z => z.go t⟩, wy1.ne⟩
            obtain ⟨ig, xe⟩ := wy_chg R1 (b := w.md) (.inr (.inr (.inl rfl))) ns n
            exact h1 _ _ (R1.exe xe ig) (.trans R1 (.exe R0 x1) (.exe R1 xe))
          · exact h1.elim
        · exact h1.elim
      · exact h0.elim
    · exact h0.elim
  · exact ha.elim
end
end PB
set_option Elab.async false
set_option linter.all false
set_option maxRecDepth 100000
set_option maxHeartbeats 4000000
namespace PB
open PySem PySem.Spec PyProof.Rows L2
variable [Kts]
section
variable {X : Cx} {st : Stmt} {t : TS}
theorem ps_lock (h : PS X st t) : PS X st (fun D σ H => t { D with nx := fun σ' H' => ∃ p u, H' p = some u ∧ Mut (some u) ∧ ∀ od, D.nx σ' (upd H' p (.frz od u)) } σ H) := ⟨fun pins s σ H D I q => by
  refine thn (h.run pins s σ H _ I q) fun f s' hf => ?_
  cases f with
  | next =>
    obtain ⟨σ', H', I', p, u, e, mu, k⟩ := hf
    obtain ⟨od, J⟩ := I'.lock e mu
    exact ⟨σ', _, J, k od⟩
  | ret u => exact hf
  | brk => exact hf
  | cont => exact hf⟩
end
section
variable {γ ι : Type} {B : Bs γ ι} {W : WX} {X : Cx} {C : Addr} {w : WA} {pos p0 p1 p2 : Pos} {o ke ka kb ve : Expr} {mo mk ma mb mv : ME (GW γ)}
theorem RSK.bind2 {A : Act γ ι} {e0 : Env} {σ : L2.St} {H H1 : Hp} {Dd : Ends} {α β : Type} {P : Act γ ι → Env → L2.St → Hp → Hp → α → β → Prop} {m : Rs γ α} {f : α → γ → Rs γ Fl} {k : β → Hp → Prop} (x : ExE A H H1) (h : RSK A W e0 σ H (m.bind f) Dd)
    (hk : ∀ a g1 b H2, ExE A H1 H2 → A.G.I g1 H2 → P A e0 σ H1 H2 a b → RSK A W e0 σ H (f a g1) Dd → k b H2) : RK P A W e0 σ H1 m k := by
  cases m with
  | no => exact h
  | ex y g => exact fun c od H' x2 i r => h c od σ H' (fun b o q n => (x.trans x2) b o q fun z => n (.inl z)) i r
  | ok a g => exact fun b H' x' i p => hk a g b H' x' i p h
/-- x.steps[k] = a new list -/
theorem pb_wyPutS (ho : PE X o (RE (wyB B C w) W mo)) (hk : PE X ke (RE (wyB B C w) W mk)) (hv : PE X ve (RE (wyB B C w) W mv)) (hC : Cls B.K C) (hK : B.K = X.K) (hu : X.A.units + 1 < cLine) (hn : NoAttr B.K C "steps") (hb : attributeBase o "steps" X.env (eval o X.env) = eval o X.env)
    (hs : swapsWith ve (some (.Subscript (.Attribute o "steps" p0) ke p1)) pos.line X.env = pure false) :
    PS X (.Assign [.Subscript (.Attribute o "steps" p0) ke p1] ve pos) (RS (wyB B C w) W (mWyPutS mo mk mv)) := ps_w (ps_lock (ps_dputG hu (pe_fld ho hb) hk hv hs)) fun Dd σ H ⟨S, e, g, R, h⟩ => by
  refine ⟨S, e, g, R, RSK.bind R h fun rv ga va Ha xa ia oa ha => ?_⟩
  split at ha
  · rename_i ds
    obtain ⟨pl, xs, ev0, hp0, hpl, al⟩ := oa
    have Ra := R.exe xa ia
    refine ⟨S, e, ga, Ra, RSK.bind2 xa ha fun x g0 vx H0 x0 i0 o0 h0 => ?_⟩
    split at h0
    · rename_i b
      split at h0
      · rename_i hbq
        obtain ⟨hbq, hr⟩ := hbq
        have ev := slf_at o0
        obtain ⟨_, wy, _⟩ := id i0
        have wy : WyAt B.K C w g0.2 H0 := wy
        obtain ⟨dx, vw, vp, e1, _⟩ := wy.ins
        have eb : b = w.a := hbq.trans wy.ea
        have R0 := Ra.exe x0 i0
        refine ⟨w.a, C, dx, _, .ref w.sd, by rw [ev, eb], e1, hK ▸ hC, hK ▸ hn, lk_steps _ _ _, S, e, g0, R0, RSK.bind2 (xa.trans x0) h0 fun r2 g1 v1 H1 x1 i1 o1 h1 => ?_⟩
        split at h1
        · rename_i d
          split at h1
          · rename_i hkb
            have R1 := R0.exe x1 i1
            obtain ⟨ig1, wy1, nf1⟩ := id i1
            have wy1 : WyAt B.K C w g1.2 H1 := wy1
            obtain ⟨us, di, pa⟩ := wy1.st
            have ka := (key_at (t := true) o1 hkb.1).tp (O' := F0) fun b ys q _ => ⟨q, id⟩
            have x01 := x0.trans x1
            have npF : ¬ ((wyB B C w).fam (wyB B C w).i).F pl := fun z => R.xt pl (R.fx pl z) hp0
            have hpl1 : H1 pl = some (.lst xs) := x01 pl _ hpl npF
            have al0 : AtL B.K F0 Ha xs ds := plvs_of al hr
            have al1 : AtL B.K F0 H1 xs ds := al0.tp (fun b ys q _ => ⟨x01 b _ q fun z => ((((wyB B C w).fam (wyB B C w).i)).stk _ _ _ ia z).notT ys q, id⟩) hr
            have plsd : pl ≠ w.sd := fun z => npF (.inr (.inr (.inl z)))
            rw [← hK]
            refine ⟨w.sd, rfl, dput_atP (P := fun v r => FzV B.K H1 v r ∨ (v = .ref pl ∧ r = .lst ds)) di (paired_mono pa fun _ _ z => .inl z) ka (.inr ⟨ev0, rfl⟩) hkb.2 fun u us' cu ns dn pn => ?_⟩
            refine ⟨pl, .lst xs, by rw [upd_ne plsd]; exact hpl1, trivial, fun od => ?_⟩
            have t : ∀ a v, Sm v → H1 a = some v → upd (upd H1 w.sd u) pl (.frz od (.lst xs)) a = some v := fun a v hv q => by
              rw [upd_ne (fun z => by rw [z, hpl1] at q; cases q; exact hv), upd_ne (fun z => by rw [z] at q; exact ns _ q hv)]
              exact q
            have kp : ∀ a, w.fp a → a ≠ w.sd → upd (upd H1 w.sd u) pl (.frz od (.lst xs)) a = H1 a := fun a fa na => by
              rw [upd_ne (fun z => npF (.inr (by rw [← z]; exact fa))), upd_ne na]
            have fz : ∀ v r, (FzV B.K H1 v r ∨ (v = .ref pl ∧ r = .lst ds)) → FzV B.K (upd (upd H1 w.sd u) pl (.frz od (.lst xs))) v r := fun v r z => by
              rcases z with z | ⟨rfl, rfl⟩
              · exact z.go t
              · exact ⟨pl, od, xs, ds, rfl, rfl, upd_same, al1.tp (fun b ys q _ => ⟨t b _ trivial q, id⟩) hr, hr⟩
            have esd : upd (upd H1 w.sd u) pl (.frz od (.lst xs)) w.sd = some u := by rw [upd_ne plsd.symm, upd_same]
            have n : WyAt B.K C w { g1.2 with sk := (dPut g1.2.sk g1.2.sv d (.lst ds)).1, sv := (dPut g1.2.sk g1.2.sv d (.lst ds)).2 } (upd (upd H1 w.sd u) pl (.frz od (.lst xs))) := by
              obtain ⟨dx1, vw1, vp1, f1, f2, f3⟩ := wy1.ins
              obtain ⟨us1, st1, st2⟩ := wy1.mn
              have nea : w.a ≠ w.sd := fun z => by
                obtain ⟨_, _, q, _⟩ := DiS.tt.mp di
                rw [← z, f1] at q
                cases q
              exact ⟨wy1.ea, ⟨dx1, vw1, vp1, by rw [kp _ (.inl rfl) nea]; exact f1, f2.go t, f3.go t⟩, wy1.rest.go (fun a z => kp a (.inr (.inr (.inr z))) fun y => by
                  obtain ⟨xs, q⟩ := wy1.rest.lst z
                  obtain ⟨_, _, q2, _⟩ := DiS.tt.mp di
                  rw [y, q2] at q
                  cases q) (fun a xs q => t a _ trivial q),
                ⟨us', dn _ _ esd fun b ys q _ => ⟨t b _ trivial q, id⟩, paired_mono pn fz⟩, ⟨us1, st1.tp (fun b ys q _ => ⟨t b _ trivial q, id⟩) (kp _ (.inr (.inr (.inl rfl))) wy1.ne.symm), paired_mono st2 fun _ _ z => z.go t⟩, wy1.ne⟩
            have ig : ((wyB B C w).fam (wyB B C w).i).I (g1.1, { g1.2 with sk := (dPut g1.2.sk g1.2.sv d (.lst ds)).1, sv := (dPut g1.2.sk g1.2.sv d (.lst ds)).2 }) (upd (upd H1 w.sd u) pl (.frz od (.lst xs))) :=
              ⟨(B.fam B.i).stab _ _ _ ig1 (fun a f => by
                rw [upd_ne (fun z => npF (.inl (by rw [← z]; exact f))), upd_ne (show a ≠ w.sd from fun z => nf1 a (.inr (.inl z)) f)]) t, n, nf1⟩
            have xe : ∀ b o, H b = some o → ¬ ((wyB B C w).fam (wyB B C w).i).F b → upd (upd H1 w.sd u) pl (.frz od (.lst xs)) b = some o := fun b o q nn => by
              have q1 := x01 b o (xa b o q nn) nn
              rw [upd_ne (fun z => by rw [z, hp0] at q; cases q), upd_ne (show b ≠ w.sd from fun z => nn (.inr (.inr (.inl z))))]
              exact q1
            exact h1 _ _ (R.exe xe ig) (.exe R xe)
          · exact h1.elim
        · exact h1.elim
      · exact h0.elim
    · exact h0.elim
  · exact ha.elim
end
end PB
set_option Elab.async false
set_option linter.all false
set_option maxRecDepth 100000
set_option maxHeartbeats 4000000
namespace PB
open PySem PySem.Spec PyProof.Rows L2
variable [Kts]
section
variable {γ ι : Type} {B : Bs γ ι} {W : WX} {X : Cx} {pos apos : Pos} {e o : Expr} {es : List Expr} {mo : ME γ} {mr : MA γ} {F : MF γ} {C : Addr} {slf : γ → Nat → Bool}
theorem pb_meth {k : Nat} {n : Nat} {f : Addr} {fd : FuncData} {ps : List Str} {m : Str} {pl : Sem Bool} (hI : ∀ g H b, (B.fam B.i).I g H → slf g b = true → ∃ dx fs, H b = some (.ins C dx fs) ∧ fs.lookup m = none) (ho : PE X o (RE B W mo)) (hC : Cls X.K C) (hM : Meth X.K C m f)
    (G : FnOk X.prog X.w X.K X.mg X.base CX0 k f fd ps (spOf B.K B.fam (n + 1) F)) (hr : Room k X.A) (hb : Binds X.K fd ps []) (ha : PA X (e :: es) (RA B W mr)) (hl : ∀ e g rs g', mr e g = .ok rs g' → rs.length = n)
    (hst : starEach (e :: es) X.env = (false, eval e X.env) :: starEach es X.env := by rfl) (hpl : (backTo pos (starEach es X.env)).any (·.1) = false := by rfl)
    (ht : eval (.Call (.Attribute o m apos) (e :: es) [] pos) X.env = (do let ov ← eval o X.env; standAt apos.atName; let (f, first) ← holding [ov] (getMethod ov m pl); callWith pos f first (backTo pos (starEach (e :: es) X.env)) (backToKw pos (keywordEach [] X.env))) := by rfl) :
    PE X (.Call (.Attribute o m apos) (e :: es) [] pos) (RE B W (mMeth slf F mo mr)) :=
  pe_w (pe_meth ho hC hM G hr hb .nil pass0 ha hst hpl ht) fun σ H Q ⟨S, e, g, R, h⟩ => by
    refine ⟨S, e, g, R, RK.bind (.refl H) h fun x g1 vx H1 _ x1 i1 o1 h1 => ?_⟩
    split at h1
    · rename_i b
      split at h1
      · rename_i hs
        have ev := slf_at o1
        obtain ⟨dx, fs, e1, e2⟩ := hI g1 H1 b i1 hs
        refine ⟨b, dx, fs, ev, e1, e2, S, e, g1, R.exe x1 i1, ?_⟩
        cases q : mr e g1 with
        | no =>
          rw [q] at h1
          exact h1.elim
        | ex y g2 =>
          rw [q] at h1
          exact fun c od H' x' i' r' => h1 c od H' (x1.trans x') i' r'
        | ok rs g2 =>
          rw [q] at h1
          intro vs H2 x2 i2 o2
          have h1 : RK VOk ⟨B, S⟩ W e σ H (match stoL rs with
            | some ds => okO (F (.ref b :: ds) g2)
            | none => .no) Q := h1
          cases ks : stoL rs with
          | none =>
            rw [ks] at h1
            exact h1.elim
          | some ds =>
            rw [ks] at h1
            have h1 : RK VOk ⟨B, S⟩ W e σ H (okO (F (.ref b :: ds) g2)) Q := h1
            have al := (o2.pre x1 i1).sto R ks
            have hn : vs.length = n := by rw [o2.length, hl _ _ _ _ q]
            have x02 := x1.trans x2
            have R2 := R.exe x02 i2
            rw [List.append_nil, ev]
            refine ⟨B.i, Om ⟨B, S⟩ e σ, .ref b :: ds, g2, by rw [List.length_cons, hn], fun a z => .inl (R.fx a z), fun a z => R2.oms z, .cons (.ref b) al, i2, ?_⟩
            cases kf : F (.ref b :: ds) g2 with
            | no =>
              rw [kf] at h1
              exact h1
            | ex y g3 =>
              rw [kf] at h1
              exact h1
            | ok r g3 =>
              rw [kf] at h1
              exact fun v H' x' i' o' => h1 v H' (x02.trans x') i' (fret_vok R x02 i2 o')
      · exact h1.elim
    · exact h1.elim
end
end PB
set_option Elab.async false
set_option linter.all false
set_option maxRecDepth 100000
set_option maxHeartbeats 4000000
namespace PB
open PySem PySem.Spec PyProof.Rows L2
variable [Kts]
section
variable {γ ι : Type} {B : Bs γ ι} {W : WX} {X : Cx} {C x : Addr} {w : WA} {S S' : Addr → Prop} {e : Env} {g g' : γ} {σ : L2.St} {H H' H0 H1 : Hp}
/-- the promise of its __init__ -/
def spWyI (K : Frag) (C : Addr) (fam : ι → Gho γ) (n : Nat) (M : List D → Nat → γ → Rs γ WS) : Sp := fun vs H Q E => ∃ (i : ι) (S : Addr → Prop) (ds : List D) (g : γ) (x dx : Addr) (ws : List V), vs = .ref x :: ws ∧ ws.length = n ∧ (∀ a, (fam i).F a → S a) ∧ (∀ a, S a → Stk (H a)) ∧ AtL K (fun a => S a ∨ a = x) H ws ds ∧ (fam i).I g H ∧
  H x = some (.ins C dx []) ∧ ¬ S x ∧ ∃ (s : WS) (g' : γ), M ds x g = .ok s g' ∧ ∀ (w : WA) H', w.a = x → (∀ b o, H b = some o → ¬ (fam i).F b → b ≠ x → H' b = some o) → (fam i).I g' H' → WyAt K C w s H' → (∀ b, w.fp b → b = x ∨ H b = none) → Q .non H'
theorem exe_sm {A : Act γ ι} (i : A.G.I g H) (k : ∀ b o, H b = some o → ¬ A.G.F b → H' b = some o) : ∀ a u, Sm u → H a = some u → H' a = some u := fun a u hu q => k a u q fun z => (A.G.stk g H a i z).notS hu q
/-- into the thing -/
theorem Rep.growW {ws : WS} (R : Rep ⟨B, S⟩ e g σ H) (k : ∀ b o, H b = some o → ¬ S b → H' b = some o) (h1 : ∀ a, S a → S' a) (h2 : ∀ a, S' a → S a ∨ H a = none) (t : ∀ a, S' a → Stk (H' a)) (i : ((wyB B C w).fam (wyB B C w).i).I (g', ws) H') (fx : ∀ a, w.fp a → S' a) (ng : noGh e = true) : Rep ⟨wyB B C w, S'⟩ e (g', ws) σ H' := by
  have R2 := R.more k h1 h2 t i.1
  refine ⟨R2.len, fun j => ?_, R2.inj, R2.nx, i, fun a z => z.elim (fun z => h1 a (R.fx a z)) (fx a), t⟩
  have q := R2.sl j
  cases h : gt e j with
  | un => trivial
  | dat d =>
    rw [h] at q
    exact q
  | own ds =>
    rw [h] at q
    exact q
  | xc y =>
    rw [h] at q
    exact q
  | gh y => exact absurd h (noGh_ne ng j y)
  | owd tt ks vs =>
    rw [h] at q
    exact q
/-- the thing's own cell changes -/
theorem Rep.cell {dx : Addr} {fs fs' : List (Str × V)} (R : Rep ⟨B, S⟩ e g σ H) (sx : S x) (nf : ¬ (B.fam B.i).F x) (hx : H x = some (.ins C dx fs)) : Rep ⟨B, S⟩ e g σ (upd H x (.ins C dx fs')) :=
  R.exX (fun b o q n => by
    rw [upd_ne (fun z => n (by rw [z]; exact sx))]
    exact q) (fun a z => by
    by_cases q : a = x
    · rw [q]
      exact .of upd_same trivial
    · rw [upd_ne q]
      exact R.xs a z) ((B.fam B.i).stab _ _ _ R.gh (fun a z => upd_ne fun q => nf (by rw [← q]; exact z)) fun a u hu q => by
    rw [upd_ne (fun z => by rw [z, hx] at q; cases q; exact hu)]
    exact q)
end
section
variable {γ ι : Type} {B : Bs γ ι} {X : Cx} {C : Addr} {s1 s2 s3 s4 s5 : Stmt} {rest : List Stmt} {Fr : MF γ} {L : MS (GW γ)} {m : Nat}
abbrev tDn : TE := fun _ H Q => ∀ p, H p = none → Q (.ref p) (upd H p (.ext (dPhi p oD0 [])))
def RInit (B : Bs γ ι) (C : Addr) (Fr : MF γ) (L : MS (GW γ)) (m : Nat) : TS := fun Dd σ H => ∃ (S : Addr → Prop) (g : γ) (d1 d2 d3 : D) (x dx : Addr) (s : WS) (g' : γ), Rep ⟨B, S⟩ (.dat (.ref x) :: .dat d1 :: .dat d2 :: .dat d3 :: List.replicate m .un) g σ H ∧ H x = some (.ins C dx []) ∧ S x ∧ ¬ (B.fam B.i).F x ∧
  mkWy Fr L m [d1, d2, d3] x g = .ok s g' ∧ ∀ (w : WA) σ' H', w.a = x → (∀ b o, H b = some o → ¬ (B.fam B.i).F b → b ≠ x → H' b = some o) → (B.fam B.i).I g' H' → WyAt B.K C w s H' → (∀ b, w.fp b → b = x ∨ H b = none) → Dd.nx σ' H'
theorem lt_put {f : Str} {v : V} {fs : List (Str × V)} {k : Nat} (h : fs.length ≤ k) (hk : k + 1 < 1000) : (putF f v fs).length < 1000 := by
  have := length_putF f v fs
  omega
theorem le_put {f : Str} {v : V} {fs : List (Str × V)} {k : Nat} (h : fs.length ≤ k) : (putF f v fs).length ≤ k + 1 := by
  have := length_putF f v fs
  omega
theorem wy_put (v1 v2 : V) (x sd md : Addr) (na : NA) : putF "many_on" (.ref md) (putF "steps" (.ref sd) (putF "rest" (.ref na.p) (putF "price" v2 (putF "words" v1 [])))) = wyF v1 v2 ⟨x, sd, md, na⟩ := rfl
theorem pss_init (hC : Cls X.K C) (hn : NoAttr X.K C "words" ∧ NoAttr X.K C "price" ∧ NoAttr X.K C "rest" ∧ NoAttr X.K C "steps" ∧ NoAttr X.K C "many_on")
    (h1 : PS X s1 (sFld X.K (tVar 0) (RE B W0 (mTup (mCons (mVar 1) (mCons (mVar 2) mNil)))) "words")) (h2 : PS X s2 (sFld X.K (tVar 0) (RE B W0 (mVar 3)) "price"))
    (h3 : PS X s3 (sFld X.K (tVar 0) (tCall (spNl B.K B.fam 3 Fr) [] E0 (RA B W0 (mCons (mVar 1) (mCons (mVar 2) (mCons (mVar 3) mNil))))) "rest")) (h4 : PS X s4 (sFld X.K (tVar 0) tDn "steps")) (h5 : PS X s5 (sFld X.K (tVar 0) tDn "many_on"))
    (hr : ∀ w, PSs X rest (RS (wyB B C w) W0 L)) : PSs X (s1 :: s2 :: s3 :: s4 :: s5 :: rest) (RInit B C Fr L m) := by
  refine pss_w (pss_cons h1 (pss_cons h2 (pss_cons h3 (pss_cons h4 (pss_cons h5 (pss_ex hr)))))) fun Dd σ H ⟨S, g, d1, d2, d3, x, dx, s, g', R, hx, sx, nf, hM, hQ⟩ => ?_
  obtain ⟨n1, n2, n3, n4, n5⟩ := hn
  unfold mkWy at hM
  dsimp only at hM
  by_cases hld : noLD d1 = true ∧ noLD d2 = true ∧ noLD d3 = true
  · rw [if_pos hld] at hM
    obtain ⟨l1, l2, l3⟩ := hld
    cases kr : Fr [d1, d2, d3] g with
    | no => rw [kr] at hM; cases hM
    | ex y gy => rw [kr] at hM; cases hM
    | ok rv g1 =>
    rw [kr] at hM
    cases rv with
    | dat _ => cases hM
    | bor _ => cases hM
    | odt _ _ _ => cases hM
    | bdt _ _ _ => cases hM
    | own rs =>
    dsimp only at hM
    cases ku : unL rs with
    | none => rw [ku] at hM; cases hM
    | some nl =>
    rw [ku] at hM
    dsimp only at hM
    have ers := unL_some ku
    subst ers
    -- the slots
    obtain ⟨v0, s0, a0⟩ := (show SlOk B (Om ⟨B, S⟩ _ σ) H (.dat (.ref x)) σ[0]? from R.sl 0)
    have ev0 : v0 = .ref x := slf_at a0
    subst ev0
    -- words
    refine ⟨S, _, g, R, ?_⟩
    show RK VOk ⟨B, S⟩ W0 _ σ H (.ok (.dat (.tup [d1, d2])) g) _
    intro y1 H1 x1 i1 o1
    have o1 : At B.K (Om ⟨B, S⟩ _ σ) H1 y1 (.tup [d1, d2]) := o1
    have R1 := R.exe x1 i1
    have hx1 : H1 x = some (.ins C dx []) := x1 x _ hx nf
    refine ⟨_, s0, x, C, dx, [], rfl, hx1, hC, n1, by decide, ?_⟩
    have p1 : PlV B.K H1 y1 (.tup [d1, d2]) := plv_of o1 (by simp [noLD, noLDL, l1, l2])
    have R1' := R1.cell (fs' := putF "words" y1 []) sx nf hx1
    have sm1 : ∀ a u, Sm u → H1 a = some u → upd H1 x (.ins C dx (putF "words" y1 [])) a = some u := fun a u hu q => by
      rw [upd_ne (fun z => by rw [z, hx1] at q; cases q; exact hu)]
      exact q
    -- price
    refine ⟨S, _, g, R1', ?_⟩
    show RK VOk ⟨B, S⟩ W0 _ σ _ (.ok (.dat d3) g) _
    intro y2 H2 x2 i2 o2
    have o2 : At B.K (Om ⟨B, S⟩ _ σ) H2 y2 d3 := o2
    have R2 := R1'.exe x2 i2
    have hx2 : H2 x = some (.ins C dx (putF "words" y1 [])) := x2 x _ upd_same nf
    refine ⟨_, s0, x, C, dx, _, rfl, hx2, hC, n2, lt_put (k := 0) (Nat.le_refl 0) (by decide), ?_⟩
    have p2 : PlV B.K H2 y2 d3 := plv_of o2 l3
    have R2' := R2.cell (fs' := putF "price" y2 (putF "words" y1 [])) sx nf hx2
    have sm12 := exe_sm (A := ⟨B, S⟩) R1'.gh x2
    have sm2 : ∀ a u, Sm u → H2 a = some u → upd H2 x (.ins C dx (putF "price" y2 (putF "words" y1 []))) a = some u := fun a u hu q => by
      rw [upd_ne (fun z => by rw [z, hx2] at q; cases q; exact hu)]
      exact q
    -- rest
    refine ⟨S, _, g, R2', ?_⟩
    show RK VOkL ⟨B, S⟩ W0 _ σ _ (.ok [.dat d1, .dat d2, .dat d3] g) _
    intro vs3 H3 x3 i3 o3
    have R3 := R2'.exe x3 i3
    rw [List.append_nil]
    have al3 : AtL B.K (Om ⟨B, S⟩ _ σ) H3 vs3 [d1, d2, d3] := o3.sto R2' rfl
    refine ⟨B.i, Om ⟨B, S⟩ _ σ, [d1, d2, d3], g, al3.length, fun a z => .inl (R.fx a z), fun a z => R3.oms z, al3, i3, nl, g1, kr, fun na H4 k4 i4 f4 nl4 => ?_⟩
    have sm23 := exe_sm (A := ⟨B, S⟩) R2'.gh x3
    have sm34 := exe_sm (A := ⟨B, S⟩) i3 k4
    have R4 := R3.exe k4 i4
    have hx3 : H3 x = some (.ins C dx (putF "price" y2 (putF "words" y1 []))) := x3 x _ upd_same nf
    have hx4 : H4 x = some (.ins C dx (putF "price" y2 (putF "words" y1 []))) := k4 x _ hx3 nf
    refine ⟨_, s0, x, C, dx, _, rfl, hx4, hC, n3, lt_put (k := 1) (le_put (Nat.le_refl 0)) (by decide), ?_⟩
    have R4' := R4.cell (fs' := putF "rest" (.ref na.p) (putF "price" y2 (putF "words" y1 []))) sx nf hx4
    have sm4 : ∀ a u, Sm u → H4 a = some u → upd H4 x (.ins C dx (putF "rest" (.ref na.p) (putF "price" y2 (putF "words" y1 [])))) a = some u := fun a u hu q => by
      rw [upd_ne (fun z => by rw [z, hx4] at q; cases q; exact hu)]
      exact q
    have nax : ∀ q, (q = na.p ∨ q ∈ na.ps) → q ≠ x := fun q hq z => by
      have := f4 q hq
      rw [z, hx3] at this
      cases this
    have nl4' := nl4.go (H' := upd H4 x (.ins C dx (putF "rest" (.ref na.p) (putF "price" y2 (putF "words" y1 []))))) (fun a z => upd_ne (nax a z)) fun a xs q => sm4 a _ trivial q
    -- steps
    intro sd hsd
    have hx5 : upd (upd H4 x (.ins C dx (putF "rest" (.ref na.p) (putF "price" y2 (putF "words" y1 []))))) sd (.ext (dPhi sd oD0 [])) x = some (.ins C dx (putF "rest" (.ref na.p) (putF "price" y2 (putF "words" y1 [])))) := by
      rw [upd_ne (fun z => by rw [← z, upd_same] at hsd; cases hsd), upd_same]
    have xsd : x ≠ sd := fun z => by rw [← z, upd_same] at hsd; cases hsd
    refine ⟨_, s0, x, C, dx, _, rfl, hx5, hC, n4, lt_put (k := 2) (le_put (le_put (Nat.le_refl 0))) (by decide), ?_⟩
    -- many
    intro md hmd
    have xmd : x ≠ md := fun z => by rw [← z, upd_same] at hmd; cases hmd
    have sdmd : sd ≠ md := fun z => by rw [← z, upd_ne xsd.symm, upd_same] at hmd; cases hmd
    have hx6 := (show upd (upd (upd (upd H4 x (.ins C dx (putF "rest" (.ref na.p) (putF "price" y2 (putF "words" y1 []))))) sd (.ext (dPhi sd oD0 []))) x (.ins C dx (putF "steps" (.ref sd) (putF "rest" (.ref na.p) (putF "price" y2 (putF "words" y1 [])))))) md (.ext (dPhi md oD0 [])) x = some (.ins C dx (putF "steps" (.ref sd) (putF "rest" (.ref na.p) (putF "price" y2 (putF "words" y1 []))))) by
      rw [upd_ne xmd, upd_same])
    refine ⟨_, s0, x, C, dx, _, rfl, hx6, hC, n5, lt_put (k := 3) (le_put (le_put (le_put (Nat.le_refl 0)))) (by decide), ?_⟩
    rw [wy_put y1 y2 x sd md na]
    have k1 : ∀ b o, H b = some o → ¬ (B.fam B.i).F b → b ≠ x → H3 b = some o := fun b o q n nx => by
      refine x3 b o ?_ n
      rw [upd_ne nx]
      refine x2 b o ?_ n
      rw [upd_ne nx]
      exact x1 b o q n
    have hsd4 : H4 sd = none := by rw [upd_ne xsd.symm] at hsd; exact hsd
    have hmd4 : H4 md = none := by
      rw [upd_ne xmd.symm, upd_ne sdmd.symm, upd_ne xmd.symm] at hmd
      exact hmd
    have back : ∀ q, q ≠ x → H4 q = none → H q = none := fun q nq h4 => by
      cases z : H q with
      | none => rfl
      | some o =>
        by_cases f : (B.fam B.i).F q
        · exact absurd h4 ((B.fam B.i).trk _ _ _ i4 f)
        · rw [k4 q o (k1 q o z f nq) f] at h4
          cases h4
    have back3 : ∀ q, q ≠ x → H3 q = none → H q = none := fun q nq h3 => by
      cases z : H q with
      | none => rfl
      | some o =>
        by_cases f : (B.fam B.i).F q
        · exact absurd h3 ((B.fam B.i).trk _ _ _ i3 f)
        · rw [k1 q o z f nq] at h3
          cases h3
    have fr : ∀ b, (⟨x, sd, md, na⟩ : WA).fp b → b = x ∨ H b = none := fun b z => by
      rcases z with z | z | z | z
      · exact .inl z
      · exact .inr (by rw [z]; exact back sd xsd.symm hsd4)
      · exact .inr (by rw [z]; exact back md xmd.symm hmd4)
      · exact .inr (back3 b (nax b z) (f4 b z))
    generalize hf : upd (upd (upd (upd (upd H4 x (.ins C dx (putF "rest" (.ref na.p) (putF "price" y2 (putF "words" y1 []))))) sd (.ext (dPhi sd oD0 []))) x (.ins C dx (putF "steps" (.ref sd) (putF "rest" (.ref na.p) (putF "price" y2 (putF "words" y1 [])))))) md (.ext (dPhi md oD0 []))) x (.ins C dx (wyF y1 y2 ⟨x, sd, md, na⟩)) = Hf
    have fk : ∀ b, b ≠ x → b ≠ sd → b ≠ md → Hf b = H4 b := fun b q1 q2 q3 => by
      rw [← hf, upd_ne q1, upd_ne q3, upd_ne q1, upd_ne q2, upd_ne q1]
    have fx : Hf x = some (.ins C dx (wyF y1 y2 ⟨x, sd, md, na⟩)) := by rw [← hf, upd_same]
    have fsd : Hf sd = some (.ext (dPhi sd oD0 [])) := by rw [← hf, upd_ne xsd.symm, upd_ne sdmd, upd_ne xsd.symm, upd_same]
    have fmd : Hf md = some (.ext (dPhi md oD0 [])) := by rw [← hf, upd_ne xmd.symm, upd_same]
    have ne4 : ∀ b o, H4 b = some o → b ≠ x → Hf b = some o := fun b o q nx => by
      rw [fk b nx (ne_of_none q hsd4) (ne_of_none q hmd4)]
      exact q
    have sm4f : ∀ a u, Sm u → H4 a = some u → Hf a = some u := fun a u hu q => ne4 a u q fun z => by
      rw [z, hx4] at q
      cases q
      exact hu
    have kf : ∀ b o, H b = some o → ¬ (B.fam B.i).F b → b ≠ x → Hf b = some o := fun b o q n nx => ne4 b o (k4 b o (k1 b o q n nx) n) nx
    have igf : (B.fam B.i).I g1 Hf := (B.fam B.i).stab _ _ _ i4 (fun a f => by
      have nn := (B.fam B.i).trk _ _ _ i4 f
      exact fk a (fun z => nf (by rw [← z]; exact f)) (fun z => nn (by rw [z]; exact hsd4)) fun z => nn (by rw [z]; exact hmd4)) sm4f
    have emp : ∀ p, Hf p = some (.ext (dPhi p oD0 [])) → DiS B.K F0 Hf p true [] [] := fun p q => DiS.tt.mpr ⟨oD0, [], q, rfl, .nil, (by intro x hx; cases hx), (by intro x hx; cases hx)⟩
    have wy : WyAt B.K C ⟨x, sd, md, na⟩ ⟨x, .tup [d1, d2], d3, nl, [], [], [], []⟩ Hf := ⟨rfl, ⟨dx, y1, y2, fx, ((((p1.go sm1).go sm12).go sm2).go fun a u hu q => sm4f a u hu (sm34 a u hu (sm23 a u hu q))), ((p2.go sm2).go fun a u hu q => sm4f a u hu (sm34 a u hu (sm23 a u hu q)))⟩,
      nl4.go (fun a z => by
        obtain ⟨ys, q⟩ := nl4.lst z
        rw [q]
        exact ne4 a _ q (nax a z)) (fun a xs q => sm4f a _ trivial q), ⟨[], emp sd fsd, .nil⟩, ⟨[], emp md fmd, .nil⟩, sdmd⟩
    have nfp : ∀ a, (⟨x, sd, md, na⟩ : WA).fp a → ¬ (B.fam B.i).F a := fun a z f => (fr a z).elim (fun q => nf (by rw [← q]; exact f)) fun q => (B.fam B.i).trk _ _ _ R.gh f q
    have ng : noGh (Sl.dat (.ref x) :: .dat d1 :: .dat d2 :: .dat d3 :: List.replicate m .un) = true := by
      have : ∀ m, noGh (List.replicate m Sl.un) = true := fun m => by
        induction m with
        | zero => rfl
        | succ m ih => exact ih
      exact this m
    have RF : Rep ⟨wyB B C ⟨x, sd, md, na⟩, fun a => S a ∨ (⟨x, sd, md, na⟩ : WA).fp a⟩ (.dat (.ref x) :: .dat d1 :: .dat d2 :: .dat d3 :: List.replicate m .un) (g1, ⟨x, .tup [d1, d2], d3, nl, [], [], [], []⟩) σ Hf := by
      refine R.growW (fun b o q n => kf b o q (fun z => n (R.fx b z)) fun z => n (by rw [z]; exact sx)) (fun a z => .inl z) (fun a z => z.elim .inl fun z => (fr a z).elim (fun q => .inl (by rw [q]; exact sx)) .inr) (fun a z => ?_) ⟨igf, wy, nfp⟩ (fun a z => .inr z) ng
      rcases z with z | z
      · by_cases f : (B.fam B.i).F a
        · exact (B.fam B.i).stk _ _ _ igf f
        · by_cases q : a = x
          · rw [q]
            exact .of fx trivial
          · exact (R.xs a z).same fun u hu => kf a u hu f q
      · exact wy.stk z
    have own : ∀ (τ : L2.St) b, ¬ OwnA (Sl.dat (.ref x) :: .dat d1 :: .dat d2 :: .dat d3 :: List.replicate m .un) τ b := fun τ b z => own_start (ds := [.ref x, d1, d2, d3]) z
    refine ⟨⟨x, sd, md, na⟩, _, _, _, RF, ?_⟩
    cases kL : L (.dat (.ref x) :: .dat d1 :: .dat d2 :: .dat d3 :: List.replicate m .un) (g1, ⟨x, .tup [d1, d2], d3, nl, [], [], [], []⟩) with
    | no => rw [kL] at hM; cases hM
    | ex y g2 => rw [kL] at hM; cases hM
    | ok fl g2 =>
      rw [kL] at hM
      cases fl with
      | rt r => cases hM
      | bk e => cases hM
      | ct e => cases hM
      | nx e' =>
        cases hM
        intro σ' H' R' s'
        obtain ⟨ig', wy', _⟩ := R'.gh
        refine hQ ⟨x, sd, md, na⟩ σ' H' rfl (fun b o q n nx => s'.keep b o (kf b o q n nx) fun z => ?_) ig' wy' fr
        rcases z with (z | z) | z
        · exact n z
        · rcases fr b z with z | z
          · exact nx z
          · rw [z] at q
            cases q
        · exact own σ b z
  · rw [if_neg hld] at hM
    cases hM
end
end PB
set_option Elab.async false
set_option linter.all false
set_option maxRecDepth 100000
set_option maxHeartbeats 4000000
namespace PB
open PySem PySem.Spec PyProof.Rows L2
variable [Kts]
section
variable {γ ι : Type} {P : Program} {w : World} {K : Frag} {mg : Str → Option Value} {base : Heap} {Tx : XT} {xa : Addr × Value × Option Addr} {fam : ι → Gho γ} {C : Addr} {Fr : MF γ} {L : MS (GW γ)}
theorem fn_init {x qual : Str} {st : Stmt} {f : Addr} {fd : FuncData} {N ps : List Str} {k : Nat} {dvs : List V} (m : Nat) (F : FunD K x qual (defArgs st) (defBody st) (defScope st) dvs [] f fd) (Sc : FnScope N ps (defScope st)) (ha : N.length = 4 + m) (hb' : ps.length = 4)
    (hb : ∀ (i : ι) (cdv : Value) (A : Around) (outer : List PySem.Env) (s : Shared) (H : Hp) (E : XK), Room k (A.deeper (envOfC qual (defScope st) s.heap.objs.size f cdv)) →
      PSs (cxOf CX0 P w K mg base N qual (defScope st) f cdv A outer s H E).nox (defBody st) (RInit ⟨K, Tx, fam, i, xa⟩ C Fr L m)) :
    FnOk P w K mg base CX0 (k + 1) f fd ps (spWyI K C fam 3 (mkWy Fr L m)) := by
  refine F.ok Sc (fun vs H Q E h => ?_) (fun cdv A outer s H vs Q E hr h => ?_)
  · obtain ⟨i, S, ds, g, x, dx, ws, rfl, hl, _⟩ := h
    rw [List.length_cons, hl, hb']
  · obtain ⟨i, S, ds, g, x, dx, ws, rfl, hl, fx, xt, al, gh, hx, nx, s0, g', hM, hq⟩ := h
    have hdl : ds.length = 3 := by rw [← al.length]; exact hl
    obtain ⟨d1, d2, d3, rfl⟩ : ∃ d1 d2 d3, ds = [d1, d2, d3] := by
      match ds, hdl with
      | [d1, d2, d3], _ => exact ⟨d1, d2, d3, rfl⟩
    have R := start_rep (A := ⟨⟨K, Tx, fam, i, xa⟩, fun a => S a ∨ a = x⟩) (N := N) (vs := .ref x :: ws) (ds := [.ref x, d1, d2, d3]) (g := g) (H := H) (fun a z => .inl (fx a z)) (fun a z => z.elim (xt a) fun z => by
      rw [z]
      exact .of hx trivial) (.cons (.ref x) al) gh (by rw [List.length_cons, hl, ha]; omega)
    refine ⟨_, (hb i cdv A outer s H E hr).nox, fun a => S a ∨ a = x, g, d1, d2, d3, x, dx, s0, g', ?_, hx, .inr rfl, fun z => nx (fx x z), hM, fun w σ' H' e1 kp ig wy fr => hq w H' e1 kp ig wy fr⟩
    have e2 : N.length - [D.ref x, d1, d2, d3].length = m := by
      rw [ha]
      show 4 + m - 4 = m
      omega
    rw [e2] at R
    exact R
end
section
variable {γ ι : Type} {B : Bs γ ι} {W : WX} {X : Cx} {C : Addr} {S : Addr → Prop} {e : Env} {σ : L2.St} {g1 g2 : γ} {M : List D → Nat → γ → Rs γ WS}
theorem make_at {Q' : V → Hp → Prop} {x dx : Addr} {vs : List V} {ds : List D} {s : WS} {H1 : Hp} (R : Rep ⟨B, S⟩ e g1 σ H1) (al : AtL B.K (Om ⟨B, S⟩ e σ) H1 vs ds) (hl : vs.length = 3) (hx : H1 x = none) (hd : H1 dx = none) (ne : dx ≠ x) (hM : M ds x g1 = .ok s g2)
    (k : ∀ (w : WA) H', w.a = x → Rep ⟨B, fun a => S a ∨ w.fp a⟩ e g2 σ H' → ExE ⟨B, S⟩ H1 H' → (B.fam B.i).I g2 H' → WyAt B.K C w s H' → (∀ b, w.fp b → H1 b = none) → Q' (.ref x) H') :
    spWyI B.K C B.fam 3 M (.ref x :: (vs ++ [])) (upd (upd H1 dx (.own x)) x (.ins C dx [])) (fun v H2 => v = .non ∧ Q' (.ref x) H2) E0 := by
  rw [List.append_nil]
  have kH : ∀ b o, H1 b = some o → upd (upd H1 dx (.own x)) x (.ins C dx []) b = some o := fun b o q => by
    rw [upd_ne (ne_of_none q hx), upd_ne (ne_of_none q hd)]
    exact q
  have nx : ¬ Om ⟨B, S⟩ e σ x := fun z => R.omt z hx
  refine ⟨B.i, Om ⟨B, S⟩ e σ, ds, g1, x, dx, vs, rfl, hl, fun a z => .inl (R.fx a z), fun a z => (R.oms z).same fun u q => kH a u q, al.go fun a o q n => ⟨kH a o q, fun z => z.elim n fun z => ne_of_none q hx z⟩, ?_, upd_same, nx, s, g2, hM, fun w H' ea kp ig wy fr => ⟨rfl, ?_⟩⟩
  · refine (B.fam B.i).stab _ _ _ R.gh (fun a z => ?_) fun a u _ q => kH a u q
    have := (B.fam B.i).trk _ _ _ R.gh z
    cases q : H1 a with
    | none => exact absurd q this
    | some o => exact kH a o q
  · have fr1 : ∀ b, w.fp b → H1 b = none := fun b z => by
      rcases fr b z with z | z
      · rw [z]
        exact hx
      · cases q : H1 b with
        | none => rfl
        | some o =>
          rw [kH b o q] at z
          cases z
    have xe : ExE ⟨B, S⟩ H1 H' := fun b o q n => kp b o (kH b o q) n (ne_of_none q hx)
    refine k w H' ea (R.more (fun b o q n => xe b o q fun z => n (R.fx b z)) (fun a z => .inl z) (fun a z => z.elim .inl fun z => .inr (fr1 a z)) (fun a z => ?_) ig) xe ig wy fr1
    rcases z with z | z
    · by_cases f : (B.fam B.i).F a
      · exact (B.fam B.i).stk _ _ _ ig f
      · exact (R.xs a z).same fun u q => xe a u q f
    · exact wy.stk z
/-- the thing stands through what else is done -/
theorem WyAt.exe {w : WA} {s : WS} {H1 H2 : Hp} (h : WyAt B.K C w s H1) (i : (B.fam B.i).I g1 H1) (nf : ∀ a, w.fp a → ¬ (B.fam B.i).F a) (x : ExE ⟨B, S⟩ H1 H2) : WyAt B.K C w s H2 := h.go (fun a z => by
  obtain ⟨_, u, e, _⟩ := h.stk z
  rw [e]
  exact x a u e (nf a z)) (exe_sm (A := ⟨B, S⟩) i x)
end
section
variable {γ ι : Type} {B : Bs γ ι} {W : WX} {X : Cx} {C : Addr} {M : List D → Nat → γ → Rs γ WS} {pos p0 pz apos : Pos} {ke a1 b1 : Expr} {as bs : List Expr} {mr ma : MA γ} {mk : ME γ}
/-- C(..).many_on[k] -/
theorem pb_wy1 {k : Nat} {f : Addr} {fd : FuncData} {ps : List Str} {x : Str} (hK : B.K = X.K) (hu : X.A.units + 1 < cLine) (hC : Cls B.K C) (hn : NoAttr B.K C "many_on") (hM : Mk X.K C f) (G : FnOk X.prog X.w X.K X.mg X.base CX0 k f fd ps (spWyI B.K C B.fam 3 M)) (hr : Room (k + 1) X.A) (hg : Gl X x) (hm : X.mg x = some (.ref C)) (hb : Binds X.K fd ps [])
    (ha : PA X (a1 :: as) (RA B W mr)) (hl : ∀ e g rs g', mr e g = .ok rs g' → rs.length = 3) (hk : PE X ke (RE B W mk)) (hs : NoSl ke) (hat : attributeBase (.Call (.Name x pz) (a1 :: as) [] apos) "many_on" X.env (eval (.Call (.Name x pz) (a1 :: as) [] apos) X.env) = eval (.Call (.Name x pz) (a1 :: as) [] apos) X.env)
    (hdb : (x == ("__debug__" : Str)) = false := by decide) (he : starEach (a1 :: as) X.env = (false, eval a1 X.env) :: starEach as X.env := by rfl) (hpl : (backTo apos (starEach as X.env)).any (·.1) = false := by rfl) :
    PE X (.Subscript (.Attribute (.Call (.Name x pz) (a1 :: as) [] apos) "many_on" p0) ke pos) (RE B W (mWy1 M mr mk)) :=
  pe_w (pe_dgetG hu (pe_fld (pe_make hM G hr hg hm hb .nil pass0 ha hdb he hpl) hat) hk hs) fun σ H Q ⟨S, e, g, R, h⟩ => by
    refine ⟨S, e, g, R, ?_⟩
    unfold mWy1 at h
    cases q : mr e g with
    | no =>
      rw [q] at h
      exact h.elim
    | ex y g2 =>
      rw [q] at h
      exact h
    | ok rs g1 =>
      rw [q] at h
      have h : RK VOk ⟨B, S⟩ W e σ H (match stoL rs with
        | some ds => allA (kWy1 M mk ds e g1)
        | none => .no) Q := h
      intro vs H1 x1 i1 o1
      intro xx dx hx hdx ne
      have R1 := R.exe x1 i1
      cases ks : stoL rs with
      | none =>
        rw [ks] at h
        exact h.elim
      | some ds =>
      rw [ks] at h
      have al := o1.sto R ks
      have hvl : vs.length = 3 := by rw [o1.length, hl _ _ _ _ q]
      dsimp only at h
      have hx' := allA_at (r := kWy1 M mk ds e g1) (fun z => by
        rw [z] at h
        exact h) xx
      rw [← hx'] at h
      unfold kWy1 at h
      cases hm1 : M ds xx g1 with
      | no =>
        rw [hm1] at h
        exact h.elim
      | ex y g2 =>
        rw [hm1] at h
        exact h.elim
      | ok s g2 =>
      rw [hm1] at h
      refine make_at (C := C) (Q' := fun x H1 => ∃ a C dx fs v, x = V.ref a ∧ H1 a = some (HO.ins C dx fs) ∧ Cls X.K C ∧ NoAttr X.K C "many_on" ∧ fs.lookup ("many_on" : Str) = some v ∧ RE B W mk σ H1 fun y H2 => ∃ a' v', v = V.ref a' ∧ GetD X.K H2 a' y (some v') ∧ Q v' H2) R1 al hvl hx hdx ne hm1 fun w H' ea R2 x2 i2 wy fr => ?_
      obtain ⟨dx1, vw, vp, e1, _⟩ := wy.ins
      have nf : ∀ a, w.fp a → ¬ (B.fam B.i).F a := fun a z f => (B.fam B.i).trk _ _ _ i1 f (fr a z)
      rw [ea] at e1
      have x02 := x1.trans x2
      refine ⟨xx, C, dx1, _, .ref w.md, rfl, e1, hK ▸ hC, hK ▸ hn, lk_many _ _ _, _, e, g2, R2, ?_⟩
      have h : RK VOk ⟨B, S⟩ W e σ H ((mk e g2).bind fun y g3 => match y with
          | .dat d => if keyB true d = true then ofO ((dGet s.qk s.qv d).map .dat) g3 else .no
          | _ => .no) Q := h
      cases q3 : mk e g2 with
      | no =>
        rw [q3] at h
        exact h
      | ex y g3 =>
        rw [q3] at h
        exact fun c od H3 x3 i3 r3 => h c od H3 (x02.trans x3) i3 r3
      | ok y g3 =>
        rw [q3] at h
        intro vy H3 x3 i3 o3
        rw [Rs.bind_ok] at h
        cases y with
        | dat d =>
          dsimp only at h
          by_cases hkb : keyB true d = true
          · rw [if_pos hkb] at h
            obtain ⟨z, ez, qz⟩ := h.ofO
            obtain ⟨r, er, rfl⟩ := Option.map_eq_some_iff.mp ez
            have wy3 := wy.exe i2 nf x3
            obtain ⟨us, di, pa⟩ := wy3.mn
            have ka := (key_at (t := true) (show At B.K _ H3 vy d from o3) hkb).tp (O' := F0) fun b ys q _ => ⟨q, id⟩
            obtain ⟨v, gd, pv⟩ := dget_atP di pa ka er
            have R3 := R.exe (x02.trans x3) i3
            rw [← hK]
            exact ⟨w.md, v, rfl, gd, qz v H3 (x02.trans x3) i3 (pv.at fun a z => R3.oms z)⟩
          · rw [if_neg hkb] at h
            exact h.elim
        | _ => exact h.elim
end
end PB
set_option Elab.async false
set_option linter.all false
set_option maxRecDepth 100000
set_option maxHeartbeats 4000000
namespace PB
open PySem PySem.Spec PyProof.Rows L2
variable [Kts]
def clsB (K : Frag) (C : Addr) : Bool := PySem.W.plainGet K C Str.empty && (PySem.W.hasDictIn K C && (PySem.W.plainOver K C && decide (PySem.W.findIn K (.ref C) "__setattr__" = some (some (.builtin "object.__setattr__")))))
theorem clsB_ok {K : Frag} {C : Addr} (h : clsB K C = true) : Cls K C := by
  unfold clsB at h
  simp only [Bool.and_eq_true, decide_eq_true_eq] at h
  exact ⟨h.1, h.2.1, h.2.2.1, h.2.2.2⟩
def methB (K : Frag) (C : Addr) (m : Str) : Bool := decide (PySem.W.findIn K (.ref C) m = some (some (.ref (He.ma K C m)))) && (PySem.W.isFn K (.ref (He.ma K C m)) && PySem.W.keepIn K (.ref (He.ma K C m)))
theorem methB_ok {K : Frag} {C : Addr} {m : Str} (h : methB K C m = true) : Meth K C m (He.ma K C m) := by
  unfold methB at h
  simp only [Bool.and_eq_true, decide_eq_true_eq] at h
  exact ⟨h.1, h.2.1, h.2.2⟩
structure ThC (K : Frag) (mg : Str → Option Value) (x : Str) (C : Addr) (fs ms : List Str) : Prop where
  g : mg x = some (.ref C)
  c : Cls K C
  no : ∀ f ∈ fs, NoAttr K C f
  me : ∀ m ∈ ms, Meth K C m (He.ma K C m)
  make : Mk K C (He.ma K C "__init__")
def thB (K : Frag) (x : Str) (fs ms : List Str) : Bool := clsAt K x && (clsB K (He.ga K x) && (fs.all (fun f => decide (PySem.W.findIn K (.ref (He.ga K x)) f = some none)) && (ms.all (methB K (He.ga K x)) && (methB K (He.ga K x) "__init__" && (PySem.W.makesIn K (He.ga K x) && PySem.W.keepIn K (.ref (He.ga K x)))))))
theorem thB_ok {K : Frag} {h : Heap} {mg : Str → Option Value} (X : K.In h) (G : h.Ns mainGlobals mg) {x : Str} {fs ms : List Str} (c : thB K x fs ms = true) : ThC K mg x (He.ga K x) fs ms := by
  unfold thB at c
  simp only [Bool.and_eq_true] at c
  obtain ⟨c1, c2, c3, c4, c5, c6, c7⟩ := c
  have i := methB_ok c5
  exact ⟨clsAt_ok X G c1, clsB_ok c2, fun f hf => show PySem.W.findIn K (.ref (He.ga K x)) f = some none from of_decide_eq_true (List.all_eq_true.mp c3 f hf), fun m hm => methB_ok (List.all_eq_true.mp c4 m hm), ⟨c6, i.at_, i.fn, c7⟩⟩
/-- a method as callers know it -/
structure MCal (K : Frag) (x qual : Str) (st : Stmt) (ps : List Str) (f : Addr) (fd : FuncData) : Prop where
  F : FunD K x qual (defArgs st) (defBody st) (defScope st) [] [] f fd
  b : Binds K fd ps []
section
variable {γ ι : Type} {K : Frag} {C : Addr} {fam : ι → Gho γ} {i : ι × WA} {m : Str}
theorem wyI (hno : (wyF (.int 0) (.int 0) ⟨0, 0, 0, ⟨0, []⟩⟩).lookup m = none) : ∀ (g : GW γ) (H : Hp) (b : Nat), (wyG K C fam i).I g H → slW g b = true → ∃ dx fs, H b = some (.ins C dx fs) ∧ fs.lookup m = none := fun g H b ig hb => by
  obtain ⟨_, wy, _⟩ := ig
  obtain ⟨dx, vw, vp, e, _⟩ := wy.ins
  have eb : b = g.2.a := by
    unfold slW at hb
    simpa using hb
  rw [eb, wy.ea]
  refine ⟨dx, _, e, ?_⟩
  unfold wyF at hno ⊢
  simp only [List.lookup] at hno ⊢
  split at hno <;> first | cases hno | skip
  split at hno <;> first | cases hno | skip
  split at hno <;> first | cases hno | skip
  split at hno <;> first | cases hno | skip
  split at hno <;> first | cases hno | skip
  simp only [*]
end
end PB
set_option Elab.async false
set_option linter.all false
set_option maxRecDepth 100000
set_option maxHeartbeats 4000000
namespace PB
open PySem PySem.Spec PyProof.Rows L2
variable [Kts]
section
variable {γ ι : Type} {B : Bs γ ι} {W : WX} {X : Cx} {pos px : Pos} {a ke : Expr} {ma mk : ME γ}
/-- what a value that is a dict holds -/
theorem vok_dct {A : Act γ ι} {e : Env} {σ : L2.St} {H0 H : Hp} {x : Rv} {v : V} {t : Bool} {ks vs : List D} (o : VOk A e σ H0 H x v) (h : dctRv x = some (t, ks, vs)) : ∃ p us, v = .ref p ∧ DiS A.K (Om A e σ) H p t ks us ∧ AtL A.K (Om A e σ) H us vs := by
  cases x with
  | dat d =>
    cases d with
    | dct t' ks' vs' =>
      cases h
      have o : At A.K (Om A e σ) H v (.dct t ks vs) := o
      cases o with
      | dct h1 h2 h3 => exact ⟨_, _, rfl, h1, h3⟩
    | _ => cases h
  | odt t' ks' vs' =>
    cases h
    obtain ⟨p, us, e1, _, k, al⟩ := o
    exact ⟨p, us, e1, k.less fun a z => .inl z, al.less fun a z => .inl z⟩
  | bdt t' ks' vs' =>
    cases h
    obtain ⟨p, us, e1, _, k, al⟩ := o
    exact ⟨p, us, e1, k, al⟩
  | _ => cases h
theorem pb_dgetX (hK : B.K = X.K) (hu : X.A.units + 1 < cLine) (ha : PE X a (RE B W ma)) (hk : PE X ke (RE B W mk)) (hs : NoSl ke) : PE X (.Subscript a ke pos) (RE B W (mDGetX ma mk)) := pe_w (pe_dgetG hu ha hk hs) fun σ H Q ⟨S, e, g, R, h⟩ => by
  refine ⟨S, e, g, R, RK.bind (.refl H) h fun x g1 vx H1 _ x1 i1 o1 h1 => ?_⟩
  cases hx : dctRv x with
  | none =>
    rw [hx] at h1
    exact h1.elim
  | some z =>
    obtain ⟨t, ks, vs⟩ := z
    rw [hx] at h1
    refine ⟨S, e, g1, R.exe x1 i1, RK.bind x1 h1 fun y g2 vy H2 x12 x2 i2 o2 h2 => ?_⟩
    obtain ⟨z, ez, qz⟩ := h2.ofO
    obtain ⟨d, r, rfl, hkb, ef, rfl⟩ := onK_some ez
    obtain ⟨p, us, rfl, di, al⟩ := vok_dct (o1.step R x12) hx
    have := dget_at di al (key_at (show At B.K _ H2 vy d from o2) hkb)
    have ef : dGet ks vs d = some r := ef
    rw [ef] at this
    obtain ⟨v, dg, av⟩ := this
    rw [← hK]
    exact ⟨p, v, rfl, dg, qz v H2 x2 i2 av⟩
theorem st_self : ∀ (e : Env) (i : Nat) {s : Sl}, gt e i = s → s ≠ .un → st e i s = e
  | [], _, _, h, n => absurd h.symm n
  | s :: r, 0, _, h, n => by
    have h : s = _ := h
    rw [← h]
    rfl
  | s :: r, i + 1, _, h, n => by
    show s :: st r i _ = _
    rw [st_self r i h n]
theorem st_st : ∀ (e : Env) (i : Nat) (s t : Sl), st (st e i s) i t = st e i t
  | [], _, _, _ => rfl
  | _ :: _, 0, _, _ => rfl
  | s :: r, i + 1, a, b => by
    show s :: st (st r i a) i b = s :: st r i b
    rw [st_st r i a b]
theorem AtL.strs {K : Frag} {O : Addr → Prop} {H : Hp} {p : Addr} {xs : List V} {ds : List D} {ss : List (List Nat)} {sep : List Nat} {X : Cx} {Q : VK} (hp : H p = some (.lst xs)) (ap : AtL K O H xs ds) (ks : PB.dStrs ds = some ss) (hl : (ss.map List.length).sum + sep.length * ss.length ≤ SZ) (h2 : sep.all (· < 0x110000) = true)
    (q : ∀ O', At K O' H (.str (mkS (PB.joinL sep ss))) (.str (PB.joinL sep ss)) → Q (.str (mkS (PB.joinL sep ss))) H) : ∃ a p', ∃ ys : List Str, V.str (mkS sep) = .str a ∧ [V.ref p] = [V.ref p'] ∧ (SqL X.K H p' (ys.map V.str) ∨ SqT X.K H p' (ys.map V.str)) ∧ (ys.map (fun z => z.length)).sum + ys.length * a.length ≤ 16777216 ∧ Q (.str (Txt.join a ys)) H := by
  obtain ⟨e1, hs'⟩ := ap.dStrs ks
  subst e1
  have e2 : ss.map (fun l => V.str (mkS l)) = (ss.map mkS).map V.str := by simp
  rw [e2] at hp
  refine ⟨mkS sep, p, ss.map mkS, rfl, rfl, .inl (SqL.of hp), ?_, ?_⟩
  · rw [List.map_map, List.length_map, mkS_len]
    have e3 : ((fun z : Str => z.length) ∘ mkS) = (fun l : List Nat => l.length) := by
      funext l
      exact mkS_len l
    rw [e3, Nat.mul_comm ss.length]
    exact hl
  · have e4 : Txt.join (mkS sep) (ss.map mkS) = mkS (PB.joinL sep ss) := by
      apply TL.ext_tl
      rw [TL.join_eq, TL.tl_join, joinL_eq]
      have e5 : (ss.map mkS).map TL.tl = ss := by
        rw [List.map_map]
        have e6 : TL.tl ∘ mkS = id := by
          funext l
          exact mkS_list l
        rw [e6, List.map_id]
      rw [e5]
      rfl
    rw [e4]
    exact q (fun _ => False) (.str _ (Nat.le_trans (joinL_len sep ss) hl) (joinL_all h2 ss fun x hx => (hs' x hx).2))
end
end PB
namespace PB
open PySem PySem.Spec PyProof.Rows L2
variable [Kts]
section
variable {γ ι : Type} {B : Bs γ ι} {W : WX} {X : Cx}
abbrev tPopE (i : Nat) (tk : TA) : TE := tBM X.K "list" rPopAt (tVar i) tk
theorem pop_go {mi : MI γ} {g : TG} {tgm : MG} {is vs : List Nat} {mk : MA γ} {i : Nat} (ts : TgS B g tgm is) (hsub : ∀ i ∈ is, i ∈ vs) (hiv : i ∉ vs) {σ : L2.St} {H : Hp} {Q : VK} {S : Addr → Prop} {e : Env} {gm g1 gN : γ} {ds xs0 acc0 : List D} (R : Rep ⟨B, S⟩ e gm σ H) (hx : gt e i = .own xs0) (hm : mi e gm = .ok ds g1) (h : popL tgm mk i (wp e vs) ds [] xs0 g1 = .ok acc0 gN)
    (hq : ∀ (D : Addr) (av : List V) (H' : Hp), (∀ b o, H b = some o → ¬ Mu ⟨B, S⟩ e σ b → H' b = some o) → (B.fam B.i).I gN H' → H' D = some (.lst av) → AtL B.K (fun a => Om ⟨B, S⟩ e σ a ∨ a = D) H' av acc0 → Q (.ref D) H') : tLc (RI B W mi) g (RT B W0 mYes) (tPopE (X := X) i (RA B W0 mk)) vs σ H Q := by
  refine ⟨S, e, gm, R, ?_⟩
  rw [hm]
  intro J H1 x1 i1 it Dp hD
  have R1 := R.exe x1 i1
  have sl0 := R.sl i
  rw [hx] at sl0
  obtain ⟨p, ys0, ep, hp0, al0⟩ := sl0
  have op : OwnA e σ p := .of hx rfl ep
  have hp1 : H1 p = some (.lst ys0) := x1 p _ hp0 (R.notF op)
  have pD : p ≠ Dp := ne_of_none hp1 hD
  have nF : ∀ a, (B.fam B.i).F a → H1 a ≠ none := fun a z => (B.fam B.i).trk _ _ _ i1 z
  have DF : ¬ (B.fam B.i).F Dp := fun z => nF Dp z hD
  have gw : gt (wp e vs) i = .own xs0 := by rw [gt_wp, if_neg hiv]; exact hx
  have sw : (wipe σ vs)[i]? = some (some (.ref p)) := by rw [wipe_get, if_neg hiv]; exact ep
  refine ⟨fun j m H2 => ∃ gi acc av xs, Rep ⟨B, Bl ⟨B, S⟩ e σ vs Dp⟩ (st (wp e vs) i (.own xs)) gi (wipe σ vs) H2 ∧ (∀ b o, H1 b = some o → ¬ Mu ⟨B, S⟩ e σ b → H2 b = some o) ∧ H2 Dp = some (.lst av) ∧ AtL B.K (fun a => Om ⟨B, S⟩ e σ a ∨ a = Dp) H2 av acc ∧ m = ds.length - j ∧ j ≤ ds.length ∧
      popL tgm mk i (wp e vs) (ds.drop j) acc xs gi = .ok acc0 gN,
    ⟨ds.length, g1, [], [], xs0, by rw [st_self _ _ gw (by intro z; cases z)]; exact R1.blk vs hD [], fun b o q _ => by rw [upd_ne (ne_of_none q hD)]; exact q, upd_same, .nil, by simp, Nat.zero_le _, h⟩, ?_⟩
  rintro j m H2 ⟨gi, acc, av, xs, Ri, kp, hD2, aacc, rfl, hi, hr⟩
  obtain ⟨stop, go⟩ := it H2 kp
  have hil : i < (wp e vs).length := by
    by_cases z : i < (wp e vs).length
    · exact z
    · rw [gt_out (by omega)] at gw
      cases gw
  have gxs : ∀ zs, gt (st (wp e vs) i (.own zs)) i = .own zs := fun zs => by rw [gt_st, if_pos ⟨rfl, hil⟩]
  have ownE : ∀ zs zs' a, OwnA (st (wp e vs) i (.own zs)) (wipe σ vs) a → OwnA (st (wp e vs) i (.own zs')) (wipe σ vs) a := fun zs zs' a ⟨k, h1, h2⟩ => ⟨k, by
    rw [gt_st] at h1 ⊢
    by_cases c : k = i ∧ i < (wp e vs).length
    · rw [if_pos c]
      rfl
    · rw [if_neg c] at h1 ⊢
      exact h1, h2⟩
  have own0 : ∀ zs a, OwnA (st (wp e vs) i (.own zs)) (wipe σ vs) a ↔ OwnA (wp e vs) (wipe σ vs) a := fun zs a => ⟨fun z => by
    have := ownE zs xs0 a z
    rw [st_self _ _ gw (by intro z; cases z)] at this
    exact this, fun z => by
    refine ownE xs0 zs a ?_
    rw [st_self _ _ gw (by intro z; cases z)]
    exact z⟩
  have omE : ∀ zs a, Om ⟨B, Bl ⟨B, S⟩ e σ vs Dp⟩ (st (wp e vs) i (.own zs)) (wipe σ vs) a ↔ (Om ⟨B, S⟩ e σ a ∨ a = Dp) := fun zs a => ⟨fun z => bl_om.mp (z.imp_right (own0 zs a).mp), fun z => (bl_om.mpr z).imp_right (own0 zs a).mpr⟩
  by_cases hlt : j < ds.length
  · obtain ⟨d, hd⟩ : ∃ d, ds[j]? = some d := ⟨ds[j], by simp [hlt]⟩
    obtain ⟨gJ, gy⟩ := go j d hd
    rw [drop_at hd] at hr
    unfold popL at hr
    refine .inr ⟨gJ, fun H' => ∃ m', m' < ds.length - j ∧ ∃ gi acc av xs, Rep ⟨B, Bl ⟨B, S⟩ e σ vs Dp⟩ (st (wp e vs) i (.own xs)) gi (wipe σ vs) H' ∧ (∀ b o, H1 b = some o → ¬ Mu ⟨B, S⟩ e σ b → H' b = some o) ∧ H' Dp = some (.lst av) ∧ AtL B.K (fun a => Om ⟨B, S⟩ e σ a ∨ a = Dp) H' av acc ∧ m' = ds.length - (j + 1) ∧ j + 1 ≤ ds.length ∧
      popL tgm mk i (wp e vs) (ds.drop (j + 1)) acc xs gi = .ok acc0 gN, fun H' q => q, fun x Hy hy => ?_⟩
    obtain ⟨nw, at1⟩ := gy x Hy hy
    have a1 := at1 (Om ⟨B, Bl ⟨B, S⟩ e σ vs Dp⟩ (st (wp e vs) i (.own xs)) (wipe σ vs)) (fun a z => ((omE xs a).mp z).elim .inl fun z => .inr (by rw [z]; exact hD)) (fun a z => Ri.omt z)
    have Ry := Ri.exe nw.exe (nw.gh Ri.gh)
    cases kt : tgm d (st (wp e vs) i (.own xs)) with
    | none =>
      rw [kt] at hr
      cases hr
    | some e2 =>
      rw [kt] at hr
      dsimp only at hr
      refine ts _ _ gi (wipe σ vs) Hy x d e2 _ Ry a1 kt fun σ2 R2 s2 wl kj => ?_
      refine ⟨wipe_eq (by rw [wl, wipe_length]) hsub fun k hk => (kj k hk).2, ?_⟩
      refine ⟨_, e2, gi, R2, ?_⟩
      intro b' H3 x3 i3 eb
      cases eb
      have R3 := R2.exe x3 i3
      rw [if_pos rfl]
      have hni : i ∉ is := fun z => hiv (hsub i z)
      obtain ⟨ge2, se2⟩ := kj i hni
      rw [gxs] at ge2
      have se2' : σ2[i]? = some (some (.ref p)) := by rw [se2]; exact sw
      have sl2 := R3.sl i
      rw [ge2] at sl2
      obtain ⟨p', ys3, ep', hp3, al3⟩ := sl2
      rw [se2'] at ep'
      cases ep'
      refine ⟨.ref p, se2', .inl ⟨rfl, ys3, SqL.of hp3⟩, _, e2, gi, R3, ?_⟩
      cases km : mk e2 gi with
      | no =>
        rw [km] at hr
        cases hr
      | ex y g4 =>
        rw [km] at hr
        cases hr
      | ok rs g4 =>
      rw [km] at hr
      intro vk H4 x4 i4 o4
      have R4 := R3.exe x4 i4
      match rs, hr, o4 with
      | [.dat (.int n)], hr, o4 =>
        dsimp only at hr
        cases o4 with
        | cons ov os =>
        cases os
        cases ov
        cases hy2 : xs[n.toNat]? with
        | none =>
          rw [hy2] at hr
          cases hr
        | some y =>
        rw [hy2] at hr
        dsimp only at hr
        by_cases hz : 0 ≤ n ∧ n < xs.length ∧ n ≤ 16777216 ∧ acc.length < SZ
        · rw [if_pos hz] at hr
          obtain ⟨z1, z2, z3, z4⟩ := hz
          have op2 : OwnA e2 σ2 p := .of ge2 rfl se2'
          have hp4 : H4 p = some (.lst ys3) := x4 p _ hp3 (R3.notF op2)
          have al4 := R3.atL x4 al3
          have hl4 : ys3.length = xs.length := al4.length
          obtain ⟨yv, hyv, ayv⟩ := al4.get hy2
          have sq : seqIndex? n ys3.length = some n.toNat := by
            unfold seqIndex?
            have h0 : ¬ n < 0 := by omega
            have h1 : (decide (0 ≤ n) && decide (n < (ys3.length : Int))) = true := by
              rw [decide_eq_true z1, decide_eq_true (by rw [hl4]; exact z2)]
              rfl
            dsimp only
            rw [if_neg h0, if_pos h1]
          obtain ⟨R5, s5⟩ := R4.upd_own (es := xs.eraseIdx n.toNat) ge2 se2' (al4.erase n.toNat)
          refine ⟨p, ys3, n, n.toNat, yv, rfl, rfl, hp4, by omega, by omega, sq, hyv, ?_⟩
          -- the popped one goes behind the list that is made
          have kpy : ∀ b o, H1 b = some o → ¬ Mu ⟨B, S⟩ e σ b → H4 b = some o := fun b o q nn => x4 b o (x3 b o (nw.exe (A := ⟨B, S⟩) b o (kp b o q nn) fun z => nn (.inl z)) fun z => nn (.inl z)) fun z => nn (.inl z)
          have hD4 : H4 Dp = some (.lst av) := x4 Dp _ (x3 Dp _ (nw.exe (A := ⟨B, S⟩) Dp _ hD2 DF) DF) DF
          have hD5 : upd H4 p (.lst (ys3.eraseIdx n.toNat)) Dp = some (.lst av) := by rw [upd_ne pD.symm]; exact hD4
          have goD : ∀ {Ha Hb : Hp}, (∀ b o, Ha b = some o → ¬ (B.fam B.i).F b → Hb b = some o) → ∀ a o, Ha a = some o → ¬ (Om ⟨B, S⟩ e σ a ∨ a = Dp) → Hb a = some o ∧ ¬ (Om ⟨B, S⟩ e σ a ∨ a = Dp) := fun {Ha Hb} k a o q n => ⟨k a o q fun z => n (.inl (.inl (R.fx a z))), n⟩
          have acc4 : AtL B.K (fun a => Om ⟨B, S⟩ e σ a ∨ a = Dp) H4 av acc := ((aacc.go (goD (nw.exe (A := ⟨B, S⟩)))).go (goD x3)).go (goD x4)
          have om2 : ∀ a, (Om ⟨B, S⟩ e σ a ∨ a = Dp) → Om ⟨B, Bl ⟨B, S⟩ e σ vs Dp⟩ e2 σ2 a := fun a z => by
            rcases (omE xs a).mpr z with q | ⟨k, k1, k2⟩
            · exact .inl q
            · have hk : k ∉ is := fun z => by
                have hkv : k ∈ vs := hsub k z
                have hki : ¬ (k = i ∧ i < (wp e vs).length) := fun q => hiv (by rw [← q.1]; exact hkv)
                rw [gt_st, if_neg hki, gt_wp, if_pos hkv] at k1
                cases k1
              obtain ⟨q1, q2⟩ := kj k hk
              exact .inr ⟨k, by rw [q1]; exact k1, by rw [q2]; exact k2⟩
          have ay : At B.K (fun a => Om ⟨B, S⟩ e σ a ∨ a = Dp) H4 yv y := ayv.less om2
          have go5 : ∀ a o, H4 a = some o → ¬ (Om ⟨B, S⟩ e σ a ∨ a = Dp) → upd (upd H4 p (.lst (ys3.eraseIdx n.toNat))) Dp (.lst (av ++ [yv])) a = some o ∧ ¬ (Om ⟨B, S⟩ e σ a ∨ a = Dp) := fun a o q n => ⟨by
            rw [upd_ne (fun z => n (.inr z)), upd_ne (fun z => n (.inl (.inr (by rw [z]; exact op))))]
            exact q, n⟩
          refine ⟨av, hD5, by rw [acc4.length]; exact szlt z4, ds.length - (j + 1), by omega, g4, acc ++ [y], av ++ [yv], xs.eraseIdx n.toNat, ?_, fun b o q nn => ?_, upd_same, (acc4.go go5).app (.cons (ay.go go5) .nil), rfl, hlt, hr⟩
          · -- the state, its wiped names gone
            have al5 : AtL B.K (Om ⟨B, Bl ⟨B, S⟩ e σ vs Dp⟩ (st (wp e vs) i (.own xs)) (wipe σ vs)) H4 (ys3.eraseIdx n.toNat) (xs.eraseIdx n.toNat) := (al4.erase n.toNat).less fun a z => om2 a ((omE xs a).mp z)
            have R6 := (Ry.exe x3 i3).exe x4 i4
            obtain ⟨R7, _⟩ := R6.upd_own (es := xs.eraseIdx n.toNat) (gxs xs) sw al5
            rw [st_st] at R7
            refine R7.exX (fun b o q nn => ?_) (fun a z => ?_) ((B.fam B.i).stab _ _ _ R7.gh (fun a z => ?_) (fun a u hu q => by rw [upd_ne (fun z => by rw [z, hD5] at q; cases q; exact hu)]; exact q))
            · have : b ≠ Dp := fun z => nn (.inr z)
              rw [upd_ne this]
              exact q
            · by_cases q : a = Dp
              · rw [q]
                exact .lst upd_same
              · rw [upd_ne q]
                exact R7.xs a z
            · have : a ≠ Dp := fun q => DF (by rw [← q]; exact z)
              rw [upd_ne this]
          · have n1 : b ≠ Dp := ne_of_none q hD
            rw [upd_ne n1, upd_ne (fun z => nn (.inr (by rw [z]; exact op)))]
            exact kpy b o q nn
        · rw [if_neg hz] at hr
          cases hr
  · have e2 : j = ds.length := by omega
    subst e2
    rw [List.drop_length] at hr
    cases hr
    exact .inl ⟨stop _ (Nat.le_refl _), hq Dp av H2 (fun b o q n => kp b o (x1 b o q fun z => n (.inl z)) n) Ri.gh hD2 aacc⟩
end
end PB
namespace PB
open PySem PySem.Spec PyProof.Rows L2
variable [Kts]
section
variable {γ ι : Type} {B : Bs γ ι} {X : Cx}
theorem pb_retPop {i : Nat} {x : Str} {px ap apos cpos lpos pos rpos : Pos} {j : _} {p0 : Pos} {iter tg ke : Expr} {scope : Scope} {own : List (Str × Nat)} {mi : MI γ} {g : TG} {tgm : MG} {is : List Nat} {mk : MA γ} (hc : X.calm = true) (hN : X.N.Nodup) (hi : PI X tg iter (RI B W0 mi)) (ok : BlkOk X.N X.env.scope scope own)
    (hg : ∀ (s : Shared) (H : Hp) (C : Addr) (cl : List (Str × Addr)) (fp : List Addr), PG (X.blk s H scope (compEnvC scope cl C X.env) fp) tg g) (ts : TgS B g tgm is) (hsub : ∀ i ∈ is, i ∈ own.map (·.2))
    (he : ∀ (s : Shared) (H : Hp) (C : Addr) (cl : List (Str × Addr)) (fp : List Addr), PE (X.blk s H scope (compEnvC scope cl C X.env) fp) (.Call (.Attribute (.Name x px) "pop" ap) [ke] [] cpos) (tPopE (X := X) i (RA B W0 mk)))
    (hs : ∀ x, foldedSetIterable iter X.env x = pure x := by intro _; rfl)
    (hst : starEach [.ListComp (.Call (.Attribute (.Name x px) "pop" ap) [ke] [] cpos) [⟨tg, iter, [], 0⟩] scope lpos] X.env = [(false, eval (.ListComp (.Call (.Attribute (.Name x px) "pop" ap) [ke] [] cpos) [⟨tg, iter, [], 0⟩] scope lpos) X.env)] := by rfl)
    (hbase : attributeBase (.Constant (.str "") j p0) "join" X.env (eval (.Constant (.str "") j p0) X.env) = eval (.Constant (.str "") j p0) X.env := by rfl) (hline : (apos.endLine == pos.line) = true := by rfl) :
    PS X (.Return (some (.Call (.Attribute (.Constant (.str "") j p0) "join" apos) [.ListComp (.Call (.Attribute (.Name x px) "pop" ap) [ke] [] cpos) [⟨tg, iter, [], 0⟩] scope lpos] [] pos)) rpos) (RS B W0 (mRetPop i mi tgm mk (own.map (·.2)))) :=
  ps_w (ps_ret (pe_join pe_str (pe_lc hc hN hi ok hg (fun _ _ _ _ _ => pts_yes (B := B)) he hs) hst hbase hline)) fun Dd σ H ⟨S, e, gm, R, h⟩ => by
    unfold mRetPop at h
    cases hx : gt e i with
    | own xs0 =>
      rw [hx] at h
      cases hm : mi e gm with
      | no =>
        rw [hm] at h
        exact h.elim
      | ex y g1 =>
        rw [hm] at h
        exact h.elim
      | ok ds g1 =>
        rw [hm] at h
        have h : RSK ⟨B, S⟩ W0 e σ H (if i ∈ own.map (·.2) then .no else (okO (popL tgm mk i (wp e (own.map (·.2))) ds [] xs0 g1)).bind fun acc g2 => match dStrs acc with
          | some ss => if (ss.map List.length).sum ≤ SZ then .ok (.rt (.dat (.str (joinL [] ss)))) g2 else .no
          | none => .no) Dd := h
        by_cases hiv : i ∈ own.map (·.2)
        · rw [if_pos hiv] at h
          exact h.elim
        · rw [if_neg hiv] at h
          cases hp : popL tgm mk i (wp e (own.map (·.2))) ds [] xs0 g1 with
          | no =>
            rw [hp] at h
            exact h.elim
          | ex y g2 =>
            rw [hp] at h
            exact h.elim
          | ok acc gN =>
            rw [hp] at h
            have h : RSK ⟨B, S⟩ W0 e σ H (match dStrs acc with
              | some ss => if (ss.map List.length).sum ≤ SZ then .ok (.rt (.dat (.str (joinL [] ss)))) gN else .no
              | none => .no) Dd := h
            cases kd : dStrs acc with
            | none =>
              rw [kd] at h
              exact h.elim
            | some ss =>
              rw [kd] at h
              have h : RSK ⟨B, S⟩ W0 e σ H (if (ss.map List.length).sum ≤ SZ then .ok (.rt (.dat (.str (joinL [] ss)))) gN else .no) Dd := h
              by_cases hl : (ss.map List.length).sum ≤ SZ
              · rw [if_pos hl] at h
                refine ⟨⟨_, rfl⟩, pop_go ts hsub hiv R hx hm hp fun D av H' kp ig hD al => ?_⟩
                have hl2 : (ss.map List.length).sum + ([] : List Nat).length * ss.length ≤ SZ := by
                  rw [List.length_nil, Nat.zero_mul]
                  exact hl
                exact al.strs (sep := []) hD kd hl2 rfl fun O' a => h _ H' kp ig (by
                  show At _ _ _ _ _
                  cases a with
                  | str _ q1 q2 => exact .str _ q1 q2)
              · rw [if_neg hl] at h
                exact h.elim
    | _ =>
      rw [hx] at h
      exact h.elim
end
end PB
set_option Elab.async false
set_option linter.all false
namespace PB
section
variable {γ α β : Type}
def Sat (r : Rs γ α) (Q : α → γ → Prop) : Prop := match r with
  | .ok a g => Q a g
  | _ => False
def SatO (o : Option α) (Q : α → γ → Prop) (g : γ) : Prop := match o with
  | some a => Q a g
  | none => False
theorem Sat_ok (a : α) (g : γ) (Q : α → γ → Prop) : Sat (.ok a g) Q = Q a g := rfl
theorem Sat_ofO (o : Option α) (g : γ) (Q : α → γ → Prop) : Sat (ofO o g) Q = SatO o Q g := by cases o <;> rfl
theorem SatO_some (a : α) (Q : α → γ → Prop) (g : γ) : SatO (some a) Q g = Q a g := rfl
theorem SatO_ite (c : Prop) [Decidable c] (a : α) (Q : α → γ → Prop) (g : γ) : SatO (if c then some a else none) Q g = (c ∧ Q a g) := by
  by_cases h : c
  · rw [if_pos h]
    exact propext ⟨fun q => ⟨h, q⟩, fun q => q.2⟩
  · rw [if_neg h]
    exact propext ⟨fun q => q.elim, fun q => h q.1⟩
theorem Sat_bind (r : Rs γ α) (f : α → γ → Rs γ β) (Q : β → γ → Prop) : Sat (r.bind f) Q = Sat r fun a g => Sat (f a g) Q := by cases r <;> rfl
theorem Sat_okO (r : Rs γ α) (Q : α → γ → Prop) : Sat (okO r) Q = Sat r Q := by cases r <;> rfl
theorem Sat.mono {r : Rs γ α} {Q R : α → γ → Prop} (h : Sat r Q) (k : ∀ a g, Q a g → R a g) : Sat r R := by
  cases r with
  | ok a g => exact k a g h
  | ex x g => exact h
  | no => exact h
theorem Sat.get {r : Rs γ α} {Q : α → γ → Prop} (h : Sat r Q) : ∃ a g, r = .ok a g ∧ Q a g := by
  cases r with
  | ok a g => exact ⟨a, g, rfl, h⟩
  | ex x g => exact h.elim
  | no => exact h.elim
variable {e : Env} {g : γ} {f : Op2} {f1 : Op1} {fN : OpN} {a b c : ME γ} {t u : MT γ} {as : MA γ} {s1 s2 : MS γ} {Q : Rv → γ → Prop} {QB : Bool → γ → Prop} {QA : List Rv → γ → Prop} {QS : Fl → γ → Prop} {QI : List D → γ → Prop} {x y : Rv} {i j k : Nat} {F : MF γ}
def kVar (Q : Rv → γ → Prop) (g : γ) : Sl → Prop
  | .dat d => Q (.dat d) g
  | .own ds => Q (.bor ds) g
  | .owd t ks vs => Q (.bdt t ks vs) g
  | _ => False
theorem S_var : Sat (mVar i e g) Q = kVar Q g (gt e i) := by
  unfold mVar
  cases gt e i <;> rfl
theorem kVar_dat {d : D} : kVar Q g (.dat d) = Q (.dat d) g := rfl
theorem kVar_own {d : List D} : kVar Q g (.own d) = Q (.bor d) g := rfl
theorem S_C {d : D} : Sat (mC d e g) Q = Q (.dat d) g := rfl
def k1 (f : Op1) (Q : Rv → γ → Prop) (x : Rv) (g : γ) : Prop := SatO (f x) Q g
theorem S_op1 : Sat (mOp1 f1 a e g) Q = Sat (a e g) (k1 f1 Q) := by
  unfold mOp1
  rw [Sat_bind]
  congr 1
  funext x g
  exact Sat_ofO _ _ _
theorem k1_ : k1 f1 Q x g = SatO (f1 x) Q g := rfl
def k2 (f : Op2) (b : ME γ) (e : Env) (Q : Rv → γ → Prop) (x : Rv) (g : γ) : Prop := Sat (b e g) fun y g2 => SatO (f x y) Q g2
def k2b (f : Op2) (Q : Rv → γ → Prop) (x y : Rv) (g : γ) : Prop := SatO (f x y) Q g
theorem S_op2 : Sat (mOp2 f a b e g) Q = Sat (a e g) (k2 f b e Q) := by
  unfold mOp2 k2
  rw [Sat_bind]
  congr 1
  funext x g
  rw [Sat_bind]
  congr 1
  funext y g
  exact Sat_ofO _ _ _
theorem k2_ : k2 f b e Q x g = Sat (b e g) (k2b f Q x) := rfl
theorem k2b_ : k2b f Q x y g = SatO (f x y) Q g := rfl
theorem S_nil : Sat (mNil e g) QA = QA [] g := rfl
def kc (as : MA γ) (e : Env) (Q : List Rv → γ → Prop) (x : Rv) (g : γ) : Prop := Sat (as e g) fun xs g2 => Q (x :: xs) g2
def kcb (Q : List Rv → γ → Prop) (x : Rv) (xs : List Rv) (g : γ) : Prop := Q (x :: xs) g
theorem S_cons : Sat (mCons a as e g) QA = Sat (a e g) (kc as e QA) := by
  unfold mCons kc
  rw [Sat_bind]
  congr 1
  funext x g
  rw [Sat_bind]
  rfl
theorem kc_ : kc as e QA x g = Sat (as e g) (kcb QA x) := rfl
theorem kcb_ {xs : List Rv} : kcb QA x xs g = QA (x :: xs) g := rfl
def kN (f : OpN) (Q : Rv → γ → Prop) (xs : List Rv) (g : γ) : Prop := SatO (f xs) Q g
theorem S_opN : Sat (mOpN fN as e g) Q = Sat (as e g) (kN fN Q) := by
  unfold mOpN kN
  rw [Sat_bind]
  congr 1
  funext x g
  exact Sat_ofO _ _ _
theorem kN_ {xs : List Rv} : kN fN Q xs g = SatO (fN xs) Q g := rfl
def kT (Q : Rv → γ → Prop) (xs : List Rv) (g : γ) : Prop := match stoL xs with
  | some ds => ds.length ≤ SZ ∧ Q (.dat (.tup ds)) g
  | none => False
def kL (Q : Rv → γ → Prop) (xs : List Rv) (g : γ) : Prop := match stoL xs with
  | some ds => ds.length ≤ SZ ∧ Q (.own ds) g
  | none => False
theorem S_tup : Sat (mTup as e g) Q = Sat (as e g) (kT Q) := by
  unfold mTup
  rw [Sat_bind]
  congr 1
  funext xs g
  unfold kT
  cases stoL xs with
  | some ds =>
    dsimp only
    by_cases h : ds.length ≤ SZ
    · rw [if_pos h]
      exact propext ⟨fun q => ⟨h, q⟩, fun q => q.2⟩
    · rw [if_neg h]
      exact propext ⟨fun q => q.elim, fun q => h q.1⟩
  | none => rfl
theorem S_lst : Sat (mLst as e g) Q = Sat (as e g) (kL Q) := by
  unfold mLst
  rw [Sat_bind]
  congr 1
  funext xs g
  unfold kL
  cases stoL xs with
  | some ds =>
    dsimp only
    by_cases h : ds.length ≤ SZ
    · rw [if_pos h]
      exact propext ⟨fun q => ⟨h, q⟩, fun q => q.2⟩
    · rw [if_neg h]
      exact propext ⟨fun q => q.elim, fun q => h q.1⟩
  | none => rfl
theorem stoL_nil : stoL [] = some [] := rfl
def consO (d : D) : Option (List D) → Option (List D)
  | some ds => some (d :: ds)
  | none => none
theorem stoL_dat {d : D} {xs : List Rv} : stoL (.dat d :: xs) = consO d (stoL xs) := by
  show (match (Rv.dat d).sto, stoL xs with | some d, some ds => some (d :: ds) | _, _ => none) = _
  cases stoL xs <;> rfl
theorem stoL_own {d : List D} {xs : List Rv} : stoL (.own d :: xs) = consO (.lst d) (stoL xs) := by
  show (match (Rv.own d).sto, stoL xs with | some d, some ds => some (d :: ds) | _, _ => none) = _
  cases stoL xs <;> rfl
theorem consO_some {d : D} {ds : List D} : consO d (some ds) = some (d :: ds) := rfl
def kCall (F : MF γ) (Q : Rv → γ → Prop) (xs : List Rv) (g : γ) : Prop := match stoL xs with
  | some ds => Sat (F ds g) Q
  | none => False
theorem S_call : Sat (mCall F as e g) Q = Sat (as e g) (kCall F Q) := by
  unfold mCall
  rw [Sat_bind]
  congr 1
  funext xs g
  unfold kCall
  cases stoL xs with
  | some ds => exact Sat_okO _ _
  | none => rfl
theorem kCall_ {xs : List Rv} {ds : List D} (h : stoL xs = some ds) : kCall F Q xs g = Sat (F ds g) Q := by
  unfold kCall
  rw [h]
def kI {α : Type} (A B : Env → γ → Rs γ α) (e : Env) (Q : α → γ → Prop) (c : Bool) (g : γ) : Prop := match c with
  | true => Sat (A e g) Q
  | false => Sat (B e g) Q
theorem S_if : Sat (mIf t a b e g) Q = Sat (t e g) (kI a b e Q) := by
  unfold mIf
  rw [Sat_bind]
  congr 1
  funext c g
  cases c <;> rfl
theorem S_ifS : Sat (mIfS t s1 s2 e g) QS = Sat (t e g) (kI s1 s2 e QS) := by
  unfold mIfS
  rw [Sat_bind]
  congr 1
  funext c g
  cases c <;> rfl
theorem kI_true {A B : Env → γ → Rs γ α} {Q : α → γ → Prop} : kI A B e Q true g = Sat (A e g) Q := rfl
theorem kI_false {A B : Env → γ → Rs γ α} {Q : α → γ → Prop} : kI A B e Q false g = Sat (B e g) Q := rfl
theorem kI_c {A B : Env → γ → Rs γ α} {Q : α → γ → Prop} {c : Bool} (h1 : c = true → Sat (A e g) Q) (h2 : c = false → Sat (B e g) Q) : kI A B e Q c g := by
  cases c
  · exact h2 rfl
  · exact h1 rfl
theorem kI_d {A B : Env → γ → Rs γ α} {Q : α → γ → Prop} {p : Prop} [Decidable p] (h1 : p → Sat (A e g) Q) (h2 : ¬ p → Sat (B e g) Q) : kI A B e Q (decide p) g :=
  kI_c (fun h => h1 (of_decide_eq_true h)) (fun h => h2 (of_decide_eq_false h))
def kAndV (b : ME γ) (e : Env) (Q : Rv → γ → Prop) (x : Rv) (g : γ) : Prop := match x with
  | .dat (.bl true) => Sat (b e g) Q
  | .dat (.bl false) => Q (dB false) g
  | _ => False
def kOrV (b : ME γ) (e : Env) (Q : Rv → γ → Prop) (x : Rv) (g : γ) : Prop := match x with
  | .dat (.bl true) => Q (dB true) g
  | .dat (.bl false) => Sat (b e g) Q
  | _ => False
theorem S_andV : Sat (mAndV a b e g) Q = Sat (a e g) (kAndV b e Q) := by
  unfold mAndV
  rw [Sat_bind]
  congr 1
  funext x g
  unfold kAndV
  cases x with
  | dat d => cases d <;> first
    | rfl
    | (rename_i b; cases b <;> rfl)
  | own d => rfl
  | bor d => rfl
  | odt _ _ _ => rfl
  | bdt _ _ _ => rfl
theorem S_orV : Sat (mOrV a b e g) Q = Sat (a e g) (kOrV b e Q) := by
  unfold mOrV
  rw [Sat_bind]
  congr 1
  funext x g
  unfold kOrV
  cases x with
  | dat d => cases d <;> first
    | rfl
    | (rename_i b; cases b <;> rfl)
  | own d => rfl
  | bor d => rfl
  | odt _ _ _ => rfl
  | bdt _ _ _ => rfl
theorem kAndV_true : kAndV b e Q (.dat (.bl true)) g = Sat (b e g) Q := rfl
theorem kAndV_false : kAndV b e Q (.dat (.bl false)) g = Q (.dat (.bl false)) g := rfl
theorem kOrV_true : kOrV b e Q (.dat (.bl true)) g = Q (.dat (.bl true)) g := rfl
theorem kOrV_false : kOrV b e Q (.dat (.bl false)) g = Sat (b e g) Q := rfl
def kTest (Q : Bool → γ → Prop) (x : Rv) (g : γ) : Prop := match x with
  | .dat (.bl c) => Q c g
  | _ => False
theorem S_test : Sat (mTest a e g) QB = Sat (a e g) (kTest QB) := by
  unfold mTest
  rw [Sat_bind]
  congr 1
  funext x g
  unfold kTest
  cases x with
  | dat d => cases d <;> first
    | rfl
    | (rename_i b; cases b <;> rfl)
  | own d => rfl
  | bor d => rfl
  | odt _ _ _ => rfl
  | bdt _ _ _ => rfl
theorem kTest_ {c : Bool} : kTest QB (.dat (.bl c)) g = QB c g := rfl
def kTru (Q : Bool → γ → Prop) (x : Rv) (g : γ) : Prop := SatO (oTru x) Q g
theorem S_tru : Sat (mTru a e g) QB = Sat (a e g) (kTru QB) := by
  unfold mTru kTru
  rw [Sat_bind]
  congr 1
  funext x g
  exact Sat_ofO _ _ _
theorem kTru_ : kTru QB x g = SatO (oTru x) QB g := rfl
def kAnd (u : MT γ) (e : Env) (Q : Bool → γ → Prop) (c : Bool) (g : γ) : Prop := match c with
  | true => Sat (u e g) Q
  | false => Q false g
def kOr (u : MT γ) (e : Env) (Q : Bool → γ → Prop) (c : Bool) (g : γ) : Prop := match c with
  | true => Q true g
  | false => Sat (u e g) Q
def kNot (Q : Bool → γ → Prop) (c : Bool) (g : γ) : Prop := Q (!c) g
theorem S_and : Sat (mAnd t u e g) QB = Sat (t e g) (kAnd u e QB) := by
  unfold mAnd
  rw [Sat_bind]
  congr 1
  funext c g
  cases c <;> rfl
theorem S_or : Sat (mOr t u e g) QB = Sat (t e g) (kOr u e QB) := by
  unfold mOr
  rw [Sat_bind]
  congr 1
  funext c g
  cases c <;> rfl
theorem S_not : Sat (mNot t e g) QB = Sat (t e g) (kNot QB) := by
  unfold mNot
  rw [Sat_bind]
  rfl
theorem kAnd_true : kAnd u e QB true g = Sat (u e g) QB := rfl
theorem kAnd_false : kAnd u e QB false g = QB false g := rfl
theorem kOr_true : kOr u e QB true g = QB true g := rfl
theorem kOr_false : kOr u e QB false g = Sat (u e g) QB := rfl
theorem kNot_ {c : Bool} : kNot QB c g = QB (!c) g := rfl
/-- statements -/
def kS (s2 : MS γ) (Q : Fl → γ → Prop) (f : Fl) (g : γ) : Prop := match f with
  | .nx e => Sat (s2 e g) Q
  | .rt r => Q (.rt r) g
  | .bk e => Q (.bk e) g
  | .ct e => Q (.ct e) g
theorem S_seq : Sat (mSeq s1 s2 e g) QS = Sat (s1 e g) (kS s2 QS) := by
  unfold mSeq
  rw [Sat_bind]
  congr 1
  funext f g
  cases f <;> rfl
theorem kS_nx : kS s2 QS (.nx e) g = Sat (s2 e g) QS := rfl
theorem kS_rt {r : Rv} : kS s2 QS (.rt r) g = QS (.rt r) g := rfl
theorem kS_bk : kS s2 QS (.bk e) g = QS (.bk e) g := rfl
theorem kS_ct : kS s2 QS (.ct e) g = QS (.ct e) g := rfl
theorem S_pass : Sat (mPass e g) QS = QS (.nx e) g := rfl
def kSet (i : Nat) (e : Env) (Q : Fl → γ → Prop) (x : Rv) (g : γ) : Prop := match x.slot with
  | some s => Q (.nx (st e i s)) g
  | none => False
theorem S_set : Sat (mSet i a e g) QS = Sat (a e g) (kSet i e QS) := by
  unfold mSet
  rw [Sat_bind]
  congr 1
  funext x g
  unfold kSet
  cases x <;> rfl
theorem kSet_dat {d : D} : kSet i e QS (.dat d) g = QS (.nx (st e i (.dat d))) g := rfl
theorem kSet_own {d : List D} : kSet i e QS (.own d) g = QS (.nx (st e i (.own d))) g := rfl
def kTgt (tg : MG) (e : Env) (Q : Fl → γ → Prop) (x : Rv) (g : γ) : Prop := match x with
  | .dat d => match tg d e with
    | some e1 => Q (.nx e1) g
    | none => False
  | _ => False
theorem S_tgt {tg : MG} : Sat (mTgt tg a e g) QS = Sat (a e g) (kTgt tg e QS) := by
  unfold mTgt
  rw [Sat_bind]
  congr 1
  funext x g
  cases x with
  | dat d =>
    show Sat (match tg d e with | some e1 => Rs.ok (.nx e1) g | none => .no) QS = kTgt tg e QS (.dat d) g
    unfold kTgt
    dsimp only
    cases tg d e <;> rfl
  | own d => rfl
  | bor d => rfl
  | odt _ _ _ => rfl
  | bdt _ _ _ => rfl
theorem kTgt_ {tg : MG} {d : D} {e1 : Env} (h : tg d e = some e1) : kTgt tg e QS (.dat d) g = QS (.nx e1) g := by
  unfold kTgt
  dsimp only
  rw [h]
def kTgtL (is : List Nat) (e : Env) (Q : Fl → γ → Prop) (x : Rv) (g : γ) : Prop := SatO (x.items) (fun ds g => SatO (tgL is ds e) (fun e1 g => Q (.nx e1) g) g) g
theorem S_tgtL {is : List Nat} : Sat (mTgtL is a e g) QS = Sat (a e g) (kTgtL is e QS) := by
  unfold mTgtL
  rw [Sat_bind]
  congr 1
  funext x g
  unfold kTgtL
  cases x.items with
  | none => rfl
  | some ds =>
    dsimp only
    show _ = SatO (tgL is ds e) _ g
    cases tgL is ds e <;> rfl
theorem kTgtL_ {is : List Nat} : kTgtL is e QS x g = SatO (x.items) (fun ds g => SatO (tgL is ds e) (fun e1 g => QS (.nx e1) g) g) g := rfl
def kP (b : ME γ) (i j : Nat) (e : Env) (Q : Fl → γ → Prop) (x : Rv) (g : γ) : Prop := Sat (b e g) fun y g2 => match x, y with
  | .dat x, .dat y => Q (.nx (st (st e i (.dat x)) j (.dat y))) g2
  | _, _ => False
theorem S_par : Sat (mPar i j a b e g) QS = Sat (a e g) (kP b i j e QS) := by
  unfold mPar
  rw [Sat_bind]
  congr 1
  funext x g
  unfold kP
  rw [Sat_bind]
  congr 1
  funext y g
  cases x <;> cases y <;> rfl
def kPb (i j : Nat) (e : Env) (Q : Fl → γ → Prop) (x y : Rv) (g : γ) : Prop := match x, y with
  | .dat x, .dat y => Q (.nx (st (st e i (.dat x)) j (.dat y))) g
  | _, _ => False
theorem kP_ : kP b i j e QS x g = Sat (b e g) (kPb i j e QS x) := rfl
theorem kPb_ {d d' : D} : kPb i j e QS (.dat d) (.dat d') g = QS (.nx (st (st e i (.dat d)) j (.dat d'))) g := rfl
theorem S_ret : Sat (mRet a e g) QS = Sat (a e g) fun x g => QS (.rt x) g := by
  unfold mRet
  rw [Sat_bind]
  rfl
def kR (Q : Fl → γ → Prop) (x : Rv) (g : γ) : Prop := Q (.rt x) g
theorem S_ret' : Sat (mRet a e g) QS = Sat (a e g) (kR QS) := S_ret
theorem kR_ : kR QS x g = QS (.rt x) g := rfl
theorem S_retN : Sat (mRetN e g) QS = QS (.rt (.dat .non)) g := rfl
theorem S_break : Sat (mBreak e g) QS = QS (.bk e) g := rfl
theorem S_cont : Sat (mCont e g) QS = QS (.ct e) g := rfl
theorem S_frz_own {ds : List D} (h : gt e i = .own ds) : Sat (mFrz i e g) QS = QS (.nx (st e i (.dat (.lst ds)))) g := by
  unfold mFrz
  rw [h]
  rfl
theorem S_frz_dat {d : D} (h : gt e i = .dat d) : Sat (mFrz i e g) QS = QS (.nx e) g := by
  unfold mFrz
  rw [h]
  rfl
def kA (i : Nat) (e : Env) (ds : List D) (Q : Fl → γ → Prop) (y : Rv) (g : γ) : Prop := match y.sto with
  | some d => ds.length < SZ ∧ Q (.nx (st e i (.own (ds ++ [d])))) g
  | none => False
theorem S_app {ds : List D} (h : gt e i = .own ds) : Sat (mApp i a e g) QS = Sat (a e g) (kA i e ds QS) := by
  unfold mApp
  rw [h]
  dsimp only
  rw [Sat_bind]
  congr 1
  funext y g
  unfold kA
  cases y.sto with
  | none => rfl
  | some d =>
    dsimp only
    by_cases hl : ds.length < SZ
    · rw [if_pos hl]
      exact propext ⟨fun q => ⟨hl, q⟩, fun q => q.2⟩
    · rw [if_neg hl]
      exact propext ⟨fun q => q.elim, fun q => hl q.1⟩
theorem kA_dat {ds : List D} {d : D} : kA i e ds QS (.dat d) g = (ds.length < SZ ∧ QS (.nx (st e i (.own (ds ++ [d])))) g) := rfl
/-- loops -/
def kF (tg : MG) (b : MS γ) (e : Env) (Q : Fl → γ → Prop) (ds : List D) (g : γ) : Prop := Sat (forL tg b ds e g) Q
theorem S_for {src : MI γ} {tg : MG} {b : MS γ} : Sat (mFor src tg b e g) QS = Sat (src e g) (kF tg b e QS) := by
  unfold mFor
  rw [Sat_bind]
  rfl
theorem kF_ {tg : MG} {b : MS γ} {ds : List D} : kF tg b e QS ds g = Sat (forL tg b ds e g) QS := rfl
theorem S_forNil {tg : MG} {b : MS γ} : Sat (forL tg b [] e g) QS = QS (.nx e) g := rfl
def kFb (tg : MG) (b : MS γ) (ds : List D) (Q : Fl → γ → Prop) (f : Fl) (g : γ) : Prop := match f with
  | .nx e2 => Sat (forL tg b ds e2 g) Q
  | .ct e2 => Sat (forL tg b ds e2 g) Q
  | .bk e2 => Q (.nx e2) g
  | .rt r => Q (.rt r) g
theorem S_forCons {tg : MG} {b : MS γ} {d : D} {ds : List D} {e1 : Env} (h : tg d e = some e1) : Sat (forL tg b (d :: ds) e g) QS = Sat (b e1 g) (kFb tg b ds QS) := by
  show Sat (match tg d e with | none => .no | some e1 => match b e1 g with
      | .ok (.nx e2) g2 => forL tg b ds e2 g2
      | .ok (.ct e2) g2 => forL tg b ds e2 g2
      | .ok (.bk e2) g2 => .ok (.nx e2) g2
      | .ok (.rt r) g2 => .ok (.rt r) g2
      | .ex x g2 => .ex x g2
      | .no => .no) QS = _
  rw [h]
  dsimp only
  cases b e1 g with
  | ok f g => cases f <;> rfl
  | ex x g => rfl
  | no => rfl
theorem kFb_nx {tg : MG} {b : MS γ} {ds : List D} : kFb tg b ds QS (.nx e) g = Sat (forL tg b ds e g) QS := rfl
theorem kFb_ct {tg : MG} {b : MS γ} {ds : List D} : kFb tg b ds QS (.ct e) g = Sat (forL tg b ds e g) QS := rfl
theorem kFb_bk {tg : MG} {b : MS γ} {ds : List D} : kFb tg b ds QS (.bk e) g = QS (.nx e) g := rfl
theorem kFb_rt {tg : MG} {b : MS γ} {ds : List D} {r : Rv} : kFb tg b ds QS (.rt r) g = QS (.rt r) g := rfl
theorem tgN_ {d : D} : tgN i d e = some (st e i (.dat d)) := rfl
def kItems (Q : List D → γ → Prop) (x : Rv) (g : γ) : Prop := SatO (seqOf x) Q g
theorem S_items : Sat (mItems a e g) QI = Sat (a e g) (kItems QI) := by
  unfold mItems kItems
  rw [Sat_bind]
  congr 1
  funext x g
  exact Sat_ofO _ _ _
theorem kItems_tup {ds : List D} : kItems QI (.dat (.tup ds)) g = QI ds g := rfl
theorem kItems_lst {ds : List D} : kItems QI (.dat (.lst ds)) g = QI ds g := rfl
theorem kItems_own {ds : List D} : kItems QI (.own ds) g = QI ds g := rfl
def kRng (Q : List D → γ → Prop) (x : Rv) (g : γ) : Prop := match x with
  | .dat (.int n) => RngOk n ∧ Q (rng 0 n.toNat) g
  | _ => False
theorem S_range1 : Sat (mRange1 a e g) QI = Sat (a e g) (kRng QI) := by
  unfold mRange1
  rw [Sat_bind]
  congr 1
  funext x g
  unfold kRng
  cases x with
  | dat d =>
    cases d with
    | int n =>
      dsimp only
      by_cases h : RngOk n
      · rw [if_pos h]
        exact propext ⟨fun q => ⟨h, q⟩, fun q => q.2⟩
      · rw [if_neg h]
        exact propext ⟨fun q => q.elim, fun q => h q.1⟩
    | _ => rfl
  | own d => rfl
  | bor d => rfl
  | odt _ _ _ => rfl
  | bdt _ _ _ => rfl
theorem kRng_ {n : Int} : kRng QI (.dat (.int n)) g = (RngOk n ∧ QI (rng 0 n.toNat) g) := rfl
/-- list comprehensions -/
def kLc (tg : MG) (c : MT γ) (a : ME γ) (e : Env) (Q : Rv → γ → Prop) (ds : List D) (g : γ) : Prop := Sat (lcL tg c a e ds [] g) Q
theorem S_lc {src : MI γ} {tg : MG} {own : List Nat} : Sat (mLc src tg t a own e g) Q = Sat (src e g) (kLc tg t a (wp e own) Q) := by
  unfold mLc
  rw [Sat_bind]
  rfl
theorem kLc_ {tg : MG} {ds : List D} : kLc tg t a e Q ds g = Sat (lcL tg t a e ds [] g) Q := rfl
theorem S_lcNil {tg : MG} {acc : List D} : Sat (lcL tg t a e [] acc g) Q = Q (.own acc) g := rfl
def kLcA (tg : MG) (t : MT γ) (a : ME γ) (e : Env) (ds acc : List D) (Q : Rv → γ → Prop) (x : Rv) (g : γ) : Prop := match x.sto with
  | some y => acc.length < SZ ∧ Sat (lcL tg t a e ds (acc ++ [y]) g) Q
  | none => False
def kLcT (tg : MG) (t : MT γ) (a : ME γ) (e e1 : Env) (ds acc : List D) (Q : Rv → γ → Prop) (c : Bool) (g : γ) : Prop := match c with
  | true => Sat (a e1 g) (kLcA tg t a e ds acc Q)
  | false => Sat (lcL tg t a e ds acc g) Q
theorem S_lcCons {tg : MG} {d : D} {ds acc : List D} {e1 : Env} (h : tg d e = some e1) : Sat (lcL tg t a e (d :: ds) acc g) Q = Sat (t e1 g) (kLcT tg t a e e1 ds acc Q) := by
  show Sat (match tg d e with
    | none => .no
    | some e1 => match t e1 g with
      | .ok true g1 => match a e1 g1 with
        | .ok r g2 => match r.sto with
          | some y => if acc.length < SZ then lcL tg t a e ds (acc ++ [y]) g2 else .no
          | none => .no
        | _ => .no
      | .ok false g1 => lcL tg t a e ds acc g1
      | _ => .no) Q = _
  rw [h]
  dsimp only
  cases t e1 g with
  | ok c g1 =>
    cases c with
    | false => rfl
    | true =>
      show Sat (match a e1 g1 with
        | .ok r g2 => match r.sto with
          | some y => if acc.length < SZ then lcL tg t a e ds (acc ++ [y]) g2 else .no
          | none => .no
        | _ => .no) Q = Sat (a e1 g1) (kLcA tg t a e ds acc Q)
      cases a e1 g1 with
      | ok r g2 =>
        show Sat (match r.sto with
          | some y => if acc.length < SZ then lcL tg t a e ds (acc ++ [y]) g2 else .no
          | none => .no) Q = kLcA tg t a e ds acc Q r g2
        unfold kLcA
        cases r.sto with
        | none => rfl
        | some y =>
          dsimp only
          by_cases hl : acc.length < SZ
          · rw [if_pos hl]
            exact propext ⟨fun q => ⟨hl, q⟩, fun q => q.2⟩
          · rw [if_neg hl]
            exact propext ⟨fun q => q.elim, fun q => hl q.1⟩
      | ex x g => rfl
      | no => rfl
  | ex x g => rfl
  | no => rfl
theorem kLcT_true {tg : MG} {e1 : Env} {ds acc : List D} : kLcT tg t a e e1 ds acc Q true g = Sat (a e1 g) (kLcA tg t a e ds acc Q) := rfl
theorem kLcA_dat {tg : MG} {ds acc : List D} {d : D} : kLcA tg t a e ds acc Q (.dat d) g = (acc.length < SZ ∧ Sat (lcL tg t a e ds (acc ++ [d]) g) Q) := rfl
theorem S_yes : Sat (mYes e g) QB = QB true g := rfl
/-- while: what holds ahead of each test, what goes down -/
theorem S_while {n : Nat} (I : Nat → Env → γ → Prop) (m0 : Nat) (h0 : I m0 e g) (hn : m0 < n)
    (hs : ∀ m e g, I m e g → Sat (t e g) fun c g1 => match c with
      | true => Sat (s1 e g1) fun f g2 => match f with
        | .nx e2 => ∃ m', m' < m ∧ I m' e2 g2
        | .ct e2 => ∃ m', m' < m ∧ I m' e2 g2
        | .bk e2 => QS (.nx e2) g2
        | .rt r => QS (.rt r) g2
      | false => QS (.nx e) g1) : Sat (mWhile t s1 n e g) QS := by
  induction n generalizing m0 e g with
  | zero => omega
  | succ n ih =>
    have h := hs m0 e g h0
    show Sat (match t e g with
    | .ok true g1 => match s1 e g1 with
      | .ok (.nx e2) g2 => mWhile t s1 n e2 g2
      | .ok (.ct e2) g2 => mWhile t s1 n e2 g2
      | .ok (.bk e2) g2 => .ok (.nx e2) g2
      | .ok (.rt r) g2 => .ok (.rt r) g2
      | .ex x g2 => .ex x g2
      | .no => .no
    | .ok false g1 => .ok (.nx e) g1
    | .ex x g1 => .ex x g1
    | .no => .no) QS
    cases ht : t e g with
    | no =>
      rw [ht] at h
      exact h
    | ex x g1 =>
      rw [ht] at h
      exact h
    | ok c g1 =>
      rw [ht] at h
      cases c with
      | false => exact h
      | true =>
        have h' : Sat (s1 e g1) _ := h
        dsimp only
        cases hb : s1 e g1 with
        | no =>
          rw [hb] at h'
          exact h'
        | ex x g2 =>
          rw [hb] at h'
          exact h'
        | ok f g2 =>
          rw [hb] at h'
          cases f with
          | nx e2 =>
            obtain ⟨m', hm, hi⟩ := h'
            exact ih m' hi (by omega)
          | ct e2 =>
            obtain ⟨m', hm, hi⟩ := h'
            exact ih m' hi (by omega)
          | bk e2 => exact h'
          | rt r => exact h'
/-- a def -/
def kD (Q : Rv → γ → Prop) (f : Fl) (g : γ) : Prop := match f with
  | .nx _ => Q (.dat .non) g
  | .rt r => Q r.ret g
  | _ => False
theorem S_def {n k : Nat} {b : MS γ} {ds : List D} (h : ds.length = k) : Sat (mDef n k b ds g) Q = Sat (b (ds.map Sl.dat ++ List.replicate (n - k) .un) g) (kD Q) := by
  unfold mDef
  rw [if_pos h]
  cases b (ds.map Sl.dat ++ List.replicate (n - k) .un) g with
  | ok f g => cases f <;> rfl
  | ex x g => rfl
  | no => rfl
theorem kD_rt {r : Rv} : kD Q (.rt r) g = Q r.ret g := rfl
theorem kD_nx : kD Q (.nx e) g = Q (.dat .non) g := rfl
/-- operations -/
theorem o_add {i j : Int} : oAdd (.dat (.int i)) (.dat (.int j)) = some (.dat (.int (i + j))) := rfl
theorem o_sub {i j : Int} : oSub (.dat (.int i)) (.dat (.int j)) = some (.dat (.int (i - j))) := rfl
theorem o_mul {i j : Int} (h : MulOk i j) : oMul (.dat (.int i)) (.dat (.int j)) = some (.dat (.int (i * j))) := if_pos h
theorem o_div {i j : Int} (h : DivOk j) : oDiv (.dat (.int i)) (.dat (.int j)) = some (.dat (.int (i / j))) := if_pos h
theorem o_mod {i j : Int} (h : 0 < j) : oMod (.dat (.int i)) (.dat (.int j)) = some (.dat (.int (i % j))) := if_pos h
theorem o_pow {i j : Int} (h : PowOk i j) : oPow (.dat (.int i)) (.dat (.int j)) = some (.dat (.int (i ^ j.toNat))) := if_pos h
theorem o_eq {i j : Int} : oEq (.dat (.int i)) (.dat (.int j)) = some (.dat (.bl (decide (i = j)))) := rfl
theorem o_ne {i j : Int} : oNe (.dat (.int i)) (.dat (.int j)) = some (.dat (.bl (!decide (i = j)))) := rfl
theorem o_lt {i j : Int} : oLt (.dat (.int i)) (.dat (.int j)) = some (.dat (.bl (decide (i < j)))) := rfl
theorem o_le {i j : Int} : oLe (.dat (.int i)) (.dat (.int j)) = some (.dat (.bl (decide (i ≤ j)))) := rfl
theorem o_gt {i j : Int} : oGt (.dat (.int i)) (.dat (.int j)) = some (.dat (.bl (decide (j < i)))) := rfl
theorem o_ge {i j : Int} : oGe (.dat (.int i)) (.dat (.int j)) = some (.dat (.bl (decide (j ≤ i)))) := rfl
theorem o_eqB {i j : Bool} : oEq (.dat (.bl i)) (.dat (.bl j)) = some (.dat (.bl (i == j))) := rfl
theorem o_neB {i j : Bool} : oNe (.dat (.bl i)) (.dat (.bl j)) = some (.dat (.bl (!(i == j)))) := rfl
theorem o_is2 {i j : Bool} : oIs2 (.dat (.bl i)) (.dat (.bl j)) = some (.dat (.bl (decide (i = j)))) := rfl
theorem o_isnot2 {i j : Bool} : oIsNot2 (.dat (.bl i)) (.dat (.bl j)) = some (.dat (.bl (!decide (i = j)))) := rfl
theorem o_abs {i : Int} : oAbs [.dat (.int i)] = some (.dat (.int (if i < 0 then -i else i))) := rfl
theorem o_ix {ds : List D} {i : Int} : oIx (.dat (.tup ds)) (.dat (.int i)) = (atI ds i).map .dat := rfl
theorem o_ixO {ds : List D} {i : Int} : oIx (.own ds) (.dat (.int i)) = (atI ds i).map .dat := rfl
theorem o_ixB {ds : List D} {i : Int} : oIx (.bor ds) (.dat (.int i)) = (atI ds i).map .dat := rfl
theorem o_ixL {ds : List D} {i : Int} : oIx (.dat (.lst ds)) (.dat (.int i)) = (atI ds i).map .dat := rfl
theorem o_tupO {ds : List D} : oTuple [.own ds] = some (.dat (.tup ds)) := rfl
theorem o_isBool {b : Bool} : oIs .bool (.dat (.bl b)) = some (.dat (.bl true)) := rfl
end
section
variable {γ : Type} {g : γ} {F : MF γ} {Q : Rv → γ → Prop} {xs : List Rv} {e : Env} {t : MT γ} {a : ME γ}
theorem kCall_u : kCall F Q xs g = SatO (stoL xs) (fun ds g => Sat (F ds g) Q) g := by
  unfold kCall
  cases stoL xs <;> rfl
theorem kT_u : kT Q xs g = SatO (stoL xs) (fun ds g => ds.length ≤ SZ ∧ Q (.dat (.tup ds)) g) g := by
  unfold kT
  cases stoL xs <;> rfl
theorem kL_u : kL Q xs g = SatO (stoL xs) (fun ds g => ds.length ≤ SZ ∧ Q (.own ds) g) g := by
  unfold kL
  cases stoL xs <;> rfl
theorem o_mul_u {i j : Int} {P : Rv → γ → Prop} : SatO (oMul (.dat (.int i)) (.dat (.int j))) P g = (MulOk i j ∧ P (.dat (.int (i * j))) g) := SatO_ite _ _ _ _
theorem o_div_u {i j : Int} {P : Rv → γ → Prop} : SatO (oDiv (.dat (.int i)) (.dat (.int j))) P g = (DivOk j ∧ P (.dat (.int (i / j))) g) := SatO_ite _ _ _ _
theorem o_mod_u {i j : Int} {P : Rv → γ → Prop} : SatO (oMod (.dat (.int i)) (.dat (.int j))) P g = (0 < j ∧ P (.dat (.int (i % j))) g) := SatO_ite _ _ _ _
theorem o_pow_u {i j : Int} {P : Rv → γ → Prop} : SatO (oPow (.dat (.int i)) (.dat (.int j))) P g = (PowOk i j ∧ P (.dat (.int (i ^ j.toNat))) g) := SatO_ite _ _ _ _
theorem map_some' {α β : Type} (f : α → β) (x : α) : (some x).map f = some (f x) := rfl
theorem dBls_rep (n : Nat) : dBls (List.replicate n (.bl true)) = some (List.replicate n true) := by
  induction n with
  | zero => rfl
  | succ n ih =>
    rw [List.replicate_succ, List.replicate_succ]
    show (dBls _).map _ = _
    rw [ih]
    rfl
theorem o_all_rep {n : Nat} : oAll [.own (List.replicate n (.bl true))] = some (.dat (.bl true)) := by
  show (dBls _).map _ = _
  rw [dBls_rep]
  have : (List.replicate n true).all id = true := by
    induction n with
    | zero => rfl
    | succ n ih => rw [List.replicate_succ, List.all_cons, ih]; rfl
  show some (dB ((List.replicate n true).all id)) = _
  rw [this]
  rfl
/-- a comprehension that tells True of each item it takes -/
theorem S_lcAll {tg : MG} {ds : List D} (hl : ds.length ≤ SZ)
    (hs : ∀ d ∈ ds, ∃ e1, tg d e = some e1 ∧ Sat (t e1 g) fun c g1 => g1 = g ∧ (c = true → Sat (a e1 g) fun r g2 => g2 = g ∧ r = .dat (.bl true)))
    (hd : ∀ n, Q (.own (List.replicate n (.bl true))) g) : Sat (lcL tg t a e ds [] g) Q := by
  have key : ∀ post n, post.length + n ≤ SZ → (∀ d ∈ post, d ∈ ds) → Sat (lcL tg t a e post (List.replicate n (.bl true)) g) Q := by
    intro post
    induction post with
    | nil =>
      intro n _ _
      exact hd n
    | cons d post ih =>
      intro n hn hm
      obtain ⟨e1, h1, h2⟩ := hs d (hm d (by simp))
      rw [S_lcCons h1]
      refine h2.mono fun c g1 q => ?_
      obtain ⟨rfl, q⟩ := q
      rw [List.length_cons] at hn
      cases c with
      | false => exact ih n (by omega) (fun d hd => hm d (by simp [hd]))
      | true =>
        refine (q rfl).mono fun r g2 q2 => ?_
        obtain ⟨rfl, rfl⟩ := q2
        rw [kLcA_dat]
        refine ⟨by rw [List.length_replicate]; omega, ?_⟩
        have := ih (n + 1) (by omega) (fun d hd => hm d (by simp [hd]))
        rw [List.replicate_succ'] at this
        exact this
  exact key ds 0 (by omega) (fun d h => h)
end
section
variable {γ : Type} {g : γ} {QS : Fl → γ → Prop} {QI : List D → γ → Prop} {Q : Rv → γ → Prop} {e : Env} {a b k : ME γ} {i : Nat}
def kPutK (i : Nat) (e : Env) (ds : List D) (QS : Fl → γ → Prop) (y z : Rv) (g : γ) : Prop := SatO y.sto (fun d g => match z with
  | .dat (.int n) => SatO (ixN ds.length n) (fun j g => QS (.nx (st e i (.own (ds.set j d)))) g) g
  | _ => False) g
def kPut (k : ME γ) (i : Nat) (e : Env) (ds : List D) (QS : Fl → γ → Prop) (y : Rv) (g : γ) : Prop := Sat (k e g) (kPutK i e ds QS y)
theorem S_put {ds : List D} (h : gt e i = .own ds) : Sat (mPut i k a e g) QS = Sat (a e g) (kPut k i e ds QS) := by
  unfold mPut
  rw [Sat_bind]
  congr 1
  funext y g
  rw [h]
  dsimp only
  rw [Sat_bind]
  unfold kPut
  congr 1
  funext z g
  unfold kPutK
  cases hy : y.sto with
  | none => rfl
  | some d =>
    cases z with
    | dat z => 
      cases z with
      | int n =>
        dsimp only [SatO]
        cases ixN ds.length n <;> rfl
      | _ => rfl
    | own z => rfl
    | bor z => rfl
    | odt _ _ _ => rfl
    | bdt _ _ _ => rfl
theorem kPut_ {ds : List D} {y : Rv} : kPut k i e ds QS y g = Sat (k e g) (kPutK i e ds QS y) := rfl
theorem kPutK_ {ds : List D} {d : D} {n : Int} : kPutK i e ds QS (.dat d) (.dat (.int n)) g = SatO (ixN ds.length n) (fun j g => QS (.nx (st e i (.own (ds.set j d)))) g) g := rfl
def kZip (b : ME γ) (e : Env) (QI : List D → γ → Prop) (x : Rv) (g : γ) : Prop := Sat (b e g) fun y g => SatO (zip2 x y) QI g
def kZipb (QI : List D → γ → Prop) (x y : Rv) (g : γ) : Prop := SatO (zip2 x y) QI g
theorem S_zip2 : Sat (mZip2 a b e g) QI = Sat (a e g) (kZip b e QI) := by
  unfold mZip2 kZip
  rw [Sat_bind]
  congr 1
  funext x g
  rw [Sat_bind]
  congr 1
  funext y g
  exact Sat_ofO _ _ _
theorem kZip_ {x : Rv} : kZip b e QI x g = Sat (b e g) (kZipb QI x) := rfl
theorem kZipb_tup {xs ys : List D} : kZipb QI (.dat (.tup xs)) (.dat (.tup ys)) g = QI (zipD xs ys) g := rfl
theorem o_sum {ds : List D} : oSum [.own ds] = (dInts ds).map fun ns => .dat (.int ns.sum) := rfl
theorem o_sumB {ds : List D} : oSum [.bor ds] = (dInts ds).map fun ns => .dat (.int ns.sum) := rfl
theorem o_tupB {ds : List D} : oTuple [.bor ds] = some (.dat (.tup ds)) := rfl
theorem o_tupL {ds : List D} : oTuple [.dat (.lst ds)] = some (.dat (.tup ds)) := rfl
theorem o_lenT {ds : List D} : oLen [.dat (.tup ds)] = some (.dat (.int ds.length)) := rfl
theorem kRng_3 : kRng QI (.dat (.int 3)) g = QI [.int 0, .int 1, .int 2] g := by
  rw [kRng_]
  exact propext ⟨fun h => h.2, fun h => ⟨by decide, h⟩⟩
end
section
variable {γ : Type} {g : γ} {QS : Fl → γ → Prop} {Q : Rv → γ → Prop} {e : Env} {t : MT γ} {a b : ME γ}
/-- a loop over data made of things of one kind -/
theorem S_forA {α : Type} {tg : MG} {b : MS γ} (ls : List α) (dn : α → D) (I : List α → List α → Env → γ → Prop) (h0 : I [] ls e g)
    (hs : ∀ pre x post e g, ls = pre ++ x :: post → I pre (x :: post) e g → ∃ e1, tg (dn x) e = some e1 ∧ Sat (b e1 g) fun f g2 => match f with
      | .nx e2 => I (pre ++ [x]) post e2 g2
      | .ct e2 => I (pre ++ [x]) post e2 g2
      | .bk e2 => QS (.nx e2) g2
      | .rt r => QS (.rt r) g2)
    (hd : ∀ e g, I ls [] e g → QS (.nx e) g) : Sat (forL tg b (ls.map dn) e g) QS := by
  have key : ∀ post pre e g, ls = pre ++ post → I pre post e g → Sat (forL tg b (post.map dn) e g) QS := by
    intro post
    induction post with
    | nil =>
      intro pre e g hp hi
      rw [List.append_nil] at hp
      subst hp
      exact hd e g hi
    | cons d post ih =>
      intro pre e g hp hi
      obtain ⟨e1, h1, h2⟩ := hs pre d post e g hp hi
      rw [List.map_cons, S_forCons h1]
      refine h2.mono fun f g2 q => ?_
      have hp2 : ls = (pre ++ [d]) ++ post := by rw [hp, List.append_assoc]; rfl
      cases f with
      | nx e2 => exact ih _ _ _ hp2 q
      | ct e2 => exact ih _ _ _ hp2 q
      | bk e2 => exact q
      | rt r => exact q
  exact key ls [] e g rfl h0
/-- a comprehension over such, nothing changed -/
theorem S_lcA {α : Type} {tg : MG} (ls : List α) (dn fn : α → D) (hl : ls.length ≤ SZ)
    (hs : ∀ x ∈ ls, ∃ e1, tg (dn x) e = some e1 ∧ Sat (t e1 g) fun c g1 => c = true ∧ g1 = g ∧ Sat (a e1 g) fun r g2 => r.sto = some (fn x) ∧ g2 = g)
    (hd : Q (.own (ls.map fn)) g) : Sat (lcL tg t a e (ls.map dn) [] g) Q := by
  have key : ∀ post pre, ls = pre ++ post → Sat (lcL tg t a e (post.map dn) (pre.map fn) g) Q := by
    intro post
    induction post with
    | nil =>
      intro pre hp
      rw [List.append_nil] at hp
      subst hp
      exact hd
    | cons d post ih =>
      intro pre hp
      obtain ⟨e1, h1, h2⟩ := hs d (by rw [hp]; simp)
      rw [List.map_cons, S_lcCons h1]
      refine h2.mono fun c g1 q => ?_
      obtain ⟨rfl, rfl, q⟩ := q
      rw [kLcT_true]
      refine q.mono fun r g2 q2 => ?_
      obtain ⟨q2, rfl⟩ := q2
      unfold kLcA
      rw [q2]
      have hpl : (pre.map fn).length < SZ := by
        rw [List.length_map]
        have := congrArg List.length hp
        rw [List.length_append, List.length_cons] at this
        omega
      refine ⟨hpl, ?_⟩
      have hp2 : ls = (pre ++ [d]) ++ post := by rw [hp, List.append_assoc]; rfl
      have := ih (pre ++ [d]) hp2
      rw [List.map_append] at this
      exact this
  exact key ls [] rfl
theorem o_eqS {i j : List Nat} : oEq (.dat (.str i)) (.dat (.str j)) = some (.dat (.bl (i == j))) := rfl
theorem o_neS {i j : List Nat} : oNe (.dat (.str i)) (.dat (.str j)) = some (.dat (.bl (!(i == j)))) := rfl
theorem o_ixT {ds : List D} {i : Int} : oIx (.dat (.tup ds)) (.dat (.int i)) = (atI ds i).map .dat := rfl
theorem o_ixS {s : List Nat} {i : Int} : oIx (.dat (.str s)) (.dat (.int i)) = (atI s i).map fun c => .dat (.str [c]) := rfl
theorem o_intB {b : Bool} : oInt [.dat (.bl b)] = some (.dat (.int (if b then 1 else 0))) := rfl
theorem o_lenS {s : List Nat} : oLen [.dat (.str s)] = some (.dat (.int s.length)) := rfl
theorem o_lenO {s : List D} : oLen [.own s] = some (.dat (.int s.length)) := rfl
theorem o_lenB {s : List D} : oLen [.bor s] = some (.dat (.int s.length)) := rfl
theorem o_iaddI {i j : Int} : oIAdd (.dat (.int i)) (.dat (.int j)) = some (.dat (.int (i + j))) := rfl
def kS1 (f : List Nat → Rv → Option Rv) (b : ME γ) (e : Env) (Q : Rv → γ → Prop) (x : Rv) (g : γ) : Prop := match x with
  | .dat (.str s) => Sat (b e g) fun y g2 => SatO (f s y) Q g2
  | _ => False
def kS1b (f : List Nat → Rv → Option Rv) (s : List Nat) (Q : Rv → γ → Prop) (y : Rv) (g : γ) : Prop := SatO (f s y) Q g
theorem S_s1 {f : List Nat → Rv → Option Rv} : Sat (mS1 f a b e g) Q = Sat (a e g) (kS1 f b e Q) := by
  unfold mS1
  rw [Sat_bind]
  congr 1
  funext x g
  unfold kS1
  cases x with
  | dat d =>
    cases d with
    | str s =>
      dsimp only
      rw [Sat_bind]
      congr 1
      funext y g2
      exact Sat_ofO _ _ _
    | _ => rfl
  | own d => rfl
  | bor d => rfl
  | odt _ _ _ => rfl
  | bdt _ _ _ => rfl
theorem kS1_ {f : List Nat → Rv → Option Rv} {s : List Nat} : kS1 f b e Q (.dat (.str s)) g = Sat (b e g) (kS1b f s Q) := rfl
theorem kS1b_ {f : List Nat → Rv → Option Rv} {s : List Nat} {y : Rv} : kS1b f s Q y g = SatO (f s y) Q g := rfl
def kLm (f : List D → D → Option Int) (b : ME γ) (e : Env) (Q : Rv → γ → Prop) (x : Rv) (g : γ) : Prop := match x.items with
  | some l => Sat (b e g) fun y g2 => SatO (f l y.val) (fun n g => Q (.dat (.int n)) g) g2
  | none => False
def kLmb (f : List D → D → Option Int) (l : List D) (Q : Rv → γ → Prop) (y : Rv) (g : γ) : Prop := SatO (f l y.val) (fun n g => Q (.dat (.int n)) g) g
theorem S_lm {f : List D → D → Option Int} : Sat (mLm f a b e g) Q = Sat (a e g) (kLm f b e Q) := by
  unfold mLm
  rw [Sat_bind]
  congr 1
  funext x g
  unfold kLm
  cases x.items with
  | none => rfl
  | some l =>
    dsimp only
    rw [Sat_bind]
    congr 1
    funext y g2
    rw [Sat_ofO]
    cases f l y.val <;> rfl
theorem kLm_bor {f : List D → D → Option Int} {l : List D} : kLm f b e Q (.bor l) g = Sat (b e g) (kLmb f l Q) := rfl
theorem kLm_own {f : List D → D → Option Int} {l : List D} : kLm f b e Q (.own l) g = Sat (b e g) (kLmb f l Q) := rfl
theorem kLmb_ {f : List D → D → Option Int} {l : List D} {d : D} : kLmb f l Q (.dat d) g = SatO (f l d) (fun n g => Q (.dat (.int n)) g) g := rfl
def kTab (tab : List (List Nat × D)) (Q : Rv → γ → Prop) (y : Rv) (g : γ) : Prop := match y with
  | .dat (.str s) => SatO (tab.find? (fun q => q.1 == s)) (fun q g => Q (.dat q.2) g) g
  | _ => False
theorem S_tab {tab : List (List Nat × D)} : Sat (mTab tab a e g) Q = Sat (a e g) (kTab tab Q) := by
  unfold mTab
  rw [Sat_bind]
  congr 1
  funext x g
  unfold kTab
  cases x with
  | dat d =>
    cases d with
    | str s =>
      dsimp only
      rw [Sat_ofO]
      cases tab.find? (fun q => q.1 == s) <;> rfl
    | _ => rfl
  | own d => rfl
  | bor d => rfl
  | odt _ _ _ => rfl
  | bdt _ _ _ => rfl
end
theorem dStrs_map {α : Type} (f : α → List Nat) (ls : List α) : dStrs (ls.map fun x => .str (f x)) = some (ls.map f) := by
  induction ls with
  | nil => rfl
  | cons x xs ih =>
    rw [List.map_cons, List.map_cons]
    show (dStrs _).map _ = _
    rw [ih]
    rfl
theorem joinL_nil (ls : List (List Nat)) : joinL [] ls = ls.flatten := by
  match ls with
  | [] => rfl
  | [x] => simp [joinL]
  | x :: y :: r =>
    have := joinL_nil (y :: r)
    simp only [joinL, List.append_nil, List.flatten_cons] at *
    rw [this]
theorem o_join {α : Type} (f : α → List Nat) (ls : List α) (h : (ls.map fun x => (f x).length).sum ≤ SZ) : oJoin [] (.own (ls.map fun x => .str (f x))) = some (.dat (.str (ls.flatMap f))) := by
  unfold oJoin
  show (match dStrs (ls.map fun x => .str (f x)) with | some ss => _ | none => none) = _
  rw [dStrs_map]
  dsimp only
  rw [if_pos (by
    rw [List.map_map]
    show (List.map (fun x => (f x).length) ls).sum + 0 * _ ≤ SZ
    rw [Nat.zero_mul]
    exact h), joinL_nil]
  rfl
theorem rng_lenD (i : Int) (n : Nat) : (rng i n).length = n := by
  induction n generalizing i with
  | zero => rfl
  | succ n ih => rw [rng, List.length_cons, ih]
theorem rng_map (n : Nat) : ∀ (i : Int), rng i n = (List.range n).map fun k => D.int (i + (k : Nat)) := by
  induction n with
  | zero => intro i; rfl
  | succ n ih =>
    intro i
    rw [rng, ih, List.range_succ_eq_map, List.map_cons, List.map_map]
    congr 1
    · simp
    · apply List.map_congr_left
      intro k _
      show D.int _ = D.int _
      congr 1
      show i + 1 + (k : Int) = i + ((k + 1 : Nat) : Int)
      omega
theorem log2_lt {a n : Nat} (h : a < 2 ^ n) (hn : 0 < n) : a.log2 < n := by
  by_cases h0 : a = 0
  · subst h0
    exact hn
  · exact (Nat.log2_lt h0).mpr h
theorem mulOk {i j : Int} {a b : Nat} (hi : i.natAbs < 2 ^ a) (hj : j.natAbs < 2 ^ b) (h : a + b ≤ 1000000) (ha : 0 < a) (hb : 0 < b) : MulOk i j := by
  have h1 := log2_lt hi ha
  have h2 := log2_lt hj hb
  show _ + _ < _
  omega
theorem divOk {j : Int} {b : Nat} (h0 : 0 < j) (hj : j.natAbs < 2 ^ b) (h : b ≤ 9000) (hb : 0 < b) : DivOk j := ⟨h0, by have := log2_lt hj hb; omega⟩
end PB
set_option Elab.async false
set_option linter.all false
set_option maxRecDepth 10000
set_option exponentiation.threshold 2000
namespace PB
def mixM : MS LS := (mSeq (mIncC 0)
    (mSeq (mSet 1 (mCnt 0))
    (mSeq (mSet 2 (mC (.int 5)))
    (mSeq (mIfS (mHasC 0) (mSet 2 (mAtC 0 (mOp2 oMod (mVar 1) (mLenC 0)))) mPass)
    (mSeq (mSet 3 (mOp2 oMod (mOp2 oPow (mOp2 oAdd (mOp2 oAdd (mOp2 oAdd (mVar 2) (mOp2 oMul (mOp2 oMul (mC (.int 1009)) (mVar 1)) (mVar 1))) (mOp2 oMul (mC (.int 48611)) (mVar 1))) (mC (.int 17))) (mC (.int 5))) (mC (.int 2147483647))))
    (mRet (mOp2 oMod (mOp2 oAdd (mOp2 oMul (mVar 3) (mC (.int 39373))) (mOp2 oMul (mC (.int 7919)) (mVar 1))) (mC (.int 1000000007)))))))))
def mixF : MF LS := mDef 4 1 mixM
def drawM : MS LS := (mSeq (mIfS (mAnd (mTest (mOp2 oEq (mTold 0) (mC (.int 0)))) (mHasG 0)) (mPopG 0) mPass)
    (mSeq (mIfS (mTest (mOp2 oGt (mTold 0) (mC (.int 0)))) (mSeq (mSet 2 (mOp2 oMod (mTold 0) (mVar 1)))
    (mSeq (mSetTold 0 (mOp2 oDiv (mTold 0) (mVar 1)))
    (mRet (mVar 2)))) mPass)
    (mSeq (mSet 2 (mC (.int 0)))
    (mSeq (mSet 3 (mC (.int 1)))
    (mSeq (mWhile (mTest (mOp2 oLt (mVar 3) (mVar 1))) (mSeq (mSet 2 (mOp2 oAdd (mOp2 oMul (mVar 2) (mC (.int 1000000007))) (mCall mixF (mCons (mVar 0) mNil))))
    (mSet 3 (mOp2 oMul (mVar 3) (mC (.int 1000000007))))) 100)
    (mRet (mOp2 oMod (mVar 2) (mVar 1))))))))
def drawF : MF LS := mDef 4 2 drawM
theorem bpow_le {j k : Nat} (h : j ≤ k) : (1000000007 : Int) ^ j ≤ 1000000007 ^ k := by
  have e : ∀ j : Nat, (1000000007 : Int) ^ j = ((1000000007 ^ j : Nat) : Int) := fun j => by
    rw [Int.natCast_pow]
    rfl
  rw [e, e]
  exact Int.ofNat_le.mpr (Nat.pow_le_pow_right (by decide) h)
/-- the state, so many draws to come -/
structure Bud (a b : Nat) (s : LS) : Prop where
  ok : s.Ok
  ea : s.a = a
  cn : s.cnt + 16 * b ≤ 100000000
theorem Bud.le {a b c : Nat} {s : LS} (h : Bud a b s) (k : c ≤ b) : Bud a c s := ⟨h.ok, h.ea, by have := h.cn; omega⟩
theorem isSt_ {e : Env} {i a : Nat} {s : LS} (h : gt e i = .dat (.ref a)) (k : s.a = a) : isSt e i s = true := by
  unfold isSt
  rw [h]
  simp [k]
section
variable {e : Env} {i a b : Nat} {s : LS} {Q : Rv → LS → Prop} {QS : Fl → LS → Prop} {QB : Bool → LS → Prop}
theorem S_told (h : isSt e i s = true) : Sat (mTold i e s) Q = Q (.dat (.int s.told)) s := by
  unfold mTold
  rw [if_pos h]
  rfl
theorem S_cnt (h : isSt e i s = true) : Sat (mCnt i e s) Q = Q (.dat (.int s.cnt)) s := by
  unfold mCnt
  rw [if_pos h]
  rfl
theorem S_hasG (h : isSt e i s = true) : Sat (mHasG i e s) QB = QB (!s.gr.isEmpty) s := by
  unfold mHasG
  rw [if_pos h]
  rfl
theorem S_hasC (h : isSt e i s = true) : Sat (mHasC i e s) QB = QB (!s.cs.isEmpty) s := by
  unfold mHasC
  rw [if_pos h]
  rfl
theorem S_incC (h : isSt e i s = true) : Sat (mIncC i e s) QS = QS (.nx e) { s with cnt := s.cnt + 1 } := by
  unfold mIncC
  rw [if_pos h]
  rfl
end
theorem atI_nat {α : Type} {xs : List α} {i : Int} (h0 : 0 ≤ i) (h1 : i < xs.length) : ∃ x, x ∈ xs ∧ atI xs i = some x := by
  have hi : i.toNat < xs.length := by omega
  refine ⟨xs[i.toNat], List.getElem_mem hi, ?_⟩
  unfold atI ixN
  rw [if_pos h0, if_pos h1]
  show xs[i.toNat]? = _
  exact List.getElem?_eq_getElem hi
theorem pw5 {x : Int} (h0 : 0 ≤ x) (h1 : x < 2 ^ 64) : PowOk x 5 := ⟨by decide, by decide, by omega⟩
theorem S_mix {a b : Nat} {s : LS} {Q : Rv → LS → Prop} (h : s.Ok) (ea : s.a = a) (hc : s.cnt < 100000000)
    (q : ∀ k : Int, 0 ≤ k → k < 1000000007 → Q (.dat (.int k)) { s with cnt := s.cnt + 1 }) : Sat (mixF [.ref a] s) Q := by
  unfold mixF
  rw [S_def (k := 1) (ds := [.ref a]) rfl]
  show Sat (mixM [.dat (.ref a), .un, .un, .un] s) _
  unfold mixM
  rw [S_seq, S_incC (isSt_ rfl ea), kS_nx, S_seq, S_set, S_cnt (s := { s with cnt := s.cnt + 1 }) (isSt_ rfl ea), kSet_dat, kS_nx, S_seq, S_set, S_C, kSet_dat, kS_nx]
  dsimp only [st]
  rw [S_seq, S_ifS, S_hasC (s := { s with cnt := s.cnt + 1 }) (isSt_ rfl ea)]
  have fin : ∀ c : Int, 0 ≤ c → c < 2147483648 → Sat ((mSeq (mSet 3 (mOp2 oMod (mOp2 oPow (mOp2 oAdd (mOp2 oAdd (mOp2 oAdd (mVar 2) (mOp2 oMul (mOp2 oMul (mC (.int 1009)) (mVar 1)) (mVar 1))) (mOp2 oMul (mC (.int 48611)) (mVar 1))) (mC (.int 17))) (mC (.int 5))) (mC (.int 2147483647))))
    (mRet (mOp2 oMod (mOp2 oAdd (mOp2 oMul (mVar 3) (mC (.int 39373))) (mOp2 oMul (mC (.int 7919)) (mVar 1))) (mC (.int 1000000007))))) [.dat (.ref a), .dat (.int ((s.cnt + 1 : Nat) : Int)), .dat (.int c), .un] { s with cnt := s.cnt + 1 }) (kD Q) := by
    intro c c0 c1
    have hn : (s.cnt + 1 : Nat) ≤ 100000000 := by omega
    have hn0 : 0 ≤ ((s.cnt + 1 : Nat) : Int) := by omega
    have hn1 : ((s.cnt + 1 : Nat) : Int) ≤ 100000000 := by omega
    generalize ((s.cnt + 1 : Nat) : Int) = n at *
    rw [S_seq, S_set, S_op2, S_op2, S_op2, S_op2, S_op2, S_var]
    dsimp only [gt]
    rw [kVar_dat, k2_, S_op2, S_op2, S_C, k2_, S_var]
    dsimp only [gt]
    rw [kVar_dat, k2b_, o_mul (mulOk (a := 10) (b := 27) (by decide) (by omega) (by decide) (by decide) (by decide)), SatO_some, k2_, S_var]
    dsimp only [gt]
    have b1 : 0 ≤ 1009 * n := by omega
    have b2 : 1009 * n ≤ 100900000000 := by omega
    have b3 : 0 ≤ 1009 * n * n := Int.mul_nonneg b1 hn0
    have b4 : 1009 * n * n ≤ 100900000000 * 100000000 := Int.mul_le_mul b2 hn1 hn0 (by decide)
    rw [kVar_dat, k2b_, o_mul (mulOk (a := 40) (b := 27) (by omega) (by omega) (by decide) (by decide) (by decide)), SatO_some, k2b_, o_add, SatO_some, k2_, S_op2, S_C, k2_, S_var]
    dsimp only [gt]
    rw [kVar_dat, k2b_, o_mul (mulOk (a := 20) (b := 27) (by decide) (by omega) (by decide) (by decide) (by decide)), SatO_some, k2b_, o_add, SatO_some, k2_, S_C, k2b_, o_add, SatO_some, k2_, S_C, k2b_, o_pow (pw5 (by omega) (by omega)), SatO_some, k2_, S_C, k2b_, o_mod (by decide), SatO_some, kSet_dat, kS_nx]
    dsimp only [st]
    have m0 := Int.emod_nonneg ((c + 1009 * n * n + 48611 * n + 17) ^ (5 : Int).toNat) (show (2147483647 : Int) ≠ 0 by decide)
    have m1 := Int.emod_lt_of_pos ((c + 1009 * n * n + 48611 * n + 17) ^ (5 : Int).toNat) (show (0 : Int) < 2147483647 by decide)
    generalize (c + 1009 * n * n + 48611 * n + 17) ^ (5 : Int).toNat % 2147483647 = m at *
    rw [S_ret', S_op2, S_op2, S_op2, S_var]
    dsimp only [gt]
    rw [kVar_dat, k2_, S_C, k2b_, o_mul (mulOk (a := 32) (b := 20) (by omega) (by decide) (by decide) (by decide) (by decide)), SatO_some, k2_, S_op2, S_C, k2_, S_var]
    dsimp only [gt]
    rw [kVar_dat, k2b_, o_mul (mulOk (a := 20) (b := 27) (by decide) (by omega) (by decide) (by decide) (by decide)), SatO_some, k2b_, o_add, SatO_some, k2_, S_C, k2b_, o_mod (by decide), SatO_some, kR_, kD_rt]
    exact q _ (Int.emod_nonneg _ (by decide)) (Int.emod_lt_of_pos _ (by decide))
  cases hcs : s.cs.isEmpty with
  | true => exact fin 5 (by decide) (by decide)
  | false =>
    show Sat (mSet 2 (mAtC 0 (mOp2 oMod (mVar 1) (mLenC 0))) _ _) _
    have hl : 0 < s.cs.length := by
      cases hq : s.cs with
      | nil =>
        rw [hq] at hcs
        cases hcs
      | cons x xs => simp
    have r0 := Int.emod_nonneg ((s.cnt + 1 : Nat) : Int) (show ((s.cs.length : Nat) : Int) ≠ 0 by omega)
    have r1 := Int.emod_lt_of_pos ((s.cnt + 1 : Nat) : Int) (show (0 : Int) < (s.cs.length : Nat) by omega)
    obtain ⟨x, hx, ex⟩ := atI_nat r0 r1
    have hx2 := h.2.2 x hx
    have key : mAtC 0 (mOp2 oMod (mVar 1) (mLenC 0)) [.dat (.ref a), .dat (.int ((s.cnt + 1 : Nat) : Int)), .dat (.int 5), .un] { s with cnt := s.cnt + 1 } = .ok (.dat (.int x)) { s with cnt := s.cnt + 1 } := by
      unfold mAtC mOp2 mVar mLenC
      have z : ∀ m, isSt [.dat (.ref a), .dat (.int ((s.cnt + 1 : Nat) : Int)), .dat (.int 5), .un] 0 { s with cnt := m } = true := fun m => isSt_ rfl ea
      rw [if_pos (z _)]
      dsimp only [gt, Rs.bind_ok]
      rw [if_pos (z _)]
      dsimp only [Rs.bind_ok]
      rw [o_mod (by omega), ofO_some]
      dsimp only [Rs.bind_ok]
      rw [if_pos (z _), ex]
      rfl
    rw [S_set, key, Sat_ok, kSet_dat, kS_nx]
    exact fin x hx2.1 (by omega)
/-- a draw -/
theorem S_draw {a b : Nat} {n : Int} {s : LS} {Q : Rv → LS → Prop} (h : Bud a (b + 1) s) (n0 : 0 < n) (n1 : n ≤ 10 ^ 90)
    (q : ∀ (k : Int) (s' : LS), 0 ≤ k → k < n → Bud a b s' → Q (.dat (.int k)) s') : Sat (drawF [.ref a, .int n] s) Q := by
  have nb : n.natAbs < 2 ^ 300 := by
    have : (10 : Int) ^ 90 < 2 ^ 300 := by decide
    omega
  have hcn := h.cn
  -- with a number told
  have told : ∀ s' : LS, s'.Ok → s'.a = a → s'.cnt = s.cnt → 0 < s'.told → Sat ((mSeq (mSet 2 (mOp2 oMod (mTold 0) (mVar 1)))
    (mSeq (mSetTold 0 (mOp2 oDiv (mTold 0) (mVar 1)))
    (mRet (mVar 2)))) [.dat (.ref a), .dat (.int n), .un, .un] s') (fun f g => kD Q f g ∧ ∃ r, f = .rt r) := by
    intro s' h1 h2 h3 h4
    rw [S_seq, S_set, S_op2, S_told (isSt_ rfl h2), k2_, S_var]
    dsimp only [gt]
    rw [kVar_dat, k2b_, o_mod n0, SatO_some, kSet_dat, kS_nx]
    dsimp only [st]
    have key : mSetTold 0 (mOp2 oDiv (mTold 0) (mVar 1)) [.dat (.ref a), .dat (.int n), .dat (.int (s'.told % n)), .un] s' = .ok (.nx [.dat (.ref a), .dat (.int n), .dat (.int (s'.told % n)), .un]) { s' with told := s'.told / n } := by
      unfold mSetTold mOp2 mVar mTold
      have z : isSt [.dat (.ref a), .dat (.int n), .dat (.int (s'.told % n)), .un] 0 s' = true := isSt_ rfl h2
      rw [if_pos z]
      dsimp only [gt, Rs.bind_ok]
      rw [o_div (divOk n0 nb (by decide) (by decide)), ofO_some]
      dsimp only [Rs.bind_ok]
      rw [if_pos z]
    rw [S_seq, key, Sat_ok, kS_nx, S_ret', S_var]
    dsimp only [gt]
    rw [kVar_dat, kR_]
    refine ⟨?_, _, rfl⟩
    rw [kD_rt]
    refine q _ _ (Int.emod_nonneg _ (by omega)) (Int.emod_lt_of_pos _ n0) ⟨⟨?_, h1.2.1, h1.2.2⟩, h2, ?_⟩
    · show 0 ≤ s'.told / n
      exact Int.ediv_nonneg (by omega) (by omega)
    · show s'.cnt + 16 * b ≤ _
      omega
  -- the rest
  have rest : ∀ s' : LS, s'.Ok → s'.a = a → s'.cnt = s.cnt → Sat ((mSeq (mSet 2 (mC (.int 0)))
    (mSeq (mSet 3 (mC (.int 1)))
    (mSeq (mWhile (mTest (mOp2 oLt (mVar 3) (mVar 1))) (mSeq (mSet 2 (mOp2 oAdd (mOp2 oMul (mVar 2) (mC (.int 1000000007))) (mCall mixF (mCons (mVar 0) mNil))))
    (mSet 3 (mOp2 oMul (mVar 3) (mC (.int 1000000007))))) 100)
    (mRet (mOp2 oMod (mVar 2) (mVar 1)))))) [.dat (.ref a), .dat (.int n), .un, .un] s') (kD Q) := by
    intro s' h1 h2 h3
    rw [S_seq, S_set, S_C, kSet_dat, kS_nx, S_seq, S_set, S_C, kSet_dat, kS_nx]
    dsimp only [st]
    rw [S_seq]
    refine S_while (fun m e g => ∃ (t z : Int) (j : Nat), e = [.dat (.ref a), .dat (.int n), .dat (.int t), .dat (.int z)] ∧ g.Ok ∧ g.a = a ∧ g.cnt = s.cnt + j ∧ j + m = 12 ∧ z = 1000000007 ^ j ∧ 0 ≤ t ∧ t < z) 12 ⟨0, 1, 0, rfl, h1, h2, h3, rfl, rfl, by decide, by decide⟩ (by decide) ?_
    rintro m e g ⟨t, z, j, rfl, g1, g2, g3, g4, g5, g6, g7⟩
    rw [S_test, S_op2, S_var]
    dsimp only [gt]
    rw [kVar_dat, k2_, S_var]
    dsimp only [gt]
    rw [kVar_dat, k2b_, o_lt, SatO_some, kTest_]
    have zle : ∀ j : Nat, j ≤ 12 → (1000000007 : Int) ^ j < 2 ^ 400 := fun j hj => by
      have e1 : (1000000007 : Int) ^ j ≤ 1000000007 ^ 12 := bpow_le hj
      have e2 : (1000000007 : Int) ^ 12 < 2 ^ 400 := by decide
      omega
    have zpos : (0 : Int) < 1000000007 ^ j := Int.pow_pos (by decide)
    by_cases hz : z < n
    · rw [decide_eq_true hz]
      dsimp only
      have hj : j < 11 := by
        by_cases hj : j < 11
        · exact hj
        · exfalso
          have e1 : (1000000007 : Int) ^ 11 ≤ 1000000007 ^ j := bpow_le (by omega)
          have e2 : (10 : Int) ^ 90 < 1000000007 ^ 11 := by decide
          omega
      have zb := zle j (by omega)
      rw [S_seq, S_set, S_op2, S_op2, S_var]
      dsimp only [gt]
      rw [kVar_dat, k2_, S_C, k2b_, o_mul (mulOk (a := 400) (b := 32) (by omega) (by decide) (by decide) (by decide) (by decide)), SatO_some, k2_, S_call, S_cons, S_var]
      dsimp only [gt]
      rw [kVar_dat, kc_, S_nil, kcb_, kCall_ (ds := [.ref a]) rfl]
      refine S_mix (b := 0) g1 g2 (by omega) fun k k0 k1 => ?_
      rw [k2b_, o_add, SatO_some, kSet_dat, kS_nx]
      dsimp only [st]
      rw [S_set, S_op2, S_var]
      dsimp only [gt]
      rw [kVar_dat, k2_, S_C, k2b_, o_mul (mulOk (a := 400) (b := 32) (by omega) (by decide) (by decide) (by decide) (by decide)), SatO_some, kSet_dat]
      dsimp only [st]
      refine ⟨m - 1, by omega, _, _, j + 1, rfl, g1, g2, ?_, by omega, ?_, ?_, ?_⟩
      · show g.cnt + 1 = _
        omega
      · rw [g5, Int.pow_succ]
      · omega
      · omega
    · rw [decide_eq_false hz]
      dsimp only
      rw [kS_nx, S_ret', S_op2, S_var]
      dsimp only [gt]
      rw [kVar_dat, k2_, S_var]
      dsimp only [gt]
      rw [kVar_dat, k2b_, o_mod n0, SatO_some, kR_, kD_rt]
      exact q _ _ (Int.emod_nonneg _ (by omega)) (Int.emod_lt_of_pos _ n0) ⟨g1, g2, by omega⟩
  unfold drawF
  rw [S_def (k := 2) (ds := [.ref a, .int n]) rfl]
  show Sat (drawM [.dat (.ref a), .dat (.int n), .un, .un] s) _
  unfold drawM
  -- behind the first statement
  have mid : ∀ s' : LS, s'.Ok → s'.a = a → s'.cnt = s.cnt → Sat ((mSeq (mIfS (mTest (mOp2 oGt (mTold 0) (mC (.int 0)))) (mSeq (mSet 2 (mOp2 oMod (mTold 0) (mVar 1)))
    (mSeq (mSetTold 0 (mOp2 oDiv (mTold 0) (mVar 1)))
    (mRet (mVar 2)))) mPass)
    (mSeq (mSet 2 (mC (.int 0)))
    (mSeq (mSet 3 (mC (.int 1)))
    (mSeq (mWhile (mTest (mOp2 oLt (mVar 3) (mVar 1))) (mSeq (mSet 2 (mOp2 oAdd (mOp2 oMul (mVar 2) (mC (.int 1000000007))) (mCall mixF (mCons (mVar 0) mNil))))
    (mSet 3 (mOp2 oMul (mVar 3) (mC (.int 1000000007))))) 100)
    (mRet (mOp2 oMod (mVar 2) (mVar 1))))))) [.dat (.ref a), .dat (.int n), .un, .un] s') (kD Q) := by
    intro s' h1 h2 h3
    rw [S_seq, S_ifS, S_test, S_op2, S_told (isSt_ rfl h2), k2_, S_C, k2b_, o_gt, SatO_some, kTest_]
    refine kI_d (fun hp => ?_) (fun _ => ?_)
    · refine (told s' h1 h2 h3 hp).mono fun f g ⟨w, r, e⟩ => ?_
      subst e
      exact w
    · exact rest s' h1 h2 h3
  rw [S_seq, S_ifS, S_and, S_test, S_op2, S_told (isSt_ rfl h.ea), k2_, S_C, k2b_, o_eq, SatO_some, kTest_]
  by_cases ht : s.told = 0
  · rw [decide_eq_true ht, kAnd_true, S_hasG (isSt_ rfl h.ea)]
    cases hg : s.gr with
    | nil => exact mid s h.ok h.ea rfl
    | cons x r =>
      show Sat (mPopG 0 _ s) _
      have key : mPopG 0 [.dat (.ref a), .dat (.int n), .un, .un] s = .ok (.nx [.dat (.ref a), .dat (.int n), .un, .un]) { s with gr := r, told := x } := by
        unfold mPopG
        rw [if_pos (isSt_ rfl h.ea), hg]
      rw [key, Sat_ok, kS_nx]
      have hx := h.ok.2.1
      rw [hg] at hx
      exact mid _ ⟨Int.le_of_lt (hx x (by simp)), fun y hy => hx y (by simp [hy]), h.ok.2.2⟩ h.ea rfl
  · rw [decide_eq_false ht, kAnd_false]
    exact mid s h.ok h.ea rfl
end PB
set_option Elab.async false
set_option linter.all false
set_option maxRecDepth 10000
set_option exponentiation.threshold 2000
namespace PB
def v3 (x y z : Int) : D := .tup [.int x, .int y, .int z]
def wholeM : MS LS := (mRet (mAndV (mOp1 (oIs .int) (mVar 0)) (mNotV (mOp1 (oIs .bool) (mVar 0)))))
def wholeF : MF LS := mDef 1 1 wholeM
def sameM (F : MF LS) : MS LS := (mSeq (mIfS (mTest (mOp1 (oIs .tuple) (mVar 1))) (mSeq (mIfS (mOr (mNot (mTest (mOp1 (oIs .tuple) (mVar 0)))) (mTest (mOp2 oNe (mOpN oLen (mCons (mVar 0) mNil)) (mOpN oLen (mCons (mVar 1) mNil))))) (mRet (mC (.bl false))) mPass)
    (mRet (mOpN oAll (mCons (mLc (mZip2 (mVar 0) (mVar 1)) (tgT [2, 3]) mYes (mCall F (mCons (mVar 2) (mCons (mVar 3) mNil))) [2, 3]) mNil)))) mPass)
    (mSeq (mIfS (mTest (mOp1 oIsN (mVar 1))) (mRet (mOp1 oIsN (mVar 0))) mPass)
    (mSeq (mIfS (mTest (mOp1 (oIs .bool) (mVar 1))) (mRet (mAndV (mOp1 (oIs .bool) (mVar 0)) (mOp2 oEq (mVar 0) (mVar 1)))) mPass)
    (mSeq (mIfS (mTest (mOp1 (oIs .int) (mVar 1))) (mRet (mAndV (mCall wholeF (mCons (mVar 0) mNil)) (mOp2 oEq (mVar 0) (mVar 1)))) mPass)
    (mRet (mAndV (mOp1 (oIs .str) (mVar 0)) (mOp2 oEq (mVar 0) (mVar 1))))))))
def sameF : Nat → MF LS
  | 0 => fun _ _ => .no
  | n + 1 => mDef 4 2 (sameM (sameF n))
mutual
/-- numbers, texts, truths, None, and tuples of such, not deeper than n -/
def plainN : Nat → D → Bool
  | _, .non => true
  | _, .bl _ => true
  | _, .int _ => true
  | _, .str _ => true
  | n + 1, .tup ds => plainL n ds && decide (ds.length ≤ SZ)
  | _, _ => false
def plainL : Nat → List D → Bool
  | _, [] => true
  | n, d :: ds => plainN n d && plainL n ds
end
theorem plainL_mem {n : Nat} {ds : List D} (h : plainL n ds = true) : ∀ d ∈ ds, plainN n d = true := by
  induction ds with
  | nil => intro d hd; cases hd
  | cons x xs ih =>
    unfold plainL at h
    rw [Bool.and_eq_true] at h
    intro d hd
    rcases List.mem_cons.mp hd with rfl | hd
    · exact h.1
    · exact ih h.2 d hd
theorem zipD_mem {ds : List D} : ∀ d ∈ zipD ds ds, ∃ x ∈ ds, d = .tup [x, x] := by
  induction ds with
  | nil => intro d hd; cases hd
  | cons x xs ih =>
    intro d hd
    rcases List.mem_cons.mp hd with rfl | hd
    · exact ⟨x, by simp, rfl⟩
    · obtain ⟨y, hy, e⟩ := ih d hd
      exact ⟨y, by simp [hy], e⟩
theorem zipD_len {ds es : List D} : (zipD ds es).length ≤ ds.length := by
  induction ds generalizing es with
  | nil => simp [zipD]
  | cons x xs ih =>
    cases es with
    | nil => simp [zipD]
    | cons y ys =>
      have := ih (es := ys)
      simp only [zipD, List.length_cons]
      omega
theorem S_whole {i : Int} {s : LS} {Q : Rv → LS → Prop} (q : Q (.dat (.bl true)) s) : Sat (wholeF [.int i] s) Q := q
/-- what is due is found -/
theorem S_same {n : Nat} {s : LS} : ∀ {d : D} {Q : Rv → LS → Prop}, plainN n d = true → Q (.dat (.bl true)) s → Sat (sameF (n + 1) [d, d] s) Q := by
  induction n with
  | zero =>
    intro d Q h q
    cases d with
    | tup ds => cases h
    | lst ds => cases h
    | ref a => cases h
    | dct t ks vs => cases h
    | non => exact q
    | bl b =>
      cases b <;> exact q
    | int i =>
      unfold sameF
      rw [S_def (k := 2) (ds := [.int i, .int i]) rfl]
      show Sat (sameM (sameF 0) [.dat (.int i), .dat (.int i), .un, .un] s) _
      unfold sameM
      simp only [S_var, S_C, S_op1, k1_, S_op2, k2_, k2b_, S_nil, S_cons, kc_, kcb_, S_opN, kN_, S_tup, S_lst, kT_u, kL_u, stoL_nil, stoL_dat, stoL_own, consO_some, SatO_some, S_call, kCall_u, S_if, S_ifS, kI_true, kI_false, S_andV, S_orV, kAndV_true, kAndV_false, kOrV_true, kOrV_false, S_test, kTest_, S_tru, kTru_, S_and, S_or, S_not, kAnd_true, kAnd_false, kOr_true, kOr_false, kNot_, S_seq, kS_nx, kS_rt, kS_bk, kS_ct, S_pass, S_set, kSet_dat, kSet_own, S_par, kP_, kPb_, S_ret', kR_, S_retN, S_break, S_cont, S_for, kF_, S_forNil, kFb_nx, kFb_ct, kFb_bk, kFb_rt, S_items, kItems_tup, kItems_lst, kItems_own, S_lc, kLc_, S_lcNil, S_yes, kD_rt, kD_nx, Rv.ret, gt, st, kVar_dat, kVar_own, o_add, o_sub, o_eq, o_ne, o_lt, o_le, o_gt, o_ge, o_eqB, o_neB, o_is2, o_isnot2, o_abs, o_ix, o_ixO, o_ixB, o_ixL, o_tupO, o_isBool, map_some', wp, tgN_, List.length_cons, List.length_nil, Nat.reduceAdd, Nat.reduceLeDiff, true_and, decide_true, decide_false, Bool.not_true, Bool.not_false, o_mul_u, o_div_u, o_mod_u, o_pow_u, o_eqS, o_neS, o_intB, o_lenS, o_lenO, o_lenB, o_iaddI, S_s1, kS1_, kS1b_, S_lm, kLm_bor, kLm_own, kLmb_, S_tab, o_ixT, o_ixS, S_put, kPut_, kPutK_, S_zip2, kZip_, kZipb_tup, o_sum, o_sumB, o_tupB, o_tupL, o_lenT, S_range1, kRng_3, S_tgtL, kTgtL_, List.nil_append, List.cons_append, Nat.reduceLT, SZ, forall_const, true_implies, oIs, isTy, oIsN, isNon, dB, Rv.val]
      refine S_whole ?_
      simp only [S_var, S_C, S_op1, k1_, S_op2, k2_, k2b_, S_nil, S_cons, kc_, kcb_, S_opN, kN_, S_tup, S_lst, kT_u, kL_u, stoL_nil, stoL_dat, stoL_own, consO_some, SatO_some, S_call, kCall_u, S_if, S_ifS, kI_true, kI_false, S_andV, S_orV, kAndV_true, kAndV_false, kOrV_true, kOrV_false, S_test, kTest_, S_tru, kTru_, S_and, S_or, S_not, kAnd_true, kAnd_false, kOr_true, kOr_false, kNot_, S_seq, kS_nx, kS_rt, kS_bk, kS_ct, S_pass, S_set, kSet_dat, kSet_own, S_par, kP_, kPb_, S_ret', kR_, S_retN, S_break, S_cont, S_for, kF_, S_forNil, kFb_nx, kFb_ct, kFb_bk, kFb_rt, S_items, kItems_tup, kItems_lst, kItems_own, S_lc, kLc_, S_lcNil, S_yes, kD_rt, kD_nx, Rv.ret, gt, st, kVar_dat, kVar_own, o_add, o_sub, o_eq, o_ne, o_lt, o_le, o_gt, o_ge, o_eqB, o_neB, o_is2, o_isnot2, o_abs, o_ix, o_ixO, o_ixB, o_ixL, o_tupO, o_isBool, map_some', wp, tgN_, List.length_cons, List.length_nil, Nat.reduceAdd, Nat.reduceLeDiff, true_and, decide_true, decide_false, Bool.not_true, Bool.not_false, o_mul_u, o_div_u, o_mod_u, o_pow_u, o_eqS, o_neS, o_intB, o_lenS, o_lenO, o_lenB, o_iaddI, S_s1, kS1_, kS1b_, S_lm, kLm_bor, kLm_own, kLmb_, S_tab, o_ixT, o_ixS, S_put, kPut_, kPutK_, S_zip2, kZip_, kZipb_tup, o_sum, o_sumB, o_tupB, o_tupL, o_lenT, S_range1, kRng_3, S_tgtL, kTgtL_, List.nil_append, List.cons_append, Nat.reduceLT, SZ, forall_const, true_implies]
      exact q
    | str i =>
      unfold sameF
      rw [S_def (k := 2) (ds := [.str i, .str i]) rfl]
      show Sat (sameM (sameF 0) [.dat (.str i), .dat (.str i), .un, .un] s) _
      unfold sameM
      simp only [S_var, S_C, S_op1, k1_, S_op2, k2_, k2b_, S_nil, S_cons, kc_, kcb_, S_opN, kN_, S_tup, S_lst, kT_u, kL_u, stoL_nil, stoL_dat, stoL_own, consO_some, SatO_some, S_call, kCall_u, S_if, S_ifS, kI_true, kI_false, S_andV, S_orV, kAndV_true, kAndV_false, kOrV_true, kOrV_false, S_test, kTest_, S_tru, kTru_, S_and, S_or, S_not, kAnd_true, kAnd_false, kOr_true, kOr_false, kNot_, S_seq, kS_nx, kS_rt, kS_bk, kS_ct, S_pass, S_set, kSet_dat, kSet_own, S_par, kP_, kPb_, S_ret', kR_, S_retN, S_break, S_cont, S_for, kF_, S_forNil, kFb_nx, kFb_ct, kFb_bk, kFb_rt, S_items, kItems_tup, kItems_lst, kItems_own, S_lc, kLc_, S_lcNil, S_yes, kD_rt, kD_nx, Rv.ret, gt, st, kVar_dat, kVar_own, o_add, o_sub, o_eq, o_ne, o_lt, o_le, o_gt, o_ge, o_eqB, o_neB, o_is2, o_isnot2, o_abs, o_ix, o_ixO, o_ixB, o_ixL, o_tupO, o_isBool, map_some', wp, tgN_, List.length_cons, List.length_nil, Nat.reduceAdd, Nat.reduceLeDiff, true_and, decide_true, decide_false, Bool.not_true, Bool.not_false, o_mul_u, o_div_u, o_mod_u, o_pow_u, o_eqS, o_neS, o_intB, o_lenS, o_lenO, o_lenB, o_iaddI, S_s1, kS1_, kS1b_, S_lm, kLm_bor, kLm_own, kLmb_, S_tab, o_ixT, o_ixS, S_put, kPut_, kPutK_, S_zip2, kZip_, kZipb_tup, o_sum, o_sumB, o_tupB, o_tupL, o_lenT, S_range1, kRng_3, S_tgtL, kTgtL_, List.nil_append, List.cons_append, Nat.reduceLT, SZ, forall_const, true_implies, oIs, isTy, oIsN, isNon, dB, Rv.val]
      rw [beq_self_eq_true]
      exact q
  | succ n ih =>
    intro d Q h q
    cases d with
    | lst ds => cases h
    | ref a => cases h
    | dct t ks vs => cases h
    | non => exact q
    | bl b =>
      cases b <;> exact q
    | int i =>
      unfold sameF
      rw [S_def (k := 2) (ds := [.int i, .int i]) rfl]
      show Sat (sameM (sameF (n + 1)) [.dat (.int i), .dat (.int i), .un, .un] s) _
      unfold sameM
      simp only [S_var, S_C, S_op1, k1_, S_op2, k2_, k2b_, S_nil, S_cons, kc_, kcb_, S_opN, kN_, S_tup, S_lst, kT_u, kL_u, stoL_nil, stoL_dat, stoL_own, consO_some, SatO_some, S_call, kCall_u, S_if, S_ifS, kI_true, kI_false, S_andV, S_orV, kAndV_true, kAndV_false, kOrV_true, kOrV_false, S_test, kTest_, S_tru, kTru_, S_and, S_or, S_not, kAnd_true, kAnd_false, kOr_true, kOr_false, kNot_, S_seq, kS_nx, kS_rt, kS_bk, kS_ct, S_pass, S_set, kSet_dat, kSet_own, S_par, kP_, kPb_, S_ret', kR_, S_retN, S_break, S_cont, S_for, kF_, S_forNil, kFb_nx, kFb_ct, kFb_bk, kFb_rt, S_items, kItems_tup, kItems_lst, kItems_own, S_lc, kLc_, S_lcNil, S_yes, kD_rt, kD_nx, Rv.ret, gt, st, kVar_dat, kVar_own, o_add, o_sub, o_eq, o_ne, o_lt, o_le, o_gt, o_ge, o_eqB, o_neB, o_is2, o_isnot2, o_abs, o_ix, o_ixO, o_ixB, o_ixL, o_tupO, o_isBool, map_some', wp, tgN_, List.length_cons, List.length_nil, Nat.reduceAdd, Nat.reduceLeDiff, true_and, decide_true, decide_false, Bool.not_true, Bool.not_false, o_mul_u, o_div_u, o_mod_u, o_pow_u, o_eqS, o_neS, o_intB, o_lenS, o_lenO, o_lenB, o_iaddI, S_s1, kS1_, kS1b_, S_lm, kLm_bor, kLm_own, kLmb_, S_tab, o_ixT, o_ixS, S_put, kPut_, kPutK_, S_zip2, kZip_, kZipb_tup, o_sum, o_sumB, o_tupB, o_tupL, o_lenT, S_range1, kRng_3, S_tgtL, kTgtL_, List.nil_append, List.cons_append, Nat.reduceLT, SZ, forall_const, true_implies, oIs, isTy, oIsN, isNon, dB, Rv.val]
      refine S_whole ?_
      simp only [S_var, S_C, S_op1, k1_, S_op2, k2_, k2b_, S_nil, S_cons, kc_, kcb_, S_opN, kN_, S_tup, S_lst, kT_u, kL_u, stoL_nil, stoL_dat, stoL_own, consO_some, SatO_some, S_call, kCall_u, S_if, S_ifS, kI_true, kI_false, S_andV, S_orV, kAndV_true, kAndV_false, kOrV_true, kOrV_false, S_test, kTest_, S_tru, kTru_, S_and, S_or, S_not, kAnd_true, kAnd_false, kOr_true, kOr_false, kNot_, S_seq, kS_nx, kS_rt, kS_bk, kS_ct, S_pass, S_set, kSet_dat, kSet_own, S_par, kP_, kPb_, S_ret', kR_, S_retN, S_break, S_cont, S_for, kF_, S_forNil, kFb_nx, kFb_ct, kFb_bk, kFb_rt, S_items, kItems_tup, kItems_lst, kItems_own, S_lc, kLc_, S_lcNil, S_yes, kD_rt, kD_nx, Rv.ret, gt, st, kVar_dat, kVar_own, o_add, o_sub, o_eq, o_ne, o_lt, o_le, o_gt, o_ge, o_eqB, o_neB, o_is2, o_isnot2, o_abs, o_ix, o_ixO, o_ixB, o_ixL, o_tupO, o_isBool, map_some', wp, tgN_, List.length_cons, List.length_nil, Nat.reduceAdd, Nat.reduceLeDiff, true_and, decide_true, decide_false, Bool.not_true, Bool.not_false, o_mul_u, o_div_u, o_mod_u, o_pow_u, o_eqS, o_neS, o_intB, o_lenS, o_lenO, o_lenB, o_iaddI, S_s1, kS1_, kS1b_, S_lm, kLm_bor, kLm_own, kLmb_, S_tab, o_ixT, o_ixS, S_put, kPut_, kPutK_, S_zip2, kZip_, kZipb_tup, o_sum, o_sumB, o_tupB, o_tupL, o_lenT, S_range1, kRng_3, S_tgtL, kTgtL_, List.nil_append, List.cons_append, Nat.reduceLT, SZ, forall_const, true_implies]
      exact q
    | str i =>
      unfold sameF
      rw [S_def (k := 2) (ds := [.str i, .str i]) rfl]
      show Sat (sameM (sameF (n + 1)) [.dat (.str i), .dat (.str i), .un, .un] s) _
      unfold sameM
      simp only [S_var, S_C, S_op1, k1_, S_op2, k2_, k2b_, S_nil, S_cons, kc_, kcb_, S_opN, kN_, S_tup, S_lst, kT_u, kL_u, stoL_nil, stoL_dat, stoL_own, consO_some, SatO_some, S_call, kCall_u, S_if, S_ifS, kI_true, kI_false, S_andV, S_orV, kAndV_true, kAndV_false, kOrV_true, kOrV_false, S_test, kTest_, S_tru, kTru_, S_and, S_or, S_not, kAnd_true, kAnd_false, kOr_true, kOr_false, kNot_, S_seq, kS_nx, kS_rt, kS_bk, kS_ct, S_pass, S_set, kSet_dat, kSet_own, S_par, kP_, kPb_, S_ret', kR_, S_retN, S_break, S_cont, S_for, kF_, S_forNil, kFb_nx, kFb_ct, kFb_bk, kFb_rt, S_items, kItems_tup, kItems_lst, kItems_own, S_lc, kLc_, S_lcNil, S_yes, kD_rt, kD_nx, Rv.ret, gt, st, kVar_dat, kVar_own, o_add, o_sub, o_eq, o_ne, o_lt, o_le, o_gt, o_ge, o_eqB, o_neB, o_is2, o_isnot2, o_abs, o_ix, o_ixO, o_ixB, o_ixL, o_tupO, o_isBool, map_some', wp, tgN_, List.length_cons, List.length_nil, Nat.reduceAdd, Nat.reduceLeDiff, true_and, decide_true, decide_false, Bool.not_true, Bool.not_false, o_mul_u, o_div_u, o_mod_u, o_pow_u, o_eqS, o_neS, o_intB, o_lenS, o_lenO, o_lenB, o_iaddI, S_s1, kS1_, kS1b_, S_lm, kLm_bor, kLm_own, kLmb_, S_tab, o_ixT, o_ixS, S_put, kPut_, kPutK_, S_zip2, kZip_, kZipb_tup, o_sum, o_sumB, o_tupB, o_tupL, o_lenT, S_range1, kRng_3, S_tgtL, kTgtL_, List.nil_append, List.cons_append, Nat.reduceLT, SZ, forall_const, true_implies, oIs, isTy, oIsN, isNon, dB, Rv.val]
      rw [beq_self_eq_true]
      exact q
    | tup ds =>
      unfold plainN at h
      rw [Bool.and_eq_true] at h
      obtain ⟨h1, h2⟩ := h
      have h2 := of_decide_eq_true h2
      rw [sameF]
      rw [S_def (k := 2) (ds := [.tup ds, .tup ds]) rfl]
      show Sat (sameM (sameF (n + 1)) [.dat (.tup ds), .dat (.tup ds), .un, .un] s) _
      unfold sameM
      simp only [S_var, S_C, S_op1, k1_, S_op2, k2_, k2b_, S_nil, S_cons, kc_, kcb_, S_opN, kN_, S_tup, S_lst, kT_u, kL_u, stoL_nil, stoL_dat, stoL_own, consO_some, SatO_some, S_call, kCall_u, S_if, S_ifS, kI_true, kI_false, S_andV, S_orV, kAndV_true, kAndV_false, kOrV_true, kOrV_false, S_test, kTest_, S_tru, kTru_, S_and, S_or, S_not, kAnd_true, kAnd_false, kOr_true, kOr_false, kNot_, S_seq, kS_nx, kS_rt, kS_bk, kS_ct, S_pass, S_set, kSet_dat, kSet_own, S_par, kP_, kPb_, S_ret', kR_, S_retN, S_break, S_cont, S_for, kF_, S_forNil, kFb_nx, kFb_ct, kFb_bk, kFb_rt, S_items, kItems_tup, kItems_lst, kItems_own, S_lc, kLc_, S_lcNil, S_yes, kD_rt, kD_nx, Rv.ret, gt, st, kVar_dat, kVar_own, o_add, o_sub, o_eq, o_ne, o_lt, o_le, o_gt, o_ge, o_eqB, o_neB, o_is2, o_isnot2, o_abs, o_ix, o_ixO, o_ixB, o_ixL, o_tupO, o_isBool, map_some', wp, tgN_, List.length_cons, List.length_nil, Nat.reduceAdd, Nat.reduceLeDiff, true_and, decide_true, decide_false, Bool.not_true, Bool.not_false, o_mul_u, o_div_u, o_mod_u, o_pow_u, o_eqS, o_neS, o_intB, o_lenS, o_lenO, o_lenB, o_iaddI, S_s1, kS1_, kS1b_, S_lm, kLm_bor, kLm_own, kLmb_, S_tab, o_ixT, o_ixS, S_put, kPut_, kPutK_, S_zip2, kZip_, kZipb_tup, o_sum, o_sumB, o_tupB, o_tupL, o_lenT, S_range1, kRng_3, S_tgtL, kTgtL_, List.nil_append, List.cons_append, Nat.reduceLT, SZ, forall_const, true_implies, oIs, isTy, oIsN, isNon, dB, Rv.val]
      refine S_lcAll (Nat.le_trans zipD_len h2) (fun d hd => ?_) (fun m => ?_)
      · obtain ⟨x, hx, rfl⟩ := zipD_mem d hd
        refine ⟨_, rfl, ?_⟩
        simp only [S_var, S_C, S_op1, k1_, S_op2, k2_, k2b_, S_nil, S_cons, kc_, kcb_, S_opN, kN_, S_tup, S_lst, kT_u, kL_u, stoL_nil, stoL_dat, stoL_own, consO_some, SatO_some, S_call, kCall_u, S_if, S_ifS, kI_true, kI_false, S_andV, S_orV, kAndV_true, kAndV_false, kOrV_true, kOrV_false, S_test, kTest_, S_tru, kTru_, S_and, S_or, S_not, kAnd_true, kAnd_false, kOr_true, kOr_false, kNot_, S_seq, kS_nx, kS_rt, kS_bk, kS_ct, S_pass, S_set, kSet_dat, kSet_own, S_par, kP_, kPb_, S_ret', kR_, S_retN, S_break, S_cont, S_for, kF_, S_forNil, kFb_nx, kFb_ct, kFb_bk, kFb_rt, S_items, kItems_tup, kItems_lst, kItems_own, S_lc, kLc_, S_lcNil, S_yes, kD_rt, kD_nx, Rv.ret, gt, st, kVar_dat, kVar_own, o_add, o_sub, o_eq, o_ne, o_lt, o_le, o_gt, o_ge, o_eqB, o_neB, o_is2, o_isnot2, o_abs, o_ix, o_ixO, o_ixB, o_ixL, o_tupO, o_isBool, map_some', wp, tgN_, List.length_cons, List.length_nil, Nat.reduceAdd, Nat.reduceLeDiff, true_and, decide_true, decide_false, Bool.not_true, Bool.not_false, o_mul_u, o_div_u, o_mod_u, o_pow_u, o_eqS, o_neS, o_intB, o_lenS, o_lenO, o_lenB, o_iaddI, S_s1, kS1_, kS1b_, S_lm, kLm_bor, kLm_own, kLmb_, S_tab, o_ixT, o_ixS, S_put, kPut_, kPutK_, S_zip2, kZip_, kZipb_tup, o_sum, o_sumB, o_tupB, o_tupL, o_lenT, S_range1, kRng_3, S_tgtL, kTgtL_, List.nil_append, List.cons_append, Nat.reduceLT, SZ, forall_const, true_implies]
        exact ih (plainL_mem h1 x hx) ⟨rfl, rfl⟩
      · simp only [S_var, S_C, S_op1, k1_, S_op2, k2_, k2b_, S_nil, S_cons, kc_, kcb_, S_opN, kN_, S_tup, S_lst, kT_u, kL_u, stoL_nil, stoL_dat, stoL_own, consO_some, SatO_some, S_call, kCall_u, S_if, S_ifS, kI_true, kI_false, S_andV, S_orV, kAndV_true, kAndV_false, kOrV_true, kOrV_false, S_test, kTest_, S_tru, kTru_, S_and, S_or, S_not, kAnd_true, kAnd_false, kOr_true, kOr_false, kNot_, S_seq, kS_nx, kS_rt, kS_bk, kS_ct, S_pass, S_set, kSet_dat, kSet_own, S_par, kP_, kPb_, S_ret', kR_, S_retN, S_break, S_cont, S_for, kF_, S_forNil, kFb_nx, kFb_ct, kFb_bk, kFb_rt, S_items, kItems_tup, kItems_lst, kItems_own, S_lc, kLc_, S_lcNil, S_yes, kD_rt, kD_nx, Rv.ret, gt, st, kVar_dat, kVar_own, o_add, o_sub, o_eq, o_ne, o_lt, o_le, o_gt, o_ge, o_eqB, o_neB, o_is2, o_isnot2, o_abs, o_ix, o_ixO, o_ixB, o_ixL, o_tupO, o_isBool, map_some', wp, tgN_, List.length_cons, List.length_nil, Nat.reduceAdd, Nat.reduceLeDiff, true_and, decide_true, decide_false, Bool.not_true, Bool.not_false, o_mul_u, o_div_u, o_mod_u, o_pow_u, o_eqS, o_neS, o_intB, o_lenS, o_lenO, o_lenB, o_iaddI, S_s1, kS1_, kS1b_, S_lm, kLm_bor, kLm_own, kLmb_, S_tab, o_ixT, o_ixS, S_put, kPut_, kPutK_, S_zip2, kZip_, kZipb_tup, o_sum, o_sumB, o_tupB, o_tupL, o_lenT, S_range1, kRng_3, S_tgtL, kTgtL_, List.nil_append, List.cons_append, Nat.reduceLT, SZ, forall_const, true_implies, o_all_rep]
        exact q
end PB
set_option Elab.async false
set_option linter.all false
set_option maxRecDepth 10000
set_option exponentiation.threshold 2000
namespace PB
inductive Mv where
  | keep (c : Nat) | oth (c e : Nat) | out (c : Nat) | inn (c : Nat)
abbrev wKeep : List Nat := [107, 101, 101, 112]
abbrev wOther : List Nat := [111, 116, 104, 101, 114]
abbrev wOut : List Nat := [111, 117, 116]
abbrev wIn : List Nat := [105, 110]
def Mv.word : Mv → List Nat
  | .keep _ => wKeep
  | .oth _ _ => wOther
  | .out _ => wOut
  | .inn _ => wIn
def Mv.d : Mv → D
  | .keep c => .tup [.str wKeep, .str [c]]
  | .oth c e => .tup [.str wOther, .str [c], .str [e]]
  | .out c => .tup [.str wOut, .str [c]]
  | .inn c => .tup [.str wIn, .str [c]]
def Mv.taken : Mv → List Nat
  | .keep c => [c]
  | .oth c _ => [c]
  | .out c => [c]
  | .inn _ => []
def Mv.made : Mv → List Nat
  | .keep c => [c]
  | .oth _ e => [e]
  | .out _ => []
  | .inn c => [c]
end PB
set_option Elab.async false
set_option linter.all false
set_option maxRecDepth 10000
set_option exponentiation.threshold 2000
namespace PB
theorem a21 (x y : D) : atI [x, y] 1 = some y := rfl
theorem ix0 (x : Mv) : oIx (.dat x.d) (.dat (.int 0)) = some (.dat (.str x.word)) := by cases x <;> rfl
theorem at_pre {α : Type} {ls pre post : List α} {x : α} (h : ls = pre ++ x :: post) : ls[pre.length]? = some x := by
  subst h
  simp
end PB
set_option Elab.async false
set_option linter.all false
set_option maxRecDepth 10000
set_option exponentiation.threshold 2000
namespace PB
theorem range_pre {n k : Nat} {pre post : List Nat} (h : List.range n = pre ++ k :: post) : k = pre.length ∧ k < n := by
  have h1 := at_pre h
  have hk : k ∈ List.range n := by rw [h]; simp
  have h2 := List.mem_range.mp hk
  have hp : pre.length < n := by
    have := congrArg List.length h
    rw [List.length_range, List.length_append, List.length_cons] at this
    omega
  rw [List.getElem?_range hp] at h1
  exact ⟨(Option.some.inj h1).symm, h2⟩
theorem rng_ok {n : Nat} (h : n ≤ 1000) : RngOk (n : Int) := log2_lt (n := 62) (by omega) (by decide)
end PB
set_option Elab.async false
set_option linter.all false
set_option maxRecDepth 10000
set_option exponentiation.threshold 2000
namespace PB
end PB
set_option Elab.async false
set_option linter.all false
set_option maxRecDepth 10000
set_option exponentiation.threshold 2000
namespace PB
/-- a fraction in lowest terms -/
def fr (p q : Int) : D := .tup [.int p, .int q]
structure Low (n : Nat) (p q : Int) : Prop where
  qp : 0 < q
  co : Nat.gcd p.natAbs q.natAbs = 1
  pb : p.natAbs < 2 ^ n
  qb : q.natAbs < 2 ^ n
theorem Low.le {n m : Nat} {p q : Int} (h : Low n p q) (k : n ≤ m) : Low m p q :=
  ⟨h.qp, h.co, Nat.lt_of_lt_of_le h.pb (Nat.pow_le_pow_right (by decide) k), Nat.lt_of_lt_of_le h.qb (Nat.pow_le_pow_right (by decide) k)⟩
end PB
set_option Elab.async false
set_option linter.all false
set_option maxRecDepth 10000
set_option exponentiation.threshold 2000
namespace PB
theorem Sat.eq {γ α : Type} {r : Rs γ α} {a : α} {g : γ} (h : ∀ Q : α → γ → Prop, Q a g → Sat r Q) : r = .ok a g := by
  have k := h (fun b k => b = a ∧ k = g) ⟨rfl, rfl⟩
  cases r with
  | ok b k' =>
    obtain ⟨rfl, rfl⟩ := k
    rfl
  | ex x g => exact k.elim
  | no => exact k.elim
section
variable {γ : Type} {g : γ} {F : MF γ} {Q : Rv → γ → Prop} {xs : List Rv} {e : Env} {as : MA γ} {es : List D}
def kCallD (F : MF γ) (es : List D) (Q : Rv → γ → Prop) (xs : List Rv) (g : γ) : Prop := SatO (stoL xs) (fun ds g => Sat (F (ds ++ es) g) Q) g
theorem S_callD : Sat (mCallD F as es e g) Q = Sat (as e g) (kCallD F es Q) := by
  unfold mCallD
  rw [Sat_bind]
  congr 1
  funext xs g
  unfold kCallD
  cases stoL xs with
  | some ds => exact Sat_okO _ _
  | none => rfl
theorem kCallD_ : kCallD F es Q xs g = SatO (stoL xs) (fun ds g => Sat (F (ds ++ es) g) Q) g := rfl
theorem is_tt {ds : List D} : oIs .tuple (.dat (.tup ds)) = some (.dat (.bl true)) := rfl
theorem is_ti {i : Int} : oIs .tuple (.dat (.int i)) = some (.dat (.bl false)) := rfl
theorem is_ts {i : List Nat} : oIs .tuple (.dat (.str i)) = some (.dat (.bl false)) := rfl
theorem is_ii {i : Int} : oIs .int (.dat (.int i)) = some (.dat (.bl true)) := rfl
theorem is_ss {i : List Nat} : oIs .str (.dat (.str i)) = some (.dat (.bl true)) := rfl
theorem is_bi {i : Int} : oIs .bool (.dat (.int i)) = some (.dat (.bl false)) := rfl
end
def gcdL : List Int → Nat → Nat
  | [], g => g
  | n :: r, g => gcdL r (Nat.gcd g n.natAbs)
theorem gcdL_dvd {l : List Int} : ∀ {g}, gcdL l g ∣ g ∧ ∀ n ∈ l, ((gcdL l g : Nat) : Int) ∣ n := by
  induction l with
  | nil => intro g; exact ⟨Nat.dvd_refl _, fun n hn => by cases hn⟩
  | cons m r ih =>
    intro g
    obtain ⟨h1, h2⟩ := ih (g := Nat.gcd g m.natAbs)
    refine ⟨Nat.dvd_trans h1 (Nat.gcd_dvd_left _ _), fun n hn => ?_⟩
    rcases List.mem_cons.mp hn with rfl | hn
    · exact Int.ofNat_dvd_left.mpr (Nat.dvd_trans h1 (Nat.gcd_dvd_right _ _))
    · exact h2 n hn
theorem gcdL_pos {l : List Int} : ∀ {g}, (0 < g ∨ ∃ n ∈ l, n ≠ 0) → 0 < gcdL l g := by
  induction l with
  | nil => intro g h; exact h.elim id fun ⟨n, hn, _⟩ => by cases hn
  | cons m r ih =>
    intro g h
    refine ih ?_
    by_cases h0 : 0 < Nat.gcd g m.natAbs
    · exact .inl h0
    · refine .inr ?_
      have hz : Nat.gcd g m.natAbs = 0 := by omega
      obtain ⟨g0, m0⟩ := Nat.gcd_eq_zero_iff.mp hz
      rcases h with h | ⟨n, hn, hne⟩
      · omega
      · rcases List.mem_cons.mp hn with rfl | hn
        · omega
        · exact ⟨n, hn, hne⟩
theorem ltUp {a b : Nat} {x : Int} (hx : x.natAbs < 2 ^ a) (h : a ≤ b) : x.natAbs < 2 ^ b := Nat.lt_of_lt_of_le hx (Nat.pow_le_pow_right (by decide) h)
end PB
set_option Elab.async false
set_option linter.all false
set_option maxRecDepth 10000
set_option exponentiation.threshold 2000
namespace PB
def priceM : MS LS := (mSeq (mSet 1 (mOp2 oIx (mLst (mCons (mC (.int 4)) (mCons (mC (.int 13)) (mCons (mC (.int 100)) (mCons (mOp2 oPow (mC (.int 10)) (mC (.int 39))) mNil))))) (mCall drawF (mCons (mVar 0) (mCons (mC (.int 4)) mNil)))))
    (mSeq (mSet 2 (mLc (mRange1 (mC (.int 3))) (tgN 3) mYes (mCall drawF (mCons (mVar 0) (mCons (mVar 1) mNil))) [3]))
    (mSeq (mIfS (mTest (mOp2 oEq (mCall drawF (mCons (mVar 0) (mCons (mC (.int 4)) mNil))) (mC (.int 0)))) (mPut 2 (mCall drawF (mCons (mVar 0) (mCons (mC (.int 3)) mNil))) (mC (.int 0))) mPass)
    (mSeq (mIfS (mTest (mOp2 oEq (mOpN oSum (mCons (mVar 2) mNil)) (mC (.int 0)))) (mPut 2 (mCall drawF (mCons (mVar 0) (mCons (mC (.int 3)) mNil))) (mOp2 oAdd (mC (.int 1)) (mCall drawF (mCons (mVar 0) (mCons (mC (.int 9)) mNil))))) mPass)
    (mRet (mOpN oTuple (mCons (mVar 2) mNil)))))))
def priceF : MF LS := mDef 4 1 (priceM)
/-- three numbers, none below nought, below a bound -/
def Pb (x y z : Int) : Prop := (0 ≤ x ∧ x < 2 ^ 130) ∧ (0 ≤ y ∧ y < 2 ^ 130) ∧ (0 ≤ z ∧ z < 2 ^ 130)
theorem setP {x y z v k : Int} (h : Pb x y z) (hv : 0 ≤ v ∧ v < 2 ^ 130) (k0 : 0 ≤ k) (k1 : k < 3) : ∃ x' y' z' j, Pb x' y' z' ∧ (0 < v → 0 < x' + y' + z') ∧ ixN 3 k = some j ∧ [D.int x, .int y, .int z].set j (.int v) = [.int x', .int y', .int z'] := by
  obtain ⟨h1, h2, h3⟩ := h
  rcases (by omega : k = 0 ∨ k = 1 ∨ k = 2) with rfl | rfl | rfl
  · exact ⟨v, y, z, 0, ⟨hv, h2, h3⟩, by omega, rfl, rfl⟩
  · exact ⟨x, v, z, 1, ⟨h1, hv, h3⟩, by omega, rfl, rfl⟩
  · exact ⟨x, y, v, 2, ⟨h1, h2, hv⟩, by omega, rfl, rfl⟩
theorem S_price {a b : Nat} {s : LS} {Q : Rv → LS → Prop} (h : Bud a (b + 8) s) (q : ∀ (x y z : Int) (s' : LS), Pb x y z → 0 < x + y + z → Bud a b s' → Q (.dat (v3 x y z)) s') : Sat (priceF [.ref a] s) Q := by
  have mb : (10 : Int) ^ 39 ≤ 10 ^ 90 := by decide
  have mc : (10 : Int) ^ 39 < 2 ^ 130 := by decide
  unfold priceF
  rw [S_def (k := 1) (ds := [.ref a]) rfl]
  show Sat (priceM [.dat (.ref a), .un, .un, .un] s) _
  unfold priceM
  rw [S_seq, S_set]
  simp only [S_var, S_C, S_op1, k1_, S_op2, k2_, k2b_, S_nil, S_cons, kc_, kcb_, S_opN, kN_, S_tup, S_lst, kT_u, kL_u, stoL_nil, stoL_dat, stoL_own, consO_some, SatO_some, S_call, kCall_u, S_if, S_ifS, kI_true, kI_false, S_andV, S_orV, kAndV_true, kAndV_false, kOrV_true, kOrV_false, S_test, kTest_, S_tru, kTru_, S_and, S_or, S_not, kAnd_true, kAnd_false, kOr_true, kOr_false, kNot_, S_seq, kS_nx, kS_rt, kS_bk, kS_ct, S_pass, S_set, kSet_dat, kSet_own, S_par, kP_, kPb_, S_ret', kR_, S_retN, S_break, S_cont, S_for, kF_, S_forNil, kFb_nx, kFb_ct, kFb_bk, kFb_rt, S_items, kItems_tup, kItems_lst, kItems_own, S_lc, kLc_, S_lcNil, S_yes, kD_rt, kD_nx, Rv.ret, gt, st, kVar_dat, kVar_own, o_add, o_sub, o_eq, o_ne, o_lt, o_le, o_gt, o_ge, o_eqB, o_neB, o_is2, o_isnot2, o_abs, o_ix, o_ixO, o_ixB, o_ixL, o_tupO, o_isBool, map_some', wp, tgN_, List.length_cons, List.length_nil, Nat.reduceAdd, Nat.reduceLeDiff, true_and, decide_true, decide_false, Bool.not_true, Bool.not_false, o_mul_u, o_div_u, o_mod_u, o_pow_u, o_eqS, o_neS, o_intB, o_lenS, o_lenO, o_lenB, o_iaddI, S_s1, kS1_, kS1b_, S_lm, kLm_bor, kLm_own, kLmb_, S_tab, o_ixT, o_ixS, S_put, kPut_, kPutK_, S_zip2, kZip_, kZipb_tup, o_sum, o_sumB, o_tupB, o_tupL, o_lenT, S_range1, kRng_3, S_tgtL, kTgtL_, List.nil_append, List.cons_append, Nat.reduceLT, SZ, forall_const, true_implies, S_callD, kCallD_, is_tt, is_ti, is_ts, is_ii, is_ss, is_bi]
  refine ⟨by decide, ?_⟩
  refine S_draw (h.le (show b + 8 ≤ b + 8 by omega)) (by decide) (by decide) fun ix s1 ix0 ix1 h1 => ?_
  have hsz : ∃ m : Int, 0 < m ∧ m ≤ 10 ^ 39 ∧ atI [D.int 4, .int 13, .int 100, .int (10 ^ (39 : Int).toNat)] ix = some (.int m) := by
    rcases (by omega : ix = 0 ∨ ix = 1 ∨ ix = 2 ∨ ix = 3) with rfl | rfl | rfl | rfl
    · exact ⟨4, by decide, by decide, rfl⟩
    · exact ⟨13, by decide, by decide, rfl⟩
    · exact ⟨100, by decide, by decide, rfl⟩
    · exact ⟨10 ^ 39, by decide, by decide, rfl⟩
  obtain ⟨m, m0, m1, em⟩ := hsz
  rw [k2b_, o_ixO, em]
  simp only [S_var, S_C, S_op1, k1_, S_op2, k2_, k2b_, S_nil, S_cons, kc_, kcb_, S_opN, kN_, S_tup, S_lst, kT_u, kL_u, stoL_nil, stoL_dat, stoL_own, consO_some, SatO_some, S_call, kCall_u, S_if, S_ifS, kI_true, kI_false, S_andV, S_orV, kAndV_true, kAndV_false, kOrV_true, kOrV_false, S_test, kTest_, S_tru, kTru_, S_and, S_or, S_not, kAnd_true, kAnd_false, kOr_true, kOr_false, kNot_, S_seq, kS_nx, kS_rt, kS_bk, kS_ct, S_pass, S_set, kSet_dat, kSet_own, S_par, kP_, kPb_, S_ret', kR_, S_retN, S_break, S_cont, S_for, kF_, S_forNil, kFb_nx, kFb_ct, kFb_bk, kFb_rt, S_items, kItems_tup, kItems_lst, kItems_own, S_lc, kLc_, S_lcNil, S_yes, kD_rt, kD_nx, Rv.ret, gt, st, kVar_dat, kVar_own, o_add, o_sub, o_eq, o_ne, o_lt, o_le, o_gt, o_ge, o_eqB, o_neB, o_is2, o_isnot2, o_abs, o_ix, o_ixO, o_ixB, o_ixL, o_tupO, o_isBool, map_some', wp, tgN_, List.length_cons, List.length_nil, Nat.reduceAdd, Nat.reduceLeDiff, true_and, decide_true, decide_false, Bool.not_true, Bool.not_false, o_mul_u, o_div_u, o_mod_u, o_pow_u, o_eqS, o_neS, o_intB, o_lenS, o_lenO, o_lenB, o_iaddI, S_s1, kS1_, kS1b_, S_lm, kLm_bor, kLm_own, kLmb_, S_tab, o_ixT, o_ixS, S_put, kPut_, kPutK_, S_zip2, kZip_, kZipb_tup, o_sum, o_sumB, o_tupB, o_tupL, o_lenT, S_range1, kRng_3, S_tgtL, kTgtL_, List.nil_append, List.cons_append, Nat.reduceLT, SZ, forall_const, true_implies, S_callD, kCallD_, is_tt, is_ti, is_ts, is_ii, is_ss, is_bi]
  rw [S_lcCons (tgN_)]
  simp only [S_var, S_C, S_op1, k1_, S_op2, k2_, k2b_, S_nil, S_cons, kc_, kcb_, S_opN, kN_, S_tup, S_lst, kT_u, kL_u, stoL_nil, stoL_dat, stoL_own, consO_some, SatO_some, S_call, kCall_u, S_if, S_ifS, kI_true, kI_false, S_andV, S_orV, kAndV_true, kAndV_false, kOrV_true, kOrV_false, S_test, kTest_, S_tru, kTru_, S_and, S_or, S_not, kAnd_true, kAnd_false, kOr_true, kOr_false, kNot_, S_seq, kS_nx, kS_rt, kS_bk, kS_ct, S_pass, S_set, kSet_dat, kSet_own, S_par, kP_, kPb_, S_ret', kR_, S_retN, S_break, S_cont, S_for, kF_, S_forNil, kFb_nx, kFb_ct, kFb_bk, kFb_rt, S_items, kItems_tup, kItems_lst, kItems_own, S_lc, kLc_, S_lcNil, S_yes, kD_rt, kD_nx, Rv.ret, gt, st, kVar_dat, kVar_own, o_add, o_sub, o_eq, o_ne, o_lt, o_le, o_gt, o_ge, o_eqB, o_neB, o_is2, o_isnot2, o_abs, o_ix, o_ixO, o_ixB, o_ixL, o_tupO, o_isBool, map_some', wp, tgN_, List.length_cons, List.length_nil, Nat.reduceAdd, Nat.reduceLeDiff, true_and, decide_true, decide_false, Bool.not_true, Bool.not_false, o_mul_u, o_div_u, o_mod_u, o_pow_u, o_eqS, o_neS, o_intB, o_lenS, o_lenO, o_lenB, o_iaddI, S_s1, kS1_, kS1b_, S_lm, kLm_bor, kLm_own, kLmb_, S_tab, o_ixT, o_ixS, S_put, kPut_, kPutK_, S_zip2, kZip_, kZipb_tup, o_sum, o_sumB, o_tupB, o_tupL, o_lenT, S_range1, kRng_3, S_tgtL, kTgtL_, List.nil_append, List.cons_append, Nat.reduceLT, SZ, forall_const, true_implies, S_callD, kCallD_, is_tt, is_ti, is_ts, is_ii, is_ss, is_bi, kLcT_true]
  refine S_draw h1 m0 (by omega) fun x s1 x0 x1 h1 => ?_
  simp only [S_var, S_C, S_op1, k1_, S_op2, k2_, k2b_, S_nil, S_cons, kc_, kcb_, S_opN, kN_, S_tup, S_lst, kT_u, kL_u, stoL_nil, stoL_dat, stoL_own, consO_some, SatO_some, S_call, kCall_u, S_if, S_ifS, kI_true, kI_false, S_andV, S_orV, kAndV_true, kAndV_false, kOrV_true, kOrV_false, S_test, kTest_, S_tru, kTru_, S_and, S_or, S_not, kAnd_true, kAnd_false, kOr_true, kOr_false, kNot_, S_seq, kS_nx, kS_rt, kS_bk, kS_ct, S_pass, S_set, kSet_dat, kSet_own, S_par, kP_, kPb_, S_ret', kR_, S_retN, S_break, S_cont, S_for, kF_, S_forNil, kFb_nx, kFb_ct, kFb_bk, kFb_rt, S_items, kItems_tup, kItems_lst, kItems_own, S_lc, kLc_, S_lcNil, S_yes, kD_rt, kD_nx, Rv.ret, gt, st, kVar_dat, kVar_own, o_add, o_sub, o_eq, o_ne, o_lt, o_le, o_gt, o_ge, o_eqB, o_neB, o_is2, o_isnot2, o_abs, o_ix, o_ixO, o_ixB, o_ixL, o_tupO, o_isBool, map_some', wp, tgN_, List.length_cons, List.length_nil, Nat.reduceAdd, Nat.reduceLeDiff, true_and, decide_true, decide_false, Bool.not_true, Bool.not_false, o_mul_u, o_div_u, o_mod_u, o_pow_u, o_eqS, o_neS, o_intB, o_lenS, o_lenO, o_lenB, o_iaddI, S_s1, kS1_, kS1b_, S_lm, kLm_bor, kLm_own, kLmb_, S_tab, o_ixT, o_ixS, S_put, kPut_, kPutK_, S_zip2, kZip_, kZipb_tup, o_sum, o_sumB, o_tupB, o_tupL, o_lenT, S_range1, kRng_3, S_tgtL, kTgtL_, List.nil_append, List.cons_append, Nat.reduceLT, SZ, forall_const, true_implies, S_callD, kCallD_, is_tt, is_ti, is_ts, is_ii, is_ss, is_bi, kLcA_dat]
  rw [S_lcCons (tgN_)]
  simp only [S_var, S_C, S_op1, k1_, S_op2, k2_, k2b_, S_nil, S_cons, kc_, kcb_, S_opN, kN_, S_tup, S_lst, kT_u, kL_u, stoL_nil, stoL_dat, stoL_own, consO_some, SatO_some, S_call, kCall_u, S_if, S_ifS, kI_true, kI_false, S_andV, S_orV, kAndV_true, kAndV_false, kOrV_true, kOrV_false, S_test, kTest_, S_tru, kTru_, S_and, S_or, S_not, kAnd_true, kAnd_false, kOr_true, kOr_false, kNot_, S_seq, kS_nx, kS_rt, kS_bk, kS_ct, S_pass, S_set, kSet_dat, kSet_own, S_par, kP_, kPb_, S_ret', kR_, S_retN, S_break, S_cont, S_for, kF_, S_forNil, kFb_nx, kFb_ct, kFb_bk, kFb_rt, S_items, kItems_tup, kItems_lst, kItems_own, S_lc, kLc_, S_lcNil, S_yes, kD_rt, kD_nx, Rv.ret, gt, st, kVar_dat, kVar_own, o_add, o_sub, o_eq, o_ne, o_lt, o_le, o_gt, o_ge, o_eqB, o_neB, o_is2, o_isnot2, o_abs, o_ix, o_ixO, o_ixB, o_ixL, o_tupO, o_isBool, map_some', wp, tgN_, List.length_cons, List.length_nil, Nat.reduceAdd, Nat.reduceLeDiff, true_and, decide_true, decide_false, Bool.not_true, Bool.not_false, o_mul_u, o_div_u, o_mod_u, o_pow_u, o_eqS, o_neS, o_intB, o_lenS, o_lenO, o_lenB, o_iaddI, S_s1, kS1_, kS1b_, S_lm, kLm_bor, kLm_own, kLmb_, S_tab, o_ixT, o_ixS, S_put, kPut_, kPutK_, S_zip2, kZip_, kZipb_tup, o_sum, o_sumB, o_tupB, o_tupL, o_lenT, S_range1, kRng_3, S_tgtL, kTgtL_, List.nil_append, List.cons_append, Nat.reduceLT, SZ, forall_const, true_implies, S_callD, kCallD_, is_tt, is_ti, is_ts, is_ii, is_ss, is_bi, kLcT_true]
  refine S_draw h1 m0 (by omega) fun y s2 y0 y1 h2 => ?_
  simp only [S_var, S_C, S_op1, k1_, S_op2, k2_, k2b_, S_nil, S_cons, kc_, kcb_, S_opN, kN_, S_tup, S_lst, kT_u, kL_u, stoL_nil, stoL_dat, stoL_own, consO_some, SatO_some, S_call, kCall_u, S_if, S_ifS, kI_true, kI_false, S_andV, S_orV, kAndV_true, kAndV_false, kOrV_true, kOrV_false, S_test, kTest_, S_tru, kTru_, S_and, S_or, S_not, kAnd_true, kAnd_false, kOr_true, kOr_false, kNot_, S_seq, kS_nx, kS_rt, kS_bk, kS_ct, S_pass, S_set, kSet_dat, kSet_own, S_par, kP_, kPb_, S_ret', kR_, S_retN, S_break, S_cont, S_for, kF_, S_forNil, kFb_nx, kFb_ct, kFb_bk, kFb_rt, S_items, kItems_tup, kItems_lst, kItems_own, S_lc, kLc_, S_lcNil, S_yes, kD_rt, kD_nx, Rv.ret, gt, st, kVar_dat, kVar_own, o_add, o_sub, o_eq, o_ne, o_lt, o_le, o_gt, o_ge, o_eqB, o_neB, o_is2, o_isnot2, o_abs, o_ix, o_ixO, o_ixB, o_ixL, o_tupO, o_isBool, map_some', wp, tgN_, List.length_cons, List.length_nil, Nat.reduceAdd, Nat.reduceLeDiff, true_and, decide_true, decide_false, Bool.not_true, Bool.not_false, o_mul_u, o_div_u, o_mod_u, o_pow_u, o_eqS, o_neS, o_intB, o_lenS, o_lenO, o_lenB, o_iaddI, S_s1, kS1_, kS1b_, S_lm, kLm_bor, kLm_own, kLmb_, S_tab, o_ixT, o_ixS, S_put, kPut_, kPutK_, S_zip2, kZip_, kZipb_tup, o_sum, o_sumB, o_tupB, o_tupL, o_lenT, S_range1, kRng_3, S_tgtL, kTgtL_, List.nil_append, List.cons_append, Nat.reduceLT, SZ, forall_const, true_implies, S_callD, kCallD_, is_tt, is_ti, is_ts, is_ii, is_ss, is_bi, kLcA_dat]
  rw [S_lcCons (tgN_)]
  simp only [S_var, S_C, S_op1, k1_, S_op2, k2_, k2b_, S_nil, S_cons, kc_, kcb_, S_opN, kN_, S_tup, S_lst, kT_u, kL_u, stoL_nil, stoL_dat, stoL_own, consO_some, SatO_some, S_call, kCall_u, S_if, S_ifS, kI_true, kI_false, S_andV, S_orV, kAndV_true, kAndV_false, kOrV_true, kOrV_false, S_test, kTest_, S_tru, kTru_, S_and, S_or, S_not, kAnd_true, kAnd_false, kOr_true, kOr_false, kNot_, S_seq, kS_nx, kS_rt, kS_bk, kS_ct, S_pass, S_set, kSet_dat, kSet_own, S_par, kP_, kPb_, S_ret', kR_, S_retN, S_break, S_cont, S_for, kF_, S_forNil, kFb_nx, kFb_ct, kFb_bk, kFb_rt, S_items, kItems_tup, kItems_lst, kItems_own, S_lc, kLc_, S_lcNil, S_yes, kD_rt, kD_nx, Rv.ret, gt, st, kVar_dat, kVar_own, o_add, o_sub, o_eq, o_ne, o_lt, o_le, o_gt, o_ge, o_eqB, o_neB, o_is2, o_isnot2, o_abs, o_ix, o_ixO, o_ixB, o_ixL, o_tupO, o_isBool, map_some', wp, tgN_, List.length_cons, List.length_nil, Nat.reduceAdd, Nat.reduceLeDiff, true_and, decide_true, decide_false, Bool.not_true, Bool.not_false, o_mul_u, o_div_u, o_mod_u, o_pow_u, o_eqS, o_neS, o_intB, o_lenS, o_lenO, o_lenB, o_iaddI, S_s1, kS1_, kS1b_, S_lm, kLm_bor, kLm_own, kLmb_, S_tab, o_ixT, o_ixS, S_put, kPut_, kPutK_, S_zip2, kZip_, kZipb_tup, o_sum, o_sumB, o_tupB, o_tupL, o_lenT, S_range1, kRng_3, S_tgtL, kTgtL_, List.nil_append, List.cons_append, Nat.reduceLT, SZ, forall_const, true_implies, S_callD, kCallD_, is_tt, is_ti, is_ts, is_ii, is_ss, is_bi, kLcT_true]
  refine S_draw h2 m0 (by omega) fun z s3 z0 z1 h3 => ?_
  simp only [S_var, S_C, S_op1, k1_, S_op2, k2_, k2b_, S_nil, S_cons, kc_, kcb_, S_opN, kN_, S_tup, S_lst, kT_u, kL_u, stoL_nil, stoL_dat, stoL_own, consO_some, SatO_some, S_call, kCall_u, S_if, S_ifS, kI_true, kI_false, S_andV, S_orV, kAndV_true, kAndV_false, kOrV_true, kOrV_false, S_test, kTest_, S_tru, kTru_, S_and, S_or, S_not, kAnd_true, kAnd_false, kOr_true, kOr_false, kNot_, S_seq, kS_nx, kS_rt, kS_bk, kS_ct, S_pass, S_set, kSet_dat, kSet_own, S_par, kP_, kPb_, S_ret', kR_, S_retN, S_break, S_cont, S_for, kF_, S_forNil, kFb_nx, kFb_ct, kFb_bk, kFb_rt, S_items, kItems_tup, kItems_lst, kItems_own, S_lc, kLc_, S_lcNil, S_yes, kD_rt, kD_nx, Rv.ret, gt, st, kVar_dat, kVar_own, o_add, o_sub, o_eq, o_ne, o_lt, o_le, o_gt, o_ge, o_eqB, o_neB, o_is2, o_isnot2, o_abs, o_ix, o_ixO, o_ixB, o_ixL, o_tupO, o_isBool, map_some', wp, tgN_, List.length_cons, List.length_nil, Nat.reduceAdd, Nat.reduceLeDiff, true_and, decide_true, decide_false, Bool.not_true, Bool.not_false, o_mul_u, o_div_u, o_mod_u, o_pow_u, o_eqS, o_neS, o_intB, o_lenS, o_lenO, o_lenB, o_iaddI, S_s1, kS1_, kS1b_, S_lm, kLm_bor, kLm_own, kLmb_, S_tab, o_ixT, o_ixS, S_put, kPut_, kPutK_, S_zip2, kZip_, kZipb_tup, o_sum, o_sumB, o_tupB, o_tupL, o_lenT, S_range1, kRng_3, S_tgtL, kTgtL_, List.nil_append, List.cons_append, Nat.reduceLT, SZ, forall_const, true_implies, S_callD, kCallD_, is_tt, is_ti, is_ts, is_ii, is_ss, is_bi, kLcA_dat]
  refine S_draw h3 (by decide) (by decide) fun w s4 w0 w1 h4 => ?_
  simp only [S_var, S_C, S_op1, k1_, S_op2, k2_, k2b_, S_nil, S_cons, kc_, kcb_, S_opN, kN_, S_tup, S_lst, kT_u, kL_u, stoL_nil, stoL_dat, stoL_own, consO_some, SatO_some, S_call, kCall_u, S_if, S_ifS, kI_true, kI_false, S_andV, S_orV, kAndV_true, kAndV_false, kOrV_true, kOrV_false, S_test, kTest_, S_tru, kTru_, S_and, S_or, S_not, kAnd_true, kAnd_false, kOr_true, kOr_false, kNot_, S_seq, kS_nx, kS_rt, kS_bk, kS_ct, S_pass, S_set, kSet_dat, kSet_own, S_par, kP_, kPb_, S_ret', kR_, S_retN, S_break, S_cont, S_for, kF_, S_forNil, kFb_nx, kFb_ct, kFb_bk, kFb_rt, S_items, kItems_tup, kItems_lst, kItems_own, S_lc, kLc_, S_lcNil, S_yes, kD_rt, kD_nx, Rv.ret, gt, st, kVar_dat, kVar_own, o_add, o_sub, o_eq, o_ne, o_lt, o_le, o_gt, o_ge, o_eqB, o_neB, o_is2, o_isnot2, o_abs, o_ix, o_ixO, o_ixB, o_ixL, o_tupO, o_isBool, map_some', wp, tgN_, List.length_cons, List.length_nil, Nat.reduceAdd, Nat.reduceLeDiff, true_and, decide_true, decide_false, Bool.not_true, Bool.not_false, o_mul_u, o_div_u, o_mod_u, o_pow_u, o_eqS, o_neS, o_intB, o_lenS, o_lenO, o_lenB, o_iaddI, S_s1, kS1_, kS1b_, S_lm, kLm_bor, kLm_own, kLmb_, S_tab, o_ixT, o_ixS, S_put, kPut_, kPutK_, S_zip2, kZip_, kZipb_tup, o_sum, o_sumB, o_tupB, o_tupL, o_lenT, S_range1, kRng_3, S_tgtL, kTgtL_, List.nil_append, List.cons_append, Nat.reduceLT, SZ, forall_const, true_implies, S_callD, kCallD_, is_tt, is_ti, is_ts, is_ii, is_ss, is_bi]
  generalize hR : (mSeq (mIfS (mTest (mOp2 oEq (mOpN oSum (mCons (mVar 2) mNil)) (mC (.int 0)))) (_ : MS LS) mPass) (_ : MS LS)) = R
  have fin : ∀ (x y z : Int) (s' : LS), Pb x y z → Bud a (b + 2) s' → Sat (R [.dat (.ref a), .dat (.int m), .own [.int x, .int y, .int z], .un] s') (kD Q) := by
    intro x y z s' hv hb
    rw [← hR]
    simp only [S_var, S_C, S_op1, k1_, S_op2, k2_, k2b_, S_nil, S_cons, kc_, kcb_, S_opN, kN_, S_tup, S_lst, kT_u, kL_u, stoL_nil, stoL_dat, stoL_own, consO_some, SatO_some, S_call, kCall_u, S_if, S_ifS, kI_true, kI_false, S_andV, S_orV, kAndV_true, kAndV_false, kOrV_true, kOrV_false, S_test, kTest_, S_tru, kTru_, S_and, S_or, S_not, kAnd_true, kAnd_false, kOr_true, kOr_false, kNot_, S_seq, kS_nx, kS_rt, kS_bk, kS_ct, S_pass, S_set, kSet_dat, kSet_own, S_par, kP_, kPb_, S_ret', kR_, S_retN, S_break, S_cont, S_for, kF_, S_forNil, kFb_nx, kFb_ct, kFb_bk, kFb_rt, S_items, kItems_tup, kItems_lst, kItems_own, S_lc, kLc_, S_lcNil, S_yes, kD_rt, kD_nx, Rv.ret, gt, st, kVar_dat, kVar_own, o_add, o_sub, o_eq, o_ne, o_lt, o_le, o_gt, o_ge, o_eqB, o_neB, o_is2, o_isnot2, o_abs, o_ix, o_ixO, o_ixB, o_ixL, o_tupO, o_isBool, map_some', wp, tgN_, List.length_cons, List.length_nil, Nat.reduceAdd, Nat.reduceLeDiff, true_and, decide_true, decide_false, Bool.not_true, Bool.not_false, o_mul_u, o_div_u, o_mod_u, o_pow_u, o_eqS, o_neS, o_intB, o_lenS, o_lenO, o_lenB, o_iaddI, S_s1, kS1_, kS1b_, S_lm, kLm_bor, kLm_own, kLmb_, S_tab, o_ixT, o_ixS, S_put, kPut_, kPutK_, S_zip2, kZip_, kZipb_tup, o_sum, o_sumB, o_tupB, o_tupL, o_lenT, S_range1, kRng_3, S_tgtL, kTgtL_, List.nil_append, List.cons_append, Nat.reduceLT, SZ, forall_const, true_implies, S_callD, kCallD_, is_tt, is_ti, is_ts, is_ii, is_ss, is_bi, dInts, map_some']
    refine kI_d (fun _ => ?_) (fun hz => ?_)
    · rw [S_put rfl]
      simp only [S_var, S_C, S_op1, k1_, S_op2, k2_, k2b_, S_nil, S_cons, kc_, kcb_, S_opN, kN_, S_tup, S_lst, kT_u, kL_u, stoL_nil, stoL_dat, stoL_own, consO_some, SatO_some, S_call, kCall_u, S_if, S_ifS, kI_true, kI_false, S_andV, S_orV, kAndV_true, kAndV_false, kOrV_true, kOrV_false, S_test, kTest_, S_tru, kTru_, S_and, S_or, S_not, kAnd_true, kAnd_false, kOr_true, kOr_false, kNot_, S_seq, kS_nx, kS_rt, kS_bk, kS_ct, S_pass, S_set, kSet_dat, kSet_own, S_par, kP_, kPb_, S_ret', kR_, S_retN, S_break, S_cont, S_for, kF_, S_forNil, kFb_nx, kFb_ct, kFb_bk, kFb_rt, S_items, kItems_tup, kItems_lst, kItems_own, S_lc, kLc_, S_lcNil, S_yes, kD_rt, kD_nx, Rv.ret, gt, st, kVar_dat, kVar_own, o_add, o_sub, o_eq, o_ne, o_lt, o_le, o_gt, o_ge, o_eqB, o_neB, o_is2, o_isnot2, o_abs, o_ix, o_ixO, o_ixB, o_ixL, o_tupO, o_isBool, map_some', wp, tgN_, List.length_cons, List.length_nil, Nat.reduceAdd, Nat.reduceLeDiff, true_and, decide_true, decide_false, Bool.not_true, Bool.not_false, o_mul_u, o_div_u, o_mod_u, o_pow_u, o_eqS, o_neS, o_intB, o_lenS, o_lenO, o_lenB, o_iaddI, S_s1, kS1_, kS1b_, S_lm, kLm_bor, kLm_own, kLmb_, S_tab, o_ixT, o_ixS, S_put, kPut_, kPutK_, S_zip2, kZip_, kZipb_tup, o_sum, o_sumB, o_tupB, o_tupL, o_lenT, S_range1, kRng_3, S_tgtL, kTgtL_, List.nil_append, List.cons_append, Nat.reduceLT, SZ, forall_const, true_implies, S_callD, kCallD_, is_tt, is_ti, is_ts, is_ii, is_ss, is_bi]
      refine S_draw hb (by decide) (by decide) fun v s5 v0 v1 h5 => ?_
      simp only [S_var, S_C, S_op1, k1_, S_op2, k2_, k2b_, S_nil, S_cons, kc_, kcb_, S_opN, kN_, S_tup, S_lst, kT_u, kL_u, stoL_nil, stoL_dat, stoL_own, consO_some, SatO_some, S_call, kCall_u, S_if, S_ifS, kI_true, kI_false, S_andV, S_orV, kAndV_true, kAndV_false, kOrV_true, kOrV_false, S_test, kTest_, S_tru, kTru_, S_and, S_or, S_not, kAnd_true, kAnd_false, kOr_true, kOr_false, kNot_, S_seq, kS_nx, kS_rt, kS_bk, kS_ct, S_pass, S_set, kSet_dat, kSet_own, S_par, kP_, kPb_, S_ret', kR_, S_retN, S_break, S_cont, S_for, kF_, S_forNil, kFb_nx, kFb_ct, kFb_bk, kFb_rt, S_items, kItems_tup, kItems_lst, kItems_own, S_lc, kLc_, S_lcNil, S_yes, kD_rt, kD_nx, Rv.ret, gt, st, kVar_dat, kVar_own, o_add, o_sub, o_eq, o_ne, o_lt, o_le, o_gt, o_ge, o_eqB, o_neB, o_is2, o_isnot2, o_abs, o_ix, o_ixO, o_ixB, o_ixL, o_tupO, o_isBool, map_some', wp, tgN_, List.length_cons, List.length_nil, Nat.reduceAdd, Nat.reduceLeDiff, true_and, decide_true, decide_false, Bool.not_true, Bool.not_false, o_mul_u, o_div_u, o_mod_u, o_pow_u, o_eqS, o_neS, o_intB, o_lenS, o_lenO, o_lenB, o_iaddI, S_s1, kS1_, kS1b_, S_lm, kLm_bor, kLm_own, kLmb_, S_tab, o_ixT, o_ixS, S_put, kPut_, kPutK_, S_zip2, kZip_, kZipb_tup, o_sum, o_sumB, o_tupB, o_tupL, o_lenT, S_range1, kRng_3, S_tgtL, kTgtL_, List.nil_append, List.cons_append, Nat.reduceLT, SZ, forall_const, true_implies, S_callD, kCallD_, is_tt, is_ti, is_ts, is_ii, is_ss, is_bi]
      refine S_draw h5 (by decide) (by decide) fun k s6 k0 k1 h6 => ?_
      obtain ⟨x', y', z', j, hb, hp, e1, e2⟩ := setP hv (v := 1 + v) (by omega) k0 k1
      rw [kPutK_]
      show SatO (ixN 3 k) _ _
      rw [e1, SatO_some]
      show kS _ _ (.nx (st _ _ (.own ([D.int x, .int y, .int z].set j (.int (1 + v)))))) _
      rw [e2]
      simp only [S_var, S_C, S_op1, k1_, S_op2, k2_, k2b_, S_nil, S_cons, kc_, kcb_, S_opN, kN_, S_tup, S_lst, kT_u, kL_u, stoL_nil, stoL_dat, stoL_own, consO_some, SatO_some, S_call, kCall_u, S_if, S_ifS, kI_true, kI_false, S_andV, S_orV, kAndV_true, kAndV_false, kOrV_true, kOrV_false, S_test, kTest_, S_tru, kTru_, S_and, S_or, S_not, kAnd_true, kAnd_false, kOr_true, kOr_false, kNot_, S_seq, kS_nx, kS_rt, kS_bk, kS_ct, S_pass, S_set, kSet_dat, kSet_own, S_par, kP_, kPb_, S_ret', kR_, S_retN, S_break, S_cont, S_for, kF_, S_forNil, kFb_nx, kFb_ct, kFb_bk, kFb_rt, S_items, kItems_tup, kItems_lst, kItems_own, S_lc, kLc_, S_lcNil, S_yes, kD_rt, kD_nx, Rv.ret, gt, st, kVar_dat, kVar_own, o_add, o_sub, o_eq, o_ne, o_lt, o_le, o_gt, o_ge, o_eqB, o_neB, o_is2, o_isnot2, o_abs, o_ix, o_ixO, o_ixB, o_ixL, o_tupO, o_isBool, map_some', wp, tgN_, List.length_cons, List.length_nil, Nat.reduceAdd, Nat.reduceLeDiff, true_and, decide_true, decide_false, Bool.not_true, Bool.not_false, o_mul_u, o_div_u, o_mod_u, o_pow_u, o_eqS, o_neS, o_intB, o_lenS, o_lenO, o_lenB, o_iaddI, S_s1, kS1_, kS1b_, S_lm, kLm_bor, kLm_own, kLmb_, S_tab, o_ixT, o_ixS, S_put, kPut_, kPutK_, S_zip2, kZip_, kZipb_tup, o_sum, o_sumB, o_tupB, o_tupL, o_lenT, S_range1, kRng_3, S_tgtL, kTgtL_, List.nil_append, List.cons_append, Nat.reduceLT, SZ, forall_const, true_implies, S_callD, kCallD_, is_tt, is_ti, is_ts, is_ii, is_ss, is_bi]
      exact q x' y' z' s6 hb (hp (by omega)) (h6.le (by omega))
    · simp only [S_var, S_C, S_op1, k1_, S_op2, k2_, k2b_, S_nil, S_cons, kc_, kcb_, S_opN, kN_, S_tup, S_lst, kT_u, kL_u, stoL_nil, stoL_dat, stoL_own, consO_some, SatO_some, S_call, kCall_u, S_if, S_ifS, kI_true, kI_false, S_andV, S_orV, kAndV_true, kAndV_false, kOrV_true, kOrV_false, S_test, kTest_, S_tru, kTru_, S_and, S_or, S_not, kAnd_true, kAnd_false, kOr_true, kOr_false, kNot_, S_seq, kS_nx, kS_rt, kS_bk, kS_ct, S_pass, S_set, kSet_dat, kSet_own, S_par, kP_, kPb_, S_ret', kR_, S_retN, S_break, S_cont, S_for, kF_, S_forNil, kFb_nx, kFb_ct, kFb_bk, kFb_rt, S_items, kItems_tup, kItems_lst, kItems_own, S_lc, kLc_, S_lcNil, S_yes, kD_rt, kD_nx, Rv.ret, gt, st, kVar_dat, kVar_own, o_add, o_sub, o_eq, o_ne, o_lt, o_le, o_gt, o_ge, o_eqB, o_neB, o_is2, o_isnot2, o_abs, o_ix, o_ixO, o_ixB, o_ixL, o_tupO, o_isBool, map_some', wp, tgN_, List.length_cons, List.length_nil, Nat.reduceAdd, Nat.reduceLeDiff, true_and, decide_true, decide_false, Bool.not_true, Bool.not_false, o_mul_u, o_div_u, o_mod_u, o_pow_u, o_eqS, o_neS, o_intB, o_lenS, o_lenO, o_lenB, o_iaddI, S_s1, kS1_, kS1b_, S_lm, kLm_bor, kLm_own, kLmb_, S_tab, o_ixT, o_ixS, S_put, kPut_, kPutK_, S_zip2, kZip_, kZipb_tup, o_sum, o_sumB, o_tupB, o_tupL, o_lenT, S_range1, kRng_3, S_tgtL, kTgtL_, List.nil_append, List.cons_append, Nat.reduceLT, SZ, forall_const, true_implies, S_callD, kCallD_, is_tt, is_ti, is_ts, is_ii, is_ss, is_bi]
      exact q _ _ _ s' hv (by have hz := hz; simp only [List.sum_cons, List.sum_nil] at hz; obtain ⟨p1, p2, p3⟩ := hv; omega) (hb.le (by omega))
  have hv : Pb x y z := ⟨by omega, by omega, by omega⟩
  refine kI_d (fun _ => ?_) (fun _ => ?_)
  · rw [S_put rfl]
    simp only [S_var, S_C, S_op1, k1_, S_op2, k2_, k2b_, S_nil, S_cons, kc_, kcb_, S_opN, kN_, S_tup, S_lst, kT_u, kL_u, stoL_nil, stoL_dat, stoL_own, consO_some, SatO_some, S_call, kCall_u, S_if, S_ifS, kI_true, kI_false, S_andV, S_orV, kAndV_true, kAndV_false, kOrV_true, kOrV_false, S_test, kTest_, S_tru, kTru_, S_and, S_or, S_not, kAnd_true, kAnd_false, kOr_true, kOr_false, kNot_, S_seq, kS_nx, kS_rt, kS_bk, kS_ct, S_pass, S_set, kSet_dat, kSet_own, S_par, kP_, kPb_, S_ret', kR_, S_retN, S_break, S_cont, S_for, kF_, S_forNil, kFb_nx, kFb_ct, kFb_bk, kFb_rt, S_items, kItems_tup, kItems_lst, kItems_own, S_lc, kLc_, S_lcNil, S_yes, kD_rt, kD_nx, Rv.ret, gt, st, kVar_dat, kVar_own, o_add, o_sub, o_eq, o_ne, o_lt, o_le, o_gt, o_ge, o_eqB, o_neB, o_is2, o_isnot2, o_abs, o_ix, o_ixO, o_ixB, o_ixL, o_tupO, o_isBool, map_some', wp, tgN_, List.length_cons, List.length_nil, Nat.reduceAdd, Nat.reduceLeDiff, true_and, decide_true, decide_false, Bool.not_true, Bool.not_false, o_mul_u, o_div_u, o_mod_u, o_pow_u, o_eqS, o_neS, o_intB, o_lenS, o_lenO, o_lenB, o_iaddI, S_s1, kS1_, kS1b_, S_lm, kLm_bor, kLm_own, kLmb_, S_tab, o_ixT, o_ixS, S_put, kPut_, kPutK_, S_zip2, kZip_, kZipb_tup, o_sum, o_sumB, o_tupB, o_tupL, o_lenT, S_range1, kRng_3, S_tgtL, kTgtL_, List.nil_append, List.cons_append, Nat.reduceLT, SZ, forall_const, true_implies, S_callD, kCallD_, is_tt, is_ti, is_ts, is_ii, is_ss, is_bi]
    refine S_draw h4 (by decide) (by decide) fun k s5 k0 k1 h5 => ?_
    obtain ⟨x', y', z', j, hb, _, e1, e2⟩ := setP hv (v := 0) (by decide) k0 k1
    rw [kPutK_]
    show SatO (ixN 3 k) _ _
    rw [e1, SatO_some]
    show kS _ _ (.nx (st _ _ (.own ([D.int x, .int y, .int z].set j (.int 0))))) _
    rw [e2, kS_nx]
    exact fin x' y' z' s5 hb (h5.le (by omega))
  · exact fin x y z s4 hv (h4.le (by omega))
end PB
set_option Elab.async false
set_option linter.all false
set_option maxRecDepth 10000
set_option exponentiation.threshold 2000
namespace PB
def g3 (x y z : Int) : Nat := gcdL [x, y, z] 0
end PB
set_option Elab.async false
set_option linter.all false
set_option maxRecDepth 10000
set_option exponentiation.threshold 2000
namespace PB
section
variable {γ : Type} {g : γ} {Q : Rv → γ → Prop} {QI : List D → γ → Prop} {e : Env} {t : MT γ} {a b : ME γ}
/-- a comprehension whose elements are only known to be of a kind -/
theorem S_lcD {tg : MG} {ds : List D} (hl : ds.length ≤ SZ) (P : D → Prop) (I : Nat → γ → Prop) (h0 : I ds.length g)
    (hs : ∀ d ∈ ds, ∀ k g, I (k + 1) g → ∃ e1, tg d e = some e1 ∧ Sat (t e1 g) fun c g1 => c = true ∧ Sat (a e1 g1) fun r g2 => ∃ y, r.sto = some y ∧ P y ∧ I k g2)
    (hd : ∀ ys g, ys.length = ds.length → (∀ y ∈ ys, P y) → I 0 g → Q (.own ys) g) : Sat (lcL tg t a e ds [] g) Q := by
  have key : ∀ post ys g, ys.length + post.length = ds.length → (∀ y ∈ ys, P y) → (∀ d ∈ post, d ∈ ds) → I post.length g → Sat (lcL tg t a e post ys g) Q := by
    intro post
    induction post with
    | nil =>
      intro ys g hn hp _ hi
      exact hd ys g (by simpa using hn) hp hi
    | cons d post ih =>
      intro ys g hn hp hm hi
      obtain ⟨e1, h1, h2⟩ := hs d (hm d (by simp)) post.length g hi
      rw [S_lcCons h1]
      refine h2.mono fun c g1 q => ?_
      obtain ⟨rfl, q⟩ := q
      rw [kLcT_true]
      refine q.mono fun r g2 q2 => ?_
      obtain ⟨y, e2, py, hi2⟩ := q2
      unfold kLcA
      rw [e2]
      rw [List.length_cons] at hn
      refine ⟨by omega, ih (ys ++ [y]) g2 (by rw [List.length_append]; simp; omega) (fun z hz => ?_) (fun d hd => hm d (by simp [hd])) hi2⟩
      rcases List.mem_append.mp hz with hz | hz
      · exact hp z hz
      · rw [List.mem_singleton.mp hz]
        exact py
  exact key ds [] g (by simp) (fun y hy => by cases hy) (fun d h => h) h0
end
theorem signs_of {ys : List D} (h : ∀ y ∈ ys, ∃ c, y = .str [c]) : ∃ cs : List Nat, ys = cs.map fun c => .str [c] := by
  induction ys with
  | nil => exact ⟨[], rfl⟩
  | cons y r ih =>
    obtain ⟨c, rfl⟩ := h y (by simp)
    obtain ⟨cs, rfl⟩ := ih fun z hz => h z (by simp [hz])
    exact ⟨c :: cs, rfl⟩
abbrev az : List Nat := [97, 98, 99, 100, 101, 102, 103, 104, 105, 106, 107, 108, 109, 110, 111, 112, 113, 114, 115, 116, 117, 118, 119, 120, 121, 122]
theorem o_joinS (cs : List Nat) (h : cs.length ≤ SZ) : oJoin [] (.own (cs.map fun c => .str [c])) = some (.dat (.str cs)) := by
  rw [o_join (fun c => [c]) cs (by
    have : (cs.map fun c => ([c] : List Nat).length).sum = cs.length := by
      induction cs with
      | nil => rfl
      | cons x xs ih =>
        rw [List.map_cons, List.sum_cons, ih (by rw [List.length_cons] at h; omega), List.length_cons]
        simp
        omega
    rw [this]
    exact h)]
  congr 3
  induction cs with
  | nil => rfl
  | cons x xs ih => rw [List.flatMap_cons, ih (by rw [List.length_cons] at h; omega)]; rfl
end PB
set_option Elab.async false
set_option linter.all false
set_option maxRecDepth 10000
set_option exponentiation.threshold 2000
namespace PB
theorem sign_atM {L : List Nat} {k : Int} (h0 : 0 ≤ k) (h1 : k < L.length) : ∃ c ∈ L, oIx (.dat (.str L)) (.dat (.int k)) = some (.dat (.str [c])) := by
  obtain ⟨c, hc, e⟩ := atI_nat h0 h1
  exact ⟨c, hc, by rw [o_ixS, e]; rfl⟩
end PB
set_option Elab.async false
set_option linter.all false
set_option maxRecDepth 10000
set_option exponentiation.threshold 2000
namespace PB
end PB
set_option Elab.async false
set_option linter.all false
set_option maxRecDepth 10000
set_option exponentiation.threshold 2000
namespace PB
abbrev V3 := Int × Int × Int
def vd (v : V3) : D := .tup [.int v.1, .int v.2.1, .int v.2.2]
def dot (a b : V3) : Int := a.1 * b.1 + a.2.1 * b.2.1 + a.2.2 * b.2.2
structure Lt3 (n : Nat) (v : V3) : Prop where
  x : v.1.natAbs < 2 ^ n
  y : v.2.1.natAbs < 2 ^ n
  z : v.2.2.natAbs < 2 ^ n
theorem Lt3.up {n m : Nat} {v : V3} (h : Lt3 n v) (k : n ≤ m) : Lt3 m v := ⟨ltUp h.x k, ltUp h.y k, ltUp h.z k⟩
def lowV (v : V3) : V3 := (v.1 / (g3 v.1 v.2.1 v.2.2 : Nat), v.2.1 / (g3 v.1 v.2.1 v.2.2 : Nat), v.2.2 / (g3 v.1 v.2.1 v.2.2 : Nat))
def iabs (x : Int) : Int := if x < 0 then -x else x
def addV (a b : V3) : V3 := (a.1 + b.1, a.2.1 + b.2.1, a.2.2 + b.2.2)
def mulV (k : Int) (a : V3) : V3 := (k * a.1, k * a.2.1, k * a.2.2)
/-- the corner between two, where the side is worth nought -/
def mid (w a b : V3) : V3 := lowV (addV (mulV (iabs (dot w b)) a) (mulV (iabs (dot w a)) b))
def prevV (vs : List V3) (k : Nat) : V3 := vs.getD ((k + vs.length - 1) % vs.length) (0, 0, 0)
def piece (w : V3) (vs : List V3) (k : Nat) : List V3 :=
  (if dot w (prevV vs k) * dot w (vs.getD k (0, 0, 0)) < 0 then [mid w (prevV vs k) (vs.getD k (0, 0, 0))] else []) ++ (if 0 ≤ dot w (vs.getD k (0, 0, 0)) then [vs.getD k (0, 0, 0)] else [])
def kept (w : V3) (vs : List V3) : List V3 := (List.range vs.length).flatMap (piece w vs)
def ltV (a b : V3) : Bool := if a.1 = b.1 then (if a.2.1 = b.2.1 then decide (a.2.2 < b.2.2) else decide (a.2.1 < b.2.1)) else decide (a.1 < b.1)
theorem eqv_vd (a b : V3) : eqv (vd a) (vd b) = decide (a = b) := by
  show (a.1 == b.1 && (a.2.1 == b.2.1 && (a.2.2 == b.2.2 && true))) = _
  rcases a with ⟨x, y, z⟩
  rcases b with ⟨p, q, r⟩
  simp only [Bool.and_true, Prod.mk.injEq]
  by_cases h1 : x = p
  · by_cases h2 : y = q
    · by_cases h3 : z = r
      · simp [h1, h2, h3]
      · simp [h1, h2, h3]
    · simp [h1, h2]
  · simp [h1]
theorem ixNnat {n k : Nat} (h : k < n) : ixN n ((k : Nat) : Int) = some k := by
  unfold ixN
  rw [if_pos (by omega), if_pos (by omega)]
  simp
theorem atIat {α : Type} {xs : List α} {k : Nat} (h : k < xs.length) : atI xs ((k : Nat) : Int) = some xs[k] := by
  unfold atI
  rw [ixNnat h]
  simp [h]
structure Prc (v : V3) : Prop where
  x : 0 ≤ v.1
  y : 0 ≤ v.2.1
  z : 0 ≤ v.2.2
  n : v.1 ≠ 0 ∨ v.2.1 ≠ 0 ∨ v.2.2 ≠ 0
theorem iabs_nat (x : Int) : iabs x = (x.natAbs : Int) := by
  unfold iabs
  split <;> omega
theorem mid_sum {w a b : V3} (ha : Prc a) (hb : Prc b) (h : dot w a * dot w b < 0) : Prc (addV (mulV (iabs (dot w b)) a) (mulV (iabs (dot w a)) b)) := by
  have p1 : 0 < iabs (dot w b) := by
    rw [iabs_nat]
    have : dot w b ≠ 0 := fun z => by rw [z, Int.mul_zero] at h; exact absurd h (Int.lt_irrefl _)
    omega
  have p2 : 0 < iabs (dot w a) := by
    rw [iabs_nat]
    have : dot w a ≠ 0 := fun z => by rw [z, Int.zero_mul] at h; exact absurd h (Int.lt_irrefl _)
    omega
  generalize iabs (dot w b) = p at *
  generalize iabs (dot w a) = q at *
  have mm : ∀ {k x : Int}, 0 < k → 0 ≤ x → 0 ≤ k * x ∧ (x ≠ 0 → 0 < k * x) := fun hk hx => ⟨Int.mul_nonneg (Int.le_of_lt hk) hx, fun hn => Int.mul_pos hk (by omega)⟩
  obtain ⟨a1, a2⟩ := mm p1 ha.x
  obtain ⟨a3, a4⟩ := mm p1 ha.y
  obtain ⟨a5, a6⟩ := mm p1 ha.z
  obtain ⟨b1, b2⟩ := mm p2 hb.x
  obtain ⟨b3, b4⟩ := mm p2 hb.y
  obtain ⟨b5, b6⟩ := mm p2 hb.z
  refine ⟨Int.add_nonneg a1 b1, Int.add_nonneg a3 b3, Int.add_nonneg a5 b5, ?_⟩
  show p * a.1 + q * b.1 ≠ 0 ∨ p * a.2.1 + q * b.2.1 ≠ 0 ∨ p * a.2.2 + q * b.2.2 ≠ 0
  rcases ha.n with k | k | k
  · exact .inl (by have := a2 k; omega)
  · exact .inr (.inl (by have := a4 k; omega))
  · exact .inr (.inr (by have := a6 k; omega))
end PB
set_option Elab.async false
set_option linter.all false
set_option maxRecDepth 10000
set_option maxHeartbeats 4000000
set_option exponentiation.threshold 2000
namespace PB
def l_wordM : MS LS := (mRet (mS1 oJoin (mC (.str [])) (mLc (mRange1 (mCall drawF (mCons (mVar 0) (mCons (mOp2 oAdd (mVar 1) (mC (.int 1))) mNil)))) (tgN 3) mYes (mOp2 oIx (mVar 2) (mCall drawF (mCons (mVar 0) (mCons (mOpN oLen (mCons (mVar 2) mNil)) mNil)))) [3])))
def l_wordF : MF LS := mDef 4 3 (l_wordM)
def l_nearM : MS LS := (mSeq (mSet 4 (mOpN oListS (mCons (mVar 1) mNil)))
    (mSeq (mFor (mRange1 (mCall drawF (mCons (mVar 0) (mCons (mC (.int 5)) mNil)))) (tgN 5) (mSeq (mSet 6 (mCall drawF (mCons (mVar 0) (mCons (mC (.int 3)) mNil))))
    (mSeq (mSet 7 (mCall drawF (mCons (mVar 0) (mCons (mOp2 oAdd (mOpN oLen (mCons (mVar 4) mNil)) (mC (.int 1))) mNil))))
    (mSeq (mSet 8 (mOp2 oIx (mVar 3) (mCall drawF (mCons (mVar 0) (mCons (mOpN oLen (mCons (mVar 3) mNil)) mNil)))))
    (mSeq (mIfS (mAnd (mTest (mOp2 oEq (mVar 6) (mC (.int 0)))) (mTest (mOp2 oLt (mOpN oLen (mCons (mVar 4) mNil)) (mVar 2)))) (mIns 4 (mCons (mVar 7) (mCons (mVar 8) mNil))) mPass)
    (mSeq (mIfS (mAnd (mTest (mOp2 oEq (mVar 6) (mC (.int 1)))) (mTest (mOp2 oLt (mVar 7) (mOpN oLen (mCons (mVar 4) mNil))))) (mPopAt 4 (mCons (mVar 7) mNil)) mPass)
    (mIfS (mAnd (mTest (mOp2 oEq (mVar 6) (mC (.int 2)))) (mTest (mOp2 oLt (mVar 7) (mOpN oLen (mCons (mVar 4) mNil))))) (mPut 4 (mVar 7) (mVar 8)) mPass)))))))
    (mRet (mS1 oJoin (mC (.str [])) (mVar 4)))))
def l_nearF : MF LS := mDef 9 4 (l_nearM)
theorem S_word {a b : Nat} {L : List Nat} {mm : Int} {s : LS} {Q : Rv → LS → Prop} (h : Bud a (b + 14) s) (m0 : 0 ≤ mm) (m1 : mm ≤ 12) (L0 : 0 < L.length) (L1 : L.length ≤ 26) (La : ∀ c ∈ L, c ∈ az) (q : ∀ (w : List Nat) (s' : LS), (w.length : Int) ≤ mm → (∀ c ∈ w, c ∈ az) → Bud a b s' → Q (.dat (.str w)) s') : Sat (l_wordF [.ref a, .int mm, .str L] s) Q := by
  have p90 : (26 : Int) ≤ 10 ^ 90 := by decide
  unfold l_wordF
  rw [S_def (k := 3) (ds := [.ref a, .int mm, .str L]) rfl]
  show Sat (l_wordM [.dat (.ref a), .dat (.int mm), .dat (.str L), .un] s) _
  unfold l_wordM
  simp only [S_var, S_C, S_op1, k1_, S_op2, k2_, k2b_, S_nil, S_cons, kc_, kcb_, S_opN, kN_, S_tup, S_lst, kT_u, kL_u, stoL_nil, stoL_dat, stoL_own, consO_some, SatO_some, S_call, kCall_u, S_if, S_ifS, kI_true, kI_false, S_andV, S_orV, kAndV_true, kAndV_false, kOrV_true, kOrV_false, S_test, kTest_, S_tru, kTru_, S_and, S_or, S_not, kAnd_true, kAnd_false, kOr_true, kOr_false, kNot_, S_seq, kS_nx, kS_rt, kS_bk, kS_ct, S_pass, S_set, kSet_dat, kSet_own, S_par, kP_, kPb_, S_ret', kR_, S_retN, S_break, S_cont, S_for, kF_, S_forNil, kFb_nx, kFb_ct, kFb_bk, kFb_rt, S_items, kItems_tup, kItems_lst, kItems_own, S_lc, kLc_, S_lcNil, S_yes, kD_rt, kD_nx, Rv.ret, gt, st, kVar_dat, kVar_own, o_add, o_sub, o_eq, o_ne, o_lt, o_le, o_gt, o_ge, o_eqB, o_neB, o_is2, o_isnot2, o_abs, o_ix, o_ixO, o_ixB, o_ixL, o_tupO, o_isBool, map_some', wp, tgN_, List.length_cons, List.length_nil, Nat.reduceAdd, Nat.reduceLeDiff, true_and, decide_true, decide_false, Bool.not_true, Bool.not_false, o_mul_u, o_div_u, o_mod_u, o_pow_u, o_eqS, o_neS, o_intB, o_lenS, o_lenO, o_lenB, o_iaddI, S_s1, kS1_, kS1b_, S_lm, kLm_bor, kLm_own, kLmb_, S_tab, o_ixT, o_ixS, S_put, kPut_, kPutK_, S_zip2, kZip_, kZipb_tup, o_sum, o_sumB, o_tupB, o_tupL, o_lenT, S_range1, kRng_3, S_tgtL, kTgtL_, List.nil_append, List.cons_append, Nat.reduceLT, SZ, forall_const, true_implies, S_callD, kCallD_, is_tt, is_ti, is_ts, is_ii, is_ss, is_bi]
  refine S_draw (h.le (show b + 13 + 1 ≤ _ by omega)) (by omega) (by omega) fun n s1 n0 n1 h1 => ?_
  obtain ⟨m, rfl⟩ : ∃ m : Nat, n = (m : Nat) := ⟨n.toNat, by omega⟩
  rw [kRng_]
  refine ⟨rng_ok (by omega), ?_⟩
  rw [Int.toNat_natCast, kLc_]
  refine S_lcD (by rw [rng_lenD]; show m ≤ 16777216; omega) (fun y => ∃ c ∈ L, y = .str [c]) (fun k g => Bud a (b + k) g) (by rw [rng_lenD]; exact h1.le (by omega)) (fun d hd k g hB => ?_) (fun ys g hy hp hB => ?_)
  · rw [rng_map] at hd
    obtain ⟨m, _, rfl⟩ := List.mem_map.mp hd
    refine ⟨_, rfl, ?_⟩
    rw [S_yes]
    refine ⟨rfl, ?_⟩
    simp only [S_var, S_C, S_op1, k1_, S_op2, k2_, k2b_, S_nil, S_cons, kc_, kcb_, S_opN, kN_, S_tup, S_lst, kT_u, kL_u, stoL_nil, stoL_dat, stoL_own, consO_some, SatO_some, S_call, kCall_u, S_if, S_ifS, kI_true, kI_false, S_andV, S_orV, kAndV_true, kAndV_false, kOrV_true, kOrV_false, S_test, kTest_, S_tru, kTru_, S_and, S_or, S_not, kAnd_true, kAnd_false, kOr_true, kOr_false, kNot_, S_seq, kS_nx, kS_rt, kS_bk, kS_ct, S_pass, S_set, kSet_dat, kSet_own, S_par, kP_, kPb_, S_ret', kR_, S_retN, S_break, S_cont, S_for, kF_, S_forNil, kFb_nx, kFb_ct, kFb_bk, kFb_rt, S_items, kItems_tup, kItems_lst, kItems_own, S_lc, kLc_, S_lcNil, S_yes, kD_rt, kD_nx, Rv.ret, gt, st, kVar_dat, kVar_own, o_add, o_sub, o_eq, o_ne, o_lt, o_le, o_gt, o_ge, o_eqB, o_neB, o_is2, o_isnot2, o_abs, o_ix, o_ixO, o_ixB, o_ixL, o_tupO, o_isBool, map_some', wp, tgN_, List.length_cons, List.length_nil, Nat.reduceAdd, Nat.reduceLeDiff, true_and, decide_true, decide_false, Bool.not_true, Bool.not_false, o_mul_u, o_div_u, o_mod_u, o_pow_u, o_eqS, o_neS, o_intB, o_lenS, o_lenO, o_lenB, o_iaddI, S_s1, kS1_, kS1b_, S_lm, kLm_bor, kLm_own, kLmb_, S_tab, o_ixT, o_ixS, S_put, kPut_, kPutK_, S_zip2, kZip_, kZipb_tup, o_sum, o_sumB, o_tupB, o_tupL, o_lenT, S_range1, kRng_3, S_tgtL, kTgtL_, List.nil_append, List.cons_append, Nat.reduceLT, SZ, forall_const, true_implies, S_callD, kCallD_, is_tt, is_ti, is_ts, is_ii, is_ss, is_bi]
    refine S_draw (b := b + k) hB (by omega) (by omega) fun i s1 i0 i1 h1 => ?_
    obtain ⟨c, hc, e⟩ := atI_nat i0 i1
    rw [k2b_, o_ixS, e]
    exact ⟨.str [c], rfl, ⟨c, hc, rfl⟩, h1⟩
  · obtain ⟨cs, rfl⟩ := signs_of fun y hy => by
      obtain ⟨c, _, e⟩ := hp y hy
      exact ⟨c, e⟩
    rw [List.length_map, rng_lenD] at hy
    simp only [kS1b_, o_joinS cs (show cs.length ≤ 16777216 by omega), SatO_some, kR_, kD_rt, Rv.ret]
    refine q cs g (by omega) (fun c hc => ?_) hB
    obtain ⟨c', h1, h2⟩ := hp (.str [c]) (List.mem_map.mpr ⟨c, hc, rfl⟩)
    cases h2
    exact La _ h1
section
variable {e : Env} {i : Nat} {s : LS} {r : MA LS} {QS : Fl → LS → Prop}
def kInsA (i : Nat) (e : Env) (ds : List D) (QS : Fl → LS → Prop) (ys : List Rv) (g : LS) : Prop := match ys with
  | [.dat (.int k), .dat d] => ds.length < SZ ∧ 0 ≤ k ∧ k ≤ 16777216 ∧ QS (.nx (st e i (.own (ds.take k.toNat ++ [d] ++ ds.drop k.toNat)))) g
  | _ => False
theorem S_insA {ds : List D} (h : gt e i = .own ds) (q : Sat (r e s) (kInsA i e ds QS)) : Sat (mIns i r e s) QS := by
  unfold mIns
  rw [h]
  dsimp only
  rw [Sat_bind]
  refine q.mono fun ys g hy => ?_
  unfold kInsA at hy
  split at hy
  · rename_i k d
    dsimp only [Rv.sto]
    rw [if_pos ⟨hy.1, hy.2.1, hy.2.2.1⟩]
    exact hy.2.2.2
  · exact hy.elim
theorem kInsA_ {ds : List D} {k : Int} {d : D} {g : LS} : kInsA i e ds QS [.dat (.int k), .dat d] g = (ds.length < SZ ∧ 0 ≤ k ∧ k ≤ 16777216 ∧ QS (.nx (st e i (.own (ds.take k.toNat ++ [d] ++ ds.drop k.toNat)))) g) := rfl
def kPopA (i : Nat) (e : Env) (ds : List D) (QS : Fl → LS → Prop) (ys : List Rv) (g : LS) : Prop := match ys with
  | [.dat (.int k)] => 0 ≤ k ∧ k < ds.length ∧ k ≤ 16777216 ∧ QS (.nx (st e i (.own (ds.eraseIdx k.toNat)))) g
  | _ => False
theorem S_popA {ds : List D} (h : gt e i = .own ds) (q : Sat (r e s) (kPopA i e ds QS)) : Sat (mPopAt i r e s) QS := by
  unfold mPopAt
  rw [h]
  dsimp only
  rw [Sat_bind]
  refine q.mono fun ys g hy => ?_
  unfold kPopA at hy
  split at hy
  · rename_i k
    try dsimp only
    rw [if_pos ⟨hy.1, hy.2.1, hy.2.2.1⟩]
    exact hy.2.2.2
  · exact hy.elim
theorem kPopA_ {ds : List D} {k : Int} {g : LS} : kPopA i e ds QS [.dat (.int k)] g = (0 ≤ k ∧ k < ds.length ∧ k ≤ 16777216 ∧ QS (.nx (st e i (.own (ds.eraseIdx k.toNat)))) g) := rfl
theorem S_putA {ds : List D} {k a : ME LS} (h : gt e i = .own ds) (q : Sat (a e s) (kPut k i e ds QS)) : Sat (mPut i k a e s) QS := by
  rw [S_put h]
  exact q
end
theorem eraseIdx_map {α β : Type} (f : α → β) (L : List α) (k : Nat) : (L.map f).eraseIdx k = (L.eraseIdx k).map f := by
  induction L generalizing k with
  | nil => rfl
  | cons x xs ih => cases k with
    | zero => rfl
    | succ k => simp [List.eraseIdx, ih]
theorem o_listS {s : List Nat} : oListS [.dat (.str s)] = some (.own (s.map fun c => .str [c])) := rfl
/-- the letters of a word, at most so many -/
def Wd (mm : Int) (w : List Nat) : Prop := (w.length : Int) ≤ mm ∧ ∀ c ∈ w, c ∈ az
theorem S_near {a b : Nat} {L w : List Nat} {mm : Int} {s : LS} {Q : Rv → LS → Prop} (h : Bud a (b + 13) s) (m0 : 0 ≤ mm) (m1 : mm ≤ 12) (hw : Wd mm w) (L0 : 0 < L.length) (L1 : L.length ≤ 26) (La : ∀ c ∈ L, c ∈ az) (q : ∀ (w : List Nat) (s' : LS), Wd mm w → Bud a b s' → Q (.dat (.str w)) s') : Sat (l_nearF [.ref a, .str w, .int mm, .str L] s) Q := by
  have p90 : (26 : Int) ≤ 10 ^ 90 := by decide
  unfold l_nearF
  rw [S_def (k := 4) (ds := [.ref a, .str w, .int mm, .str L]) rfl]
  show Sat (l_nearM [.dat (.ref a), .dat (.str w), .dat (.int mm), .dat (.str L), .un, .un, .un, .un, .un] s) _
  unfold l_nearM
  simp only [S_var, S_C, S_op1, k1_, S_op2, k2_, k2b_, S_nil, S_cons, kc_, kcb_, S_opN, kN_, S_tup, S_lst, kT_u, kL_u, stoL_nil, stoL_dat, stoL_own, consO_some, SatO_some, S_call, kCall_u, S_if, S_ifS, kI_true, kI_false, S_andV, S_orV, kAndV_true, kAndV_false, kOrV_true, kOrV_false, S_test, kTest_, S_tru, kTru_, S_and, S_or, S_not, kAnd_true, kAnd_false, kOr_true, kOr_false, kNot_, S_seq, kS_nx, kS_rt, kS_bk, kS_ct, S_pass, S_set, kSet_dat, kSet_own, S_par, kP_, kPb_, S_ret', kR_, S_retN, S_break, S_cont, S_for, kF_, S_forNil, kFb_nx, kFb_ct, kFb_bk, kFb_rt, S_items, kItems_tup, kItems_lst, kItems_own, S_lc, kLc_, S_lcNil, S_yes, kD_rt, kD_nx, Rv.ret, gt, st, kVar_dat, kVar_own, o_add, o_sub, o_eq, o_ne, o_lt, o_le, o_gt, o_ge, o_eqB, o_neB, o_is2, o_isnot2, o_abs, o_ix, o_ixO, o_ixB, o_ixL, o_tupO, o_isBool, map_some', wp, tgN_, List.length_cons, List.length_nil, Nat.reduceAdd, Nat.reduceLeDiff, true_and, decide_true, decide_false, Bool.not_true, Bool.not_false, o_mul_u, o_div_u, o_mod_u, o_pow_u, o_eqS, o_neS, o_intB, o_lenS, o_lenO, o_lenB, o_iaddI, S_s1, kS1_, kS1b_, S_lm, kLm_bor, kLm_own, kLmb_, S_tab, o_ixT, o_ixS, S_put, kPut_, kPutK_, S_zip2, kZip_, kZipb_tup, o_sum, o_sumB, o_tupB, o_tupL, o_lenT, S_range1, kRng_3, S_tgtL, kTgtL_, List.nil_append, List.cons_append, Nat.reduceLT, SZ, forall_const, true_implies, S_callD, kCallD_, is_tt, is_ti, is_ts, is_ii, is_ss, is_bi, o_listS]
  refine S_draw (h.le (show b + 12 + 1 ≤ _ by omega)) (by omega) (by omega) fun n s1 n0 n1 h1 => ?_
  obtain ⟨m, rfl⟩ : ∃ m : Nat, n = (m : Nat) := ⟨n.toNat, by omega⟩
  rw [kRng_]
  refine ⟨rng_ok (by omega), ?_⟩
  rw [Int.toNat_natCast, rng_map, kF_]
  refine S_forA (List.range m) (fun k => D.int (0 + (k : Nat))) (fun pre post e g => ∃ (v : List Nat) (x5 x6 x7 x8 : Sl), Wd mm v ∧ e = [.dat (.ref a), .dat (.str w), .dat (.int mm), .dat (.str L), .own (v.map fun c => .str [c]), x5, x6, x7, x8] ∧ Bud a (b + post.length * 3) g) ⟨w, _, _, _, _, hw, rfl, h1.le (by rw [List.length_range]; omega)⟩ ?_ ?_
  · rintro pre k post e g hr ⟨v, x5, x6, x7, x8, hv, rfl, hB⟩
    have hv1 := hv.1
    refine ⟨_, rfl, ?_⟩
    simp only [S_var, S_C, S_op1, k1_, S_op2, k2_, k2b_, S_nil, S_cons, kc_, kcb_, S_opN, kN_, S_tup, S_lst, kT_u, kL_u, stoL_nil, stoL_dat, stoL_own, consO_some, SatO_some, S_call, kCall_u, S_if, S_ifS, kI_true, kI_false, S_andV, S_orV, kAndV_true, kAndV_false, kOrV_true, kOrV_false, S_test, kTest_, S_tru, kTru_, S_and, S_or, S_not, kAnd_true, kAnd_false, kOr_true, kOr_false, kNot_, S_seq, kS_nx, kS_rt, kS_bk, kS_ct, S_pass, S_set, kSet_dat, kSet_own, S_par, kP_, kPb_, S_ret', kR_, S_retN, S_break, S_cont, S_for, kF_, S_forNil, kFb_nx, kFb_ct, kFb_bk, kFb_rt, S_items, kItems_tup, kItems_lst, kItems_own, S_lc, kLc_, S_lcNil, S_yes, kD_rt, kD_nx, Rv.ret, gt, st, kVar_dat, kVar_own, o_add, o_sub, o_eq, o_ne, o_lt, o_le, o_gt, o_ge, o_eqB, o_neB, o_is2, o_isnot2, o_abs, o_ix, o_ixO, o_ixB, o_ixL, o_tupO, o_isBool, map_some', wp, tgN_, List.length_cons, List.length_nil, Nat.reduceAdd, Nat.reduceLeDiff, true_and, decide_true, decide_false, Bool.not_true, Bool.not_false, o_mul_u, o_div_u, o_mod_u, o_pow_u, o_eqS, o_neS, o_intB, o_lenS, o_lenO, o_lenB, o_iaddI, S_s1, kS1_, kS1b_, S_lm, kLm_bor, kLm_own, kLmb_, S_tab, o_ixT, o_ixS, S_put, kPut_, kPutK_, S_zip2, kZip_, kZipb_tup, o_sum, o_sumB, o_tupB, o_tupL, o_lenT, S_range1, kRng_3, S_tgtL, kTgtL_, List.nil_append, List.cons_append, Nat.reduceLT, SZ, forall_const, true_implies, S_callD, kCallD_, is_tt, is_ti, is_ts, is_ii, is_ss, is_bi]
    refine S_draw (b := b + post.length * 3 + 2) (hB.le (by rw [List.length_cons]; omega)) (by decide) (by decide) fun wy s1 wy0 wy1 h1 => ?_
    simp only [S_var, S_C, S_op1, k1_, S_op2, k2_, k2b_, S_nil, S_cons, kc_, kcb_, S_opN, kN_, S_tup, S_lst, kT_u, kL_u, stoL_nil, stoL_dat, stoL_own, consO_some, SatO_some, S_call, kCall_u, S_if, S_ifS, kI_true, kI_false, S_andV, S_orV, kAndV_true, kAndV_false, kOrV_true, kOrV_false, S_test, kTest_, S_tru, kTru_, S_and, S_or, S_not, kAnd_true, kAnd_false, kOr_true, kOr_false, kNot_, S_seq, kS_nx, kS_rt, kS_bk, kS_ct, S_pass, S_set, kSet_dat, kSet_own, S_par, kP_, kPb_, S_ret', kR_, S_retN, S_break, S_cont, S_for, kF_, S_forNil, kFb_nx, kFb_ct, kFb_bk, kFb_rt, S_items, kItems_tup, kItems_lst, kItems_own, S_lc, kLc_, S_lcNil, S_yes, kD_rt, kD_nx, Rv.ret, gt, st, kVar_dat, kVar_own, o_add, o_sub, o_eq, o_ne, o_lt, o_le, o_gt, o_ge, o_eqB, o_neB, o_is2, o_isnot2, o_abs, o_ix, o_ixO, o_ixB, o_ixL, o_tupO, o_isBool, map_some', wp, tgN_, List.length_cons, List.length_nil, Nat.reduceAdd, Nat.reduceLeDiff, true_and, decide_true, decide_false, Bool.not_true, Bool.not_false, o_mul_u, o_div_u, o_mod_u, o_pow_u, o_eqS, o_neS, o_intB, o_lenS, o_lenO, o_lenB, o_iaddI, S_s1, kS1_, kS1b_, S_lm, kLm_bor, kLm_own, kLmb_, S_tab, o_ixT, o_ixS, S_put, kPut_, kPutK_, S_zip2, kZip_, kZipb_tup, o_sum, o_sumB, o_tupB, o_tupL, o_lenT, S_range1, kRng_3, S_tgtL, kTgtL_, List.nil_append, List.cons_append, Nat.reduceLT, SZ, forall_const, true_implies, S_callD, kCallD_, is_tt, is_ti, is_ts, is_ii, is_ss, is_bi, List.length_map]
    refine S_draw h1 (by omega) (by omega) fun t s2 t0 t1 h2 => ?_
    obtain ⟨t, rfl⟩ : ∃ z : Nat, t = (z : Nat) := ⟨t.toNat, by omega⟩
    simp only [S_var, S_C, S_op1, k1_, S_op2, k2_, k2b_, S_nil, S_cons, kc_, kcb_, S_opN, kN_, S_tup, S_lst, kT_u, kL_u, stoL_nil, stoL_dat, stoL_own, consO_some, SatO_some, S_call, kCall_u, S_if, S_ifS, kI_true, kI_false, S_andV, S_orV, kAndV_true, kAndV_false, kOrV_true, kOrV_false, S_test, kTest_, S_tru, kTru_, S_and, S_or, S_not, kAnd_true, kAnd_false, kOr_true, kOr_false, kNot_, S_seq, kS_nx, kS_rt, kS_bk, kS_ct, S_pass, S_set, kSet_dat, kSet_own, S_par, kP_, kPb_, S_ret', kR_, S_retN, S_break, S_cont, S_for, kF_, S_forNil, kFb_nx, kFb_ct, kFb_bk, kFb_rt, S_items, kItems_tup, kItems_lst, kItems_own, S_lc, kLc_, S_lcNil, S_yes, kD_rt, kD_nx, Rv.ret, gt, st, kVar_dat, kVar_own, o_add, o_sub, o_eq, o_ne, o_lt, o_le, o_gt, o_ge, o_eqB, o_neB, o_is2, o_isnot2, o_abs, o_ix, o_ixO, o_ixB, o_ixL, o_tupO, o_isBool, map_some', wp, tgN_, List.length_cons, List.length_nil, Nat.reduceAdd, Nat.reduceLeDiff, true_and, decide_true, decide_false, Bool.not_true, Bool.not_false, o_mul_u, o_div_u, o_mod_u, o_pow_u, o_eqS, o_neS, o_intB, o_lenS, o_lenO, o_lenB, o_iaddI, S_s1, kS1_, kS1b_, S_lm, kLm_bor, kLm_own, kLmb_, S_tab, o_ixT, o_ixS, S_put, kPut_, kPutK_, S_zip2, kZip_, kZipb_tup, o_sum, o_sumB, o_tupB, o_tupL, o_lenT, S_range1, kRng_3, S_tgtL, kTgtL_, List.nil_append, List.cons_append, Nat.reduceLT, SZ, forall_const, true_implies, S_callD, kCallD_, is_tt, is_ti, is_ts, is_ii, is_ss, is_bi, List.length_map]
    refine S_draw h2 (by omega) (by omega) fun i s3 i0 i1 h3 => ?_
    obtain ⟨c, hc, ec⟩ := atI_nat i0 i1
    rw [k2b_, o_ixS, ec]
    have fin : ∀ v : List Nat, Wd mm v → ∃ (v' : List Nat) (x5' x6' x7' x8' : Sl), Wd mm v' ∧ [Sl.dat (.ref a), .dat (.str w), .dat (.int mm), .dat (.str L), .own (v.map fun c => .str [c]), .dat (.int (0 + (k : Nat))), .dat (.int wy), .dat (.int ((t : Nat) : Int)), .dat (.str [c])] = [.dat (.ref a), .dat (.str w), .dat (.int mm), .dat (.str L), .own (v'.map fun c => .str [c]), x5', x6', x7', x8'] ∧ Bud a (b + post.length * 3) s3 := fun v hv => ⟨v, _, _, _, _, hv, rfl, h3⟩
    have hw3 : wy = 0 ∨ wy = 1 ∨ wy = 2 := by omega
    rcases hw3 with rfl | rfl | rfl
    · simp only [S_var, S_C, S_op1, k1_, S_op2, k2_, k2b_, S_nil, S_cons, kc_, kcb_, S_opN, kN_, S_tup, S_lst, kT_u, kL_u, stoL_nil, stoL_dat, stoL_own, consO_some, SatO_some, S_call, kCall_u, S_if, S_ifS, kI_true, kI_false, S_andV, S_orV, kAndV_true, kAndV_false, kOrV_true, kOrV_false, S_test, kTest_, S_tru, kTru_, S_and, S_or, S_not, kAnd_true, kAnd_false, kOr_true, kOr_false, kNot_, S_seq, kS_nx, kS_rt, kS_bk, kS_ct, S_pass, S_set, kSet_dat, kSet_own, S_par, kP_, kPb_, S_ret', kR_, S_retN, S_break, S_cont, S_for, kF_, S_forNil, kFb_nx, kFb_ct, kFb_bk, kFb_rt, S_items, kItems_tup, kItems_lst, kItems_own, S_lc, kLc_, S_lcNil, S_yes, kD_rt, kD_nx, Rv.ret, gt, st, kVar_dat, kVar_own, o_add, o_sub, o_eq, o_ne, o_lt, o_le, o_gt, o_ge, o_eqB, o_neB, o_is2, o_isnot2, o_abs, o_ix, o_ixO, o_ixB, o_ixL, o_tupO, o_isBool, map_some', wp, tgN_, List.length_cons, List.length_nil, Nat.reduceAdd, Nat.reduceLeDiff, true_and, decide_true, decide_false, Bool.not_true, Bool.not_false, o_mul_u, o_div_u, o_mod_u, o_pow_u, o_eqS, o_neS, o_intB, o_lenS, o_lenO, o_lenB, o_iaddI, S_s1, kS1_, kS1b_, S_lm, kLm_bor, kLm_own, kLmb_, S_tab, o_ixT, o_ixS, S_put, kPut_, kPutK_, S_zip2, kZip_, kZipb_tup, o_sum, o_sumB, o_tupB, o_tupL, o_lenT, S_range1, kRng_3, S_tgtL, kTgtL_, List.nil_append, List.cons_append, Nat.reduceLT, SZ, forall_const, true_implies, S_callD, kCallD_, is_tt, is_ti, is_ts, is_ii, is_ss, is_bi, List.length_map, Int.reduceEq]
      by_cases c1 : (v.length : Int) < mm
      · rw [decide_eq_true c1, kI_true]
        refine S_insA rfl ?_
        simp only [S_var, S_C, S_op1, k1_, S_op2, k2_, k2b_, S_nil, S_cons, kc_, kcb_, S_opN, kN_, S_tup, S_lst, kT_u, kL_u, stoL_nil, stoL_dat, stoL_own, consO_some, SatO_some, S_call, kCall_u, S_if, S_ifS, kI_true, kI_false, S_andV, S_orV, kAndV_true, kAndV_false, kOrV_true, kOrV_false, S_test, kTest_, S_tru, kTru_, S_and, S_or, S_not, kAnd_true, kAnd_false, kOr_true, kOr_false, kNot_, S_seq, kS_nx, kS_rt, kS_bk, kS_ct, S_pass, S_set, kSet_dat, kSet_own, S_par, kP_, kPb_, S_ret', kR_, S_retN, S_break, S_cont, S_for, kF_, S_forNil, kFb_nx, kFb_ct, kFb_bk, kFb_rt, S_items, kItems_tup, kItems_lst, kItems_own, S_lc, kLc_, S_lcNil, S_yes, kD_rt, kD_nx, Rv.ret, gt, st, kVar_dat, kVar_own, o_add, o_sub, o_eq, o_ne, o_lt, o_le, o_gt, o_ge, o_eqB, o_neB, o_is2, o_isnot2, o_abs, o_ix, o_ixO, o_ixB, o_ixL, o_tupO, o_isBool, map_some', wp, tgN_, List.length_cons, List.length_nil, Nat.reduceAdd, Nat.reduceLeDiff, true_and, decide_true, decide_false, Bool.not_true, Bool.not_false, o_mul_u, o_div_u, o_mod_u, o_pow_u, o_eqS, o_neS, o_intB, o_lenS, o_lenO, o_lenB, o_iaddI, S_s1, kS1_, kS1b_, S_lm, kLm_bor, kLm_own, kLmb_, S_tab, o_ixT, o_ixS, S_put, kPut_, kPutK_, S_zip2, kZip_, kZipb_tup, o_sum, o_sumB, o_tupB, o_tupL, o_lenT, S_range1, kRng_3, S_tgtL, kTgtL_, List.nil_append, List.cons_append, Nat.reduceLT, SZ, forall_const, true_implies, S_callD, kCallD_, is_tt, is_ti, is_ts, is_ii, is_ss, is_bi, kInsA_, List.length_map, Int.reduceEq, Int.toNat_natCast, kS_nx]
        refine ⟨by omega, by omega, by omega, ?_⟩
        rw [show (v.map fun c => D.str [c]).take t ++ [D.str [c]] ++ (v.map fun c => D.str [c]).drop t = (v.take t ++ c :: v.drop t).map fun c => D.str [c] by simp]
        refine fin _ ⟨?_, fun y hy => ?_⟩
        · rw [List.length_append, List.length_cons, List.length_take, List.length_drop]
          omega
        · rcases List.mem_append.mp hy with hy | hy
          · exact hv.2 _ (List.mem_of_mem_take hy)
          · rcases List.mem_cons.mp hy with rfl | hy
            · exact La _ hc
            · exact hv.2 _ (List.mem_of_mem_drop hy)
      · rw [decide_eq_false c1, kI_false]
        simp only [S_var, S_C, S_op1, k1_, S_op2, k2_, k2b_, S_nil, S_cons, kc_, kcb_, S_opN, kN_, S_tup, S_lst, kT_u, kL_u, stoL_nil, stoL_dat, stoL_own, consO_some, SatO_some, S_call, kCall_u, S_if, S_ifS, kI_true, kI_false, S_andV, S_orV, kAndV_true, kAndV_false, kOrV_true, kOrV_false, S_test, kTest_, S_tru, kTru_, S_and, S_or, S_not, kAnd_true, kAnd_false, kOr_true, kOr_false, kNot_, S_seq, kS_nx, kS_rt, kS_bk, kS_ct, S_pass, S_set, kSet_dat, kSet_own, S_par, kP_, kPb_, S_ret', kR_, S_retN, S_break, S_cont, S_for, kF_, S_forNil, kFb_nx, kFb_ct, kFb_bk, kFb_rt, S_items, kItems_tup, kItems_lst, kItems_own, S_lc, kLc_, S_lcNil, S_yes, kD_rt, kD_nx, Rv.ret, gt, st, kVar_dat, kVar_own, o_add, o_sub, o_eq, o_ne, o_lt, o_le, o_gt, o_ge, o_eqB, o_neB, o_is2, o_isnot2, o_abs, o_ix, o_ixO, o_ixB, o_ixL, o_tupO, o_isBool, map_some', wp, tgN_, List.length_cons, List.length_nil, Nat.reduceAdd, Nat.reduceLeDiff, true_and, decide_true, decide_false, Bool.not_true, Bool.not_false, o_mul_u, o_div_u, o_mod_u, o_pow_u, o_eqS, o_neS, o_intB, o_lenS, o_lenO, o_lenB, o_iaddI, S_s1, kS1_, kS1b_, S_lm, kLm_bor, kLm_own, kLmb_, S_tab, o_ixT, o_ixS, S_put, kPut_, kPutK_, S_zip2, kZip_, kZipb_tup, o_sum, o_sumB, o_tupB, o_tupL, o_lenT, S_range1, kRng_3, S_tgtL, kTgtL_, List.nil_append, List.cons_append, Nat.reduceLT, SZ, forall_const, true_implies, S_callD, kCallD_, is_tt, is_ti, is_ts, is_ii, is_ss, is_bi, List.length_map, Int.reduceEq]
        exact fin v hv
    · simp only [S_var, S_C, S_op1, k1_, S_op2, k2_, k2b_, S_nil, S_cons, kc_, kcb_, S_opN, kN_, S_tup, S_lst, kT_u, kL_u, stoL_nil, stoL_dat, stoL_own, consO_some, SatO_some, S_call, kCall_u, S_if, S_ifS, kI_true, kI_false, S_andV, S_orV, kAndV_true, kAndV_false, kOrV_true, kOrV_false, S_test, kTest_, S_tru, kTru_, S_and, S_or, S_not, kAnd_true, kAnd_false, kOr_true, kOr_false, kNot_, S_seq, kS_nx, kS_rt, kS_bk, kS_ct, S_pass, S_set, kSet_dat, kSet_own, S_par, kP_, kPb_, S_ret', kR_, S_retN, S_break, S_cont, S_for, kF_, S_forNil, kFb_nx, kFb_ct, kFb_bk, kFb_rt, S_items, kItems_tup, kItems_lst, kItems_own, S_lc, kLc_, S_lcNil, S_yes, kD_rt, kD_nx, Rv.ret, gt, st, kVar_dat, kVar_own, o_add, o_sub, o_eq, o_ne, o_lt, o_le, o_gt, o_ge, o_eqB, o_neB, o_is2, o_isnot2, o_abs, o_ix, o_ixO, o_ixB, o_ixL, o_tupO, o_isBool, map_some', wp, tgN_, List.length_cons, List.length_nil, Nat.reduceAdd, Nat.reduceLeDiff, true_and, decide_true, decide_false, Bool.not_true, Bool.not_false, o_mul_u, o_div_u, o_mod_u, o_pow_u, o_eqS, o_neS, o_intB, o_lenS, o_lenO, o_lenB, o_iaddI, S_s1, kS1_, kS1b_, S_lm, kLm_bor, kLm_own, kLmb_, S_tab, o_ixT, o_ixS, S_put, kPut_, kPutK_, S_zip2, kZip_, kZipb_tup, o_sum, o_sumB, o_tupB, o_tupL, o_lenT, S_range1, kRng_3, S_tgtL, kTgtL_, List.nil_append, List.cons_append, Nat.reduceLT, SZ, forall_const, true_implies, S_callD, kCallD_, is_tt, is_ti, is_ts, is_ii, is_ss, is_bi, List.length_map, Int.reduceEq]
      by_cases c1 : (t : Int) < v.length
      · rw [decide_eq_true c1, kI_true]
        refine S_popA rfl ?_
        simp only [S_var, S_C, S_op1, k1_, S_op2, k2_, k2b_, S_nil, S_cons, kc_, kcb_, S_opN, kN_, S_tup, S_lst, kT_u, kL_u, stoL_nil, stoL_dat, stoL_own, consO_some, SatO_some, S_call, kCall_u, S_if, S_ifS, kI_true, kI_false, S_andV, S_orV, kAndV_true, kAndV_false, kOrV_true, kOrV_false, S_test, kTest_, S_tru, kTru_, S_and, S_or, S_not, kAnd_true, kAnd_false, kOr_true, kOr_false, kNot_, S_seq, kS_nx, kS_rt, kS_bk, kS_ct, S_pass, S_set, kSet_dat, kSet_own, S_par, kP_, kPb_, S_ret', kR_, S_retN, S_break, S_cont, S_for, kF_, S_forNil, kFb_nx, kFb_ct, kFb_bk, kFb_rt, S_items, kItems_tup, kItems_lst, kItems_own, S_lc, kLc_, S_lcNil, S_yes, kD_rt, kD_nx, Rv.ret, gt, st, kVar_dat, kVar_own, o_add, o_sub, o_eq, o_ne, o_lt, o_le, o_gt, o_ge, o_eqB, o_neB, o_is2, o_isnot2, o_abs, o_ix, o_ixO, o_ixB, o_ixL, o_tupO, o_isBool, map_some', wp, tgN_, List.length_cons, List.length_nil, Nat.reduceAdd, Nat.reduceLeDiff, true_and, decide_true, decide_false, Bool.not_true, Bool.not_false, o_mul_u, o_div_u, o_mod_u, o_pow_u, o_eqS, o_neS, o_intB, o_lenS, o_lenO, o_lenB, o_iaddI, S_s1, kS1_, kS1b_, S_lm, kLm_bor, kLm_own, kLmb_, S_tab, o_ixT, o_ixS, S_put, kPut_, kPutK_, S_zip2, kZip_, kZipb_tup, o_sum, o_sumB, o_tupB, o_tupL, o_lenT, S_range1, kRng_3, S_tgtL, kTgtL_, List.nil_append, List.cons_append, Nat.reduceLT, SZ, forall_const, true_implies, S_callD, kCallD_, is_tt, is_ti, is_ts, is_ii, is_ss, is_bi, kPopA_, List.length_map, Int.reduceEq, Int.toNat_natCast, kS_nx]
        refine ⟨by omega, by omega, by omega, ?_⟩
        rw [eraseIdx_map]
        refine fin _ ⟨?_, fun y hy => hv.2 _ (List.mem_of_mem_eraseIdx hy)⟩
        have := List.length_eraseIdx_le v t
        omega
      · rw [decide_eq_false c1, kI_false]
        simp only [S_var, S_C, S_op1, k1_, S_op2, k2_, k2b_, S_nil, S_cons, kc_, kcb_, S_opN, kN_, S_tup, S_lst, kT_u, kL_u, stoL_nil, stoL_dat, stoL_own, consO_some, SatO_some, S_call, kCall_u, S_if, S_ifS, kI_true, kI_false, S_andV, S_orV, kAndV_true, kAndV_false, kOrV_true, kOrV_false, S_test, kTest_, S_tru, kTru_, S_and, S_or, S_not, kAnd_true, kAnd_false, kOr_true, kOr_false, kNot_, S_seq, kS_nx, kS_rt, kS_bk, kS_ct, S_pass, S_set, kSet_dat, kSet_own, S_par, kP_, kPb_, S_ret', kR_, S_retN, S_break, S_cont, S_for, kF_, S_forNil, kFb_nx, kFb_ct, kFb_bk, kFb_rt, S_items, kItems_tup, kItems_lst, kItems_own, S_lc, kLc_, S_lcNil, S_yes, kD_rt, kD_nx, Rv.ret, gt, st, kVar_dat, kVar_own, o_add, o_sub, o_eq, o_ne, o_lt, o_le, o_gt, o_ge, o_eqB, o_neB, o_is2, o_isnot2, o_abs, o_ix, o_ixO, o_ixB, o_ixL, o_tupO, o_isBool, map_some', wp, tgN_, List.length_cons, List.length_nil, Nat.reduceAdd, Nat.reduceLeDiff, true_and, decide_true, decide_false, Bool.not_true, Bool.not_false, o_mul_u, o_div_u, o_mod_u, o_pow_u, o_eqS, o_neS, o_intB, o_lenS, o_lenO, o_lenB, o_iaddI, S_s1, kS1_, kS1b_, S_lm, kLm_bor, kLm_own, kLmb_, S_tab, o_ixT, o_ixS, S_put, kPut_, kPutK_, S_zip2, kZip_, kZipb_tup, o_sum, o_sumB, o_tupB, o_tupL, o_lenT, S_range1, kRng_3, S_tgtL, kTgtL_, List.nil_append, List.cons_append, Nat.reduceLT, SZ, forall_const, true_implies, S_callD, kCallD_, is_tt, is_ti, is_ts, is_ii, is_ss, is_bi, List.length_map, Int.reduceEq]
        exact fin v hv
    · simp only [S_var, S_C, S_op1, k1_, S_op2, k2_, k2b_, S_nil, S_cons, kc_, kcb_, S_opN, kN_, S_tup, S_lst, kT_u, kL_u, stoL_nil, stoL_dat, stoL_own, consO_some, SatO_some, S_call, kCall_u, S_if, S_ifS, kI_true, kI_false, S_andV, S_orV, kAndV_true, kAndV_false, kOrV_true, kOrV_false, S_test, kTest_, S_tru, kTru_, S_and, S_or, S_not, kAnd_true, kAnd_false, kOr_true, kOr_false, kNot_, S_seq, kS_nx, kS_rt, kS_bk, kS_ct, S_pass, S_set, kSet_dat, kSet_own, S_par, kP_, kPb_, S_ret', kR_, S_retN, S_break, S_cont, S_for, kF_, S_forNil, kFb_nx, kFb_ct, kFb_bk, kFb_rt, S_items, kItems_tup, kItems_lst, kItems_own, S_lc, kLc_, S_lcNil, S_yes, kD_rt, kD_nx, Rv.ret, gt, st, kVar_dat, kVar_own, o_add, o_sub, o_eq, o_ne, o_lt, o_le, o_gt, o_ge, o_eqB, o_neB, o_is2, o_isnot2, o_abs, o_ix, o_ixO, o_ixB, o_ixL, o_tupO, o_isBool, map_some', wp, tgN_, List.length_cons, List.length_nil, Nat.reduceAdd, Nat.reduceLeDiff, true_and, decide_true, decide_false, Bool.not_true, Bool.not_false, o_mul_u, o_div_u, o_mod_u, o_pow_u, o_eqS, o_neS, o_intB, o_lenS, o_lenO, o_lenB, o_iaddI, S_s1, kS1_, kS1b_, S_lm, kLm_bor, kLm_own, kLmb_, S_tab, o_ixT, o_ixS, S_put, kPut_, kPutK_, S_zip2, kZip_, kZipb_tup, o_sum, o_sumB, o_tupB, o_tupL, o_lenT, S_range1, kRng_3, S_tgtL, kTgtL_, List.nil_append, List.cons_append, Nat.reduceLT, SZ, forall_const, true_implies, S_callD, kCallD_, is_tt, is_ti, is_ts, is_ii, is_ss, is_bi, List.length_map, Int.reduceEq]
      by_cases c1 : (t : Int) < v.length
      · rw [decide_eq_true c1, kI_true]
        refine S_putA rfl ?_
        simp only [S_var, S_C, S_op1, k1_, S_op2, k2_, k2b_, S_nil, S_cons, kc_, kcb_, S_opN, kN_, S_tup, S_lst, kT_u, kL_u, stoL_nil, stoL_dat, stoL_own, consO_some, SatO_some, S_call, kCall_u, S_if, S_ifS, kI_true, kI_false, S_andV, S_orV, kAndV_true, kAndV_false, kOrV_true, kOrV_false, S_test, kTest_, S_tru, kTru_, S_and, S_or, S_not, kAnd_true, kAnd_false, kOr_true, kOr_false, kNot_, S_seq, kS_nx, kS_rt, kS_bk, kS_ct, S_pass, S_set, kSet_dat, kSet_own, S_par, kP_, kPb_, S_ret', kR_, S_retN, S_break, S_cont, S_for, kF_, S_forNil, kFb_nx, kFb_ct, kFb_bk, kFb_rt, S_items, kItems_tup, kItems_lst, kItems_own, S_lc, kLc_, S_lcNil, S_yes, kD_rt, kD_nx, Rv.ret, gt, st, kVar_dat, kVar_own, o_add, o_sub, o_eq, o_ne, o_lt, o_le, o_gt, o_ge, o_eqB, o_neB, o_is2, o_isnot2, o_abs, o_ix, o_ixO, o_ixB, o_ixL, o_tupO, o_isBool, map_some', wp, tgN_, List.length_cons, List.length_nil, Nat.reduceAdd, Nat.reduceLeDiff, true_and, decide_true, decide_false, Bool.not_true, Bool.not_false, o_mul_u, o_div_u, o_mod_u, o_pow_u, o_eqS, o_neS, o_intB, o_lenS, o_lenO, o_lenB, o_iaddI, S_s1, kS1_, kS1b_, S_lm, kLm_bor, kLm_own, kLmb_, S_tab, o_ixT, o_ixS, S_put, kPut_, kPutK_, S_zip2, kZip_, kZipb_tup, o_sum, o_sumB, o_tupB, o_tupL, o_lenT, S_range1, kRng_3, S_tgtL, kTgtL_, List.nil_append, List.cons_append, Nat.reduceLT, SZ, forall_const, true_implies, S_callD, kCallD_, is_tt, is_ti, is_ts, is_ii, is_ss, is_bi, List.length_map, Int.reduceEq, ixNnat (show t < v.length by omega)]
        rw [← List.map_set (f := fun c => D.str [c])]
        refine fin _ ⟨by rw [List.length_set]; exact hv1, fun y hy => ?_⟩
        rcases List.mem_or_eq_of_mem_set hy with hy | rfl
        · exact hv.2 _ hy
        · exact La _ hc
      · rw [decide_eq_false c1, kI_false]
        simp only [S_var, S_C, S_op1, k1_, S_op2, k2_, k2b_, S_nil, S_cons, kc_, kcb_, S_opN, kN_, S_tup, S_lst, kT_u, kL_u, stoL_nil, stoL_dat, stoL_own, consO_some, SatO_some, S_call, kCall_u, S_if, S_ifS, kI_true, kI_false, S_andV, S_orV, kAndV_true, kAndV_false, kOrV_true, kOrV_false, S_test, kTest_, S_tru, kTru_, S_and, S_or, S_not, kAnd_true, kAnd_false, kOr_true, kOr_false, kNot_, S_seq, kS_nx, kS_rt, kS_bk, kS_ct, S_pass, S_set, kSet_dat, kSet_own, S_par, kP_, kPb_, S_ret', kR_, S_retN, S_break, S_cont, S_for, kF_, S_forNil, kFb_nx, kFb_ct, kFb_bk, kFb_rt, S_items, kItems_tup, kItems_lst, kItems_own, S_lc, kLc_, S_lcNil, S_yes, kD_rt, kD_nx, Rv.ret, gt, st, kVar_dat, kVar_own, o_add, o_sub, o_eq, o_ne, o_lt, o_le, o_gt, o_ge, o_eqB, o_neB, o_is2, o_isnot2, o_abs, o_ix, o_ixO, o_ixB, o_ixL, o_tupO, o_isBool, map_some', wp, tgN_, List.length_cons, List.length_nil, Nat.reduceAdd, Nat.reduceLeDiff, true_and, decide_true, decide_false, Bool.not_true, Bool.not_false, o_mul_u, o_div_u, o_mod_u, o_pow_u, o_eqS, o_neS, o_intB, o_lenS, o_lenO, o_lenB, o_iaddI, S_s1, kS1_, kS1b_, S_lm, kLm_bor, kLm_own, kLmb_, S_tab, o_ixT, o_ixS, S_put, kPut_, kPutK_, S_zip2, kZip_, kZipb_tup, o_sum, o_sumB, o_tupB, o_tupL, o_lenT, S_range1, kRng_3, S_tgtL, kTgtL_, List.nil_append, List.cons_append, Nat.reduceLT, SZ, forall_const, true_implies, S_callD, kCallD_, is_tt, is_ti, is_ts, is_ii, is_ss, is_bi, List.length_map, Int.reduceEq]
        exact fin v hv
  · rintro e g ⟨v, x5, x6, x7, x8, hv, rfl, hB⟩
    have hv1 := hv.1
    simp only [S_var, S_C, S_op1, k1_, S_op2, k2_, k2b_, S_nil, S_cons, kc_, kcb_, S_opN, kN_, S_tup, S_lst, kT_u, kL_u, stoL_nil, stoL_dat, stoL_own, consO_some, SatO_some, S_call, kCall_u, S_if, S_ifS, kI_true, kI_false, S_andV, S_orV, kAndV_true, kAndV_false, kOrV_true, kOrV_false, S_test, kTest_, S_tru, kTru_, S_and, S_or, S_not, kAnd_true, kAnd_false, kOr_true, kOr_false, kNot_, S_seq, kS_nx, kS_rt, kS_bk, kS_ct, S_pass, S_set, kSet_dat, kSet_own, S_par, kP_, kPb_, S_ret', kR_, S_retN, S_break, S_cont, S_for, kF_, S_forNil, kFb_nx, kFb_ct, kFb_bk, kFb_rt, S_items, kItems_tup, kItems_lst, kItems_own, S_lc, kLc_, S_lcNil, S_yes, kD_rt, kD_nx, Rv.ret, gt, st, kVar_dat, kVar_own, o_add, o_sub, o_eq, o_ne, o_lt, o_le, o_gt, o_ge, o_eqB, o_neB, o_is2, o_isnot2, o_abs, o_ix, o_ixO, o_ixB, o_ixL, o_tupO, o_isBool, map_some', wp, tgN_, List.length_cons, List.length_nil, Nat.reduceAdd, Nat.reduceLeDiff, true_and, decide_true, decide_false, Bool.not_true, Bool.not_false, o_mul_u, o_div_u, o_mod_u, o_pow_u, o_eqS, o_neS, o_intB, o_lenS, o_lenO, o_lenB, o_iaddI, S_s1, kS1_, kS1b_, S_lm, kLm_bor, kLm_own, kLmb_, S_tab, o_ixT, o_ixS, S_put, kPut_, kPutK_, S_zip2, kZip_, kZipb_tup, o_sum, o_sumB, o_tupB, o_tupL, o_lenT, S_range1, kRng_3, S_tgtL, kTgtL_, List.nil_append, List.cons_append, Nat.reduceLT, SZ, forall_const, true_implies, S_callD, kCallD_, is_tt, is_ti, is_ts, is_ii, is_ss, is_bi]
    have hj : oJoin [] (.bor (v.map fun c => .str [c])) = some (.dat (.str v)) := o_joinS v (by show _ ≤ 16777216; omega)
    rw [hj]
    exact q v g hv (hB.le (by omega))
theorem o_revS {w : List Nat} : oRev (.dat (.str w)) = some (.dat (.str w.reverse)) := rfl
/-- two words of so many letters at most -/
def tw (x y : List Nat) : D := .tup [.str x, .str y]
/-- a price drawn -/
theorem S_priceV {a b : Nat} {s : LS} {Q : Rv → LS → Prop} (h : Bud a (b + 8) s) (q : ∀ (p : V3) (s' : LS), (0 ≤ p.1 ∧ 0 ≤ p.2.1 ∧ 0 ≤ p.2.2) → Lt3 130 p → 0 < p.1 + p.2.1 + p.2.2 → Bud a b s' → Q (.dat (vd p)) s') : Sat (priceF [.ref a] s) Q :=
  S_price h fun x y z s' hp h0 hB => q (x, y, z) s' ⟨hp.1.1, hp.2.1.1, hp.2.2.1⟩ ⟨by have := hp.1; show x.natAbs < _; omega, by have := hp.2.1; show y.natAbs < _; omega, by have := hp.2.2; show z.natAbs < _; omega⟩ h0 hB
end PB
set_option Elab.async false
set_option linter.all false
set_option maxRecDepth 10000
set_option maxHeartbeats 4000000
namespace PB
def sw (t : Int) (b : Bool) : Int := if b = true then 0 else t
def ne1 (o : Int) (x y : Nat) : Int := if x = y then 0 else o
def Lc (o s t : Int) : Nat → List Nat → List Nat → Int
  | _, [], [] => 0
  | k, _ :: xs, [] => s + sw t (k == 1) + Lc o s t 1 xs []
  | k, [], _ :: ys => s + sw t (k == 2) + Lc o s t 2 [] ys
  | k, x :: xs, y :: ys => min (ne1 o x y + Lc o s t 0 xs ys) (min (s + sw t (k == 1) + Lc o s t 1 xs (y :: ys)) (s + sw t (k == 2) + Lc o s t 2 (x :: xs) ys))
termination_by _ xs ys => xs.length + ys.length
structure Pos (o s t : Int) : Prop where
  o0 : 0 ≤ o
  s0 : 0 ≤ s
  t0 : 0 ≤ t
theorem sw_le {t : Int} {b : Bool} (h : 0 ≤ t) : 0 ≤ sw t b ∧ sw t b ≤ t := by
  unfold sw
  split <;> omega
theorem ne1_le {o : Int} {x y : Nat} (h : 0 ≤ o) : 0 ≤ ne1 o x y ∧ ne1 o x y ≤ o := by
  unfold ne1
  split <;> omega
section
variable {o s t : Int}
theorem Lc_nn {k : Nat} : Lc o s t k [] [] = 0 := by rw [Lc]
theorem Lc_cn {k x : Nat} {xs : List Nat} : Lc o s t k (x :: xs) [] = s + sw t (k == 1) + Lc o s t 1 xs [] := by rw [Lc]
theorem Lc_nc {k y : Nat} {ys : List Nat} : Lc o s t k [] (y :: ys) = s + sw t (k == 2) + Lc o s t 2 [] ys := by rw [Lc]
theorem Lc_cc {k x y : Nat} {xs ys : List Nat} : Lc o s t k (x :: xs) (y :: ys) = min (ne1 o x y + Lc o s t 0 xs ys) (min (s + sw t (k == 1) + Lc o s t 1 xs (y :: ys)) (s + sw t (k == 2) + Lc o s t 2 (x :: xs) ys)) := by rw [Lc]
theorem Lc_bd (h : Pos o s t) (k : Nat) (xs ys : List Nat) : 0 ≤ Lc o s t k xs ys ∧ Lc o s t k xs ys ≤ (xs.length : Int) * (s + t) + (ys.length : Int) * (s + t) := by
  induction k, xs, ys using Lc.induct with
  | case1 => rw [Lc_nn]; simp
  | case2 k x xs ih =>
    have := sw_le (b := k == 1) h.t0
    have := h.s0
    rw [Lc_cn, List.length_cons, Int.natCast_add, Int.add_mul]
    omega
  | case3 k y ys ih =>
    have := sw_le (b := k == 2) h.t0
    have := h.s0
    rw [Lc_nc, List.length_cons, Int.natCast_add, Int.add_mul]
    omega
  | case4 k x xs y ys i1 i2 i3 =>
    have := sw_le (b := k == 1) h.t0
    have := sw_le (b := k == 2) h.t0
    have := ne1_le (x := x) (y := y) h.o0
    have := h.s0
    rw [Lc_cc]
    rw [List.length_cons, Int.natCast_add, Int.add_mul] at *
    rw [List.length_cons, Int.natCast_add, Int.add_mul] at *
    omega
theorem b01 : ((0 : Nat) == 1) = false := rfl
theorem b02 : ((0 : Nat) == 2) = false := rfl
theorem b11 : ((1 : Nat) == 1) = true := rfl
theorem b12 : ((1 : Nat) == 2) = false := rfl
theorem b21 : ((2 : Nat) == 1) = false := rfl
theorem b22 : ((2 : Nat) == 2) = true := rfl
theorem swT : sw t true = 0 := rfl
theorem swF : sw t false = t := rfl
def LL (o s t : Int) (xs ys : List Nat) : V3 := (Lc o s t 0 xs ys, Lc o s t 1 xs ys, Lc o s t 2 xs ys)
def tri (a b c t : Int) : V3 := (lmin a [b + t, c + t], lmin a [b, c + t], lmin a [b + t, c])
theorem lmin3 (a b c : Int) : lmin a [b, c] = min a (min b c) := by
  show (if c < (if b < a then b else a) then c else (if b < a then b else a)) = _
  split <;> split at * <;> omega
theorem LL_cc {x y : Nat} {xs ys : List Nat} : tri (Lc o s t 0 xs ys + ne1 o x y) (Lc o s t 1 xs (y :: ys) + s) (Lc o s t 2 (x :: xs) ys + s) t = LL o s t (x :: xs) (y :: ys) := by
  unfold tri LL
  rw [Lc_cc, Lc_cc, Lc_cc, lmin3, lmin3, lmin3]
  simp only [b01, b02, b11, b12, b21, b22, swT, swF, Prod.mk.injEq]
  omega
theorem LL_cn (h : Pos o s t) {far : Int} {x : Nat} {xs : List Nat} (hf : ((x :: xs).length : Int) * (s + t) ≤ far) : tri far (Lc o s t 1 xs [] + s) (far + s) t = LL o s t (x :: xs) [] := by
  have := (Lc_bd h 1 xs []).2
  have := h.s0
  have := h.t0
  unfold tri LL
  rw [Lc_cn, Lc_cn, Lc_cn, lmin3, lmin3, lmin3]
  rw [List.length_cons, Int.natCast_add, Int.add_mul] at hf
  simp only [List.length_nil] at *
  simp only [b01, b02, b11, b12, b21, b22, swT, swF, Prod.mk.injEq]
  omega
theorem LL_nc (h : Pos o s t) {far : Int} {y : Nat} {ys : List Nat} (hf : ((y :: ys).length : Int) * (s + t) ≤ far) : tri far (far + s) (Lc o s t 2 [] ys + s) t = LL o s t [] (y :: ys) := by
  have := (Lc_bd h 2 [] ys).2
  have := h.s0
  have := h.t0
  unfold tri LL
  rw [Lc_nc, Lc_nc, Lc_nc, lmin3, lmin3, lmin3]
  rw [List.length_cons, Int.natCast_add, Int.add_mul] at hf
  simp only [List.length_nil] at *
  simp only [b01, b02, b11, b12, b21, b22, swT, swF, Prod.mk.injEq]
  omega
end
end PB
set_option Elab.async false
set_option linter.all false
set_option maxRecDepth 10000
set_option maxHeartbeats 4000000
set_option exponentiation.threshold 2000
namespace PB
def triple_ofM : MS LS := (mRet (mTup (mCons (mOpN oMin3 (mCons (mVar 0) (mCons (mOp2 oAdd (mVar 1) (mVar 3)) (mCons (mOp2 oAdd (mVar 2) (mVar 3)) mNil)))) (mCons (mOpN oMin3 (mCons (mVar 0) (mCons (mVar 1) (mCons (mOp2 oAdd (mVar 2) (mVar 3)) mNil)))) (mCons (mOpN oMin3 (mCons (mVar 0) (mCons (mOp2 oAdd (mVar 1) (mVar 3)) (mCons (mVar 2) mNil)))) mNil)))))
def triple_ofF : MF LS := mDef 4 4 (triple_ofM)
def rests_ofMB : MS (LS × NL) := (mSeq (mNlPut 7 (mOpN oLen (mCons (mVar 0) mNil)) (mOpN oLen (mCons (mVar 1) mNil)) (mTup (mCons (mC (.int 0)) (mCons (mC (.int 0)) (mCons (mC (.int 0)) mNil)))))
    (mSeq (mFor (mRangeA (mCons (mOpN oLen (mCons (mVar 0) mNil)) (mCons (mOp1 oNeg (mC (.int 1))) (mCons (mOp1 oNeg (mC (.int 1))) mNil)))) (tgN 8) (mFor (mRangeA (mCons (mOpN oLen (mCons (mVar 1) mNil)) (mCons (mOp1 oNeg (mC (.int 1))) (mCons (mOp1 oNeg (mC (.int 1))) mNil)))) (tgN 9) (mIfS (mOr (mTest (mOp2 oLt (mVar 8) (mOpN oLen (mCons (mVar 0) mNil)))) (mTest (mOp2 oLt (mVar 9) (mOpN oLen (mCons (mVar 1) mNil))))) (mSeq (mSet 10 (mVar 6))
    (mSeq (mIfS (mAnd (mTest (mOp2 oLt (mVar 8) (mOpN oLen (mCons (mVar 0) mNil)))) (mTest (mOp2 oLt (mVar 9) (mOpN oLen (mCons (mVar 1) mNil))))) (mSet 10 (mOp2 oAdd (mOp2 oIx (mNlGet 7 (mOp2 oAdd (mVar 8) (mC (.int 1))) (mOp2 oAdd (mVar 9) (mC (.int 1)))) (mC (.int 0))) (mOp2 oMul (mVar 3) (mOpN oInt (mCons (mOp2 oNe (mOp2 oIx (mVar 0) (mVar 8)) (mOp2 oIx (mVar 1) (mVar 9))) mNil))))) mPass)
    (mSeq (mFrz 10) (mNlPut 7 (mVar 8) (mVar 9) (mCall (liftF triple_ofF) (mCons (mVar 10) (mCons (mOp2 oAdd (mOp2 oIx (mNlGet 7 (mOp2 oAdd (mVar 8) (mC (.int 1))) (mVar 9)) (mC (.int 1))) (mVar 4)) (mCons (mOp2 oAdd (mOp2 oIx (mNlGet 7 (mVar 8) (mOp2 oAdd (mVar 9) (mC (.int 1)))) (mC (.int 2))) (mVar 4)) (mCons (mVar 5) mNil))))))))) mPass)))
    mPass))
def rests_ofM : MS LS := (mSeq (mTgt (tgT [3, 4, 5]) (mVar 2))
    (mSeq (mSet 6 (mOp2 oMul (mOp2 oAdd (mOp2 oAdd (mOpN oLen (mCons (mVar 0) mNil)) (mOpN oLen (mCons (mVar 1) mNil))) (mC (.int 1))) (mOp2 oAdd (mOp2 oAdd (mVar 3) (mVar 4)) (mVar 5))))
    (mNest 7 (mRange1 (mOp2 oAdd (mOpN oLen (mCons (mVar 0) mNil)) (mC (.int 2)))) (tgN 11) (mOp2 oRep (mLst (mCons (mTup (mCons (mVar 6) (mCons (mVar 6) (mCons (mVar 6) mNil)))) mNil)) (mOp2 oAdd (mOpN oLen (mCons (mVar 1) mNil)) (mC (.int 2)))) [11] rests_ofMB)))
def rests_ofF : MF LS := mDef 12 3 (rests_ofM)
section
variable {γ α β : Type} {e : Env} {g : γ} {i : Nat}
theorem Sat_eq {r : Rs γ α} {a : α} {g : γ} {Q : α → γ → Prop} (h : r = .ok a g) (q : Q a g) : Sat r Q := by
  rw [h, Sat_ok]
  exact q
def kRA (QI : List D → γ → Prop) (xs : List Rv) (g : γ) : Prop := SatO (rngA xs) QI g
theorem S_rangeA {r : MA γ} {QI : List D → γ → Prop} : Sat (mRangeA r e g) QI = Sat (r e g) (kRA QI) := by
  unfold mRangeA kRA
  rw [Sat_bind]
  congr 1
  funext xs g
  exact Sat_ofO _ _ _
theorem rngD_map (n : Nat) : ∀ m : Nat, n ≤ m + 1 → rngD (m : Int) n = (List.range n).map fun k => D.int ((m : Int) - (k : Nat)) := by
  induction n with
  | zero => intro m _; rfl
  | succ n ih =>
    intro m hm
    cases n with
    | zero => simp [rngD]
    | succ n =>
      rw [rngD, show ((m : Int) - 1) = ((m - 1 : Nat) : Int) by omega, ih (m - 1) (by omega), List.range_succ_eq_map (n := n + 1), List.map_cons, List.map_map]
      rw [List.cons.injEq]
      refine ⟨by simp, ?_⟩
      apply List.map_congr_left
      intro k _
      show D.int _ = D.int _
      congr 1
      simp only [Nat.succ_eq_add_one]
      omega
theorem o_neg1 {i : Int} : oNeg (.dat (.int i)) = some (.dat (.int (-i))) := rfl
theorem kRA_down {n : Nat} (hn : n ≤ 1000) {QI : List D → γ → Prop} (q : QI ((List.range (n + 1)).map fun k => D.int ((n : Int) - (k : Nat))) g) : kRA QI [.dat (.int (n : Nat)), .dat (.int (-1)), .dat (.int (-1))] g := by
  show SatO (if RngOk ((n : Nat) : Int) ∧ RngOk (-1) ∧ (-1 : Int) = -1 then some (rngD (n : Nat) ((n : Int) - -1).toNat) else none) QI g
  rw [if_pos ⟨rng_ok hn, by decide, rfl⟩, SatO_some, show ((n : Int) - -1).toNat = n + 1 by omega, rngD_map _ _ (Nat.le_refl _)]
  exact q
theorem S_lift {F : MF γ} {ds : List D} {g : γ × NL} {Q : Rv → γ × NL → Prop} : Sat (liftF F ds g) Q = Sat (F ds g.1) (fun r g' => Q r (g', g.2)) := by
  unfold liftF
  cases F ds g.1 <;> rfl
/-- the rows, by what stands in them -/
def rowT (m : Nat) (f : Nat → V3) : List D := (List.range (m + 2)).map fun j => vd (f j)
def tab (n m : Nat) (f : Nat → Nat → V3) : NL := (List.range (n + 2)).map fun i => rowT m (f i)
def updT (f : Nat → Nat → V3) (i j : Nat) (v : V3) : Nat → Nat → V3 := fun i' j' => if i' = i ∧ j' = j then v else f i' j'
theorem atI_tab {n m : Nat} {f : Nat → Nat → V3} {i : Nat} (hi : i < n + 2) : atI (tab n m f) ((i : Nat) : Int) = some (rowT m (f i)) := by
  rw [atIat (by unfold tab; simpa using hi)]
  simp [tab]
theorem atI_row {m : Nat} {f : Nat → V3} {j : Nat} (hj : j < m + 2) : atI (rowT m f) ((j : Nat) : Int) = some (vd (f j)) := by
  rw [atIat (by unfold rowT; simpa using hj)]
  simp [rowT]
theorem tab_set {n m : Nat} {f : Nat → Nat → V3} {i j : Nat} {v : V3} : (tab n m f).set i ((rowT m (f i)).set j (vd v)) = tab n m (updT f i j v) := by
  apply List.ext_getElem
  · simp [tab]
  · intro a h1 h2
    rw [List.getElem_set]
    by_cases ha : i = a
    · subst ha
      rw [if_pos rfl]
      apply List.ext_getElem
      · simp [tab, rowT]
      · intro b h3 h4
        rw [List.getElem_set]
        by_cases hb : j = b
        · subst hb
          rw [if_pos rfl]
          simp [tab, rowT, updT]
        · rw [if_neg hb]
          simp [tab, rowT, updT]
          rw [if_neg (fun z => hb z.symm)]
    · rw [if_neg ha]
      simp [tab, rowT, updT]
      intro b hb
      rw [if_neg (fun z => ha z.1.symm)]
theorem tab_congr {n m : Nat} {f f' : Nat → Nat → V3} (h : ∀ i j, i ≤ n + 1 → j ≤ m + 1 → f i j = f' i j) : tab n m f = tab n m f' := by
  apply List.map_congr_left
  intro i hi
  have := List.mem_range.mp hi
  apply List.map_congr_left
  intro j hj
  have := List.mem_range.mp hj
  rw [h i j (by omega) (by omega)]
theorem nlGetT {k n m i j : Nat} {z : Nat} {f : Nat → Nat → V3} {a b : ME (γ × NL)} {g : γ × NL} (h : gt e k = .gh z) (hg : g.2 = tab n m f)
    (ha : a e g = .ok (.dat (.int (i : Nat))) g) (hb : b e g = .ok (.dat (.int (j : Nat))) g) (hi : i < n + 2) (hj : j < m + 2) : mNlGet k a b e g = .ok (.dat (vd (f i j))) g := by
  unfold mNlGet
  rw [h]
  dsimp only
  rw [ha, Rs.bind_ok]
  dsimp only
  rw [hg, atI_tab hi]
  dsimp only
  rw [hb, Rs.bind_ok]
  dsimp only
  rw [hg, atI_tab hi, Option.bind_some, atI_row hj]
  rfl
theorem nlPutT {k n m i j : Nat} {z : Nat} {f : Nat → Nat → V3} {a b v : ME (γ × NL)} {g : γ × NL} {QS : Fl → γ × NL → Prop} (h : gt e k = .gh z) (hi : i < n + 2) (hj : j < m + 2)
    (q : Sat (v e g) fun y g0 => ∃ w : V3, y = .dat (vd w) ∧ g0.2 = tab n m f ∧ a e g0 = .ok (.dat (.int (i : Nat))) g0 ∧ b e g0 = .ok (.dat (.int (j : Nat))) g0 ∧ QS (.nx e) (g0.1, tab n m (updT f i j w))) : Sat (mNlPut k a b v e g) QS := by
  unfold mNlPut
  rw [Sat_bind]
  refine q.mono fun y g0 hq => ?_
  obtain ⟨w, rfl, hg, ha, hb, hQ⟩ := hq
  rw [h]
  dsimp only
  rw [ha, Rs.bind_ok]
  dsimp only
  have hl : g0.2.length = n + 2 := by rw [hg]; simp [tab]
  have hr : g0.2[i]? = some (rowT m (f i)) := by rw [hg]; simp [tab, hi]
  rw [hl, ixNnat hi]
  dsimp only
  rw [hb, Rs.bind_ok]
  dsimp only
  rw [hr]
  dsimp only
  have hl2 : (rowT m (f i)).length = m + 2 := by simp [rowT]
  rw [hl2, ixNnat hj]
  dsimp only
  rw [if_pos (by rfl), Sat_ok, hg, tab_set]
  exact hQ
theorem nlL_const {tg : MG} {a : ME γ} {r : List D} (h : ∀ d, ∃ e1, tg d e = some e1 ∧ a e1 g = .ok (.own r) g) (hr : r.all flat = true) : ∀ (ds : List D) (acc : NL), acc.length + ds.length ≤ SZ → nlL tg a e ds acc g = .ok (acc ++ List.replicate ds.length r) g
  | [], acc, _ => by
    simp [nlL]
  | d :: ds, acc, hl => by
    obtain ⟨e1, h1, h2⟩ := h d
    rw [List.length_cons] at hl
    unfold nlL
    rw [h1]
    dsimp only
    rw [h2]
    dsimp only
    rw [if_pos ⟨hr, by omega⟩, nlL_const h hr ds (acc ++ [r]) (by rw [List.length_append]; simp; omega), List.append_assoc, List.length_cons, List.replicate_succ]
    rfl
theorem S_nest {k : Nat} {src : MI γ} {tg : MG} {a : ME γ} {own : List Nat} {b : MS (γ × NL)} {QS : Fl → γ → Prop} {n : NL} (h : noGh e = true) (hn : mNew src tg a own e g = .ok n g)
    (q : Sat (b (st e k (.gh 0)) (g, n)) fun f g2 => match f with
      | .nx e' => ∃ z, gt e' k = .gh z ∧ QS (.rt (.own (g2.2.map .lst))) g2.1
      | _ => False) : Sat (mNest k src tg a own b e g) QS := by
  unfold mNest
  rw [if_pos h, hn, Sat_bind]
  show Sat (mNestK k (b (st e k (.gh 0)) (g, n))) QS
  cases hb : b (st e k (.gh 0)) (g, n) with
  | no =>
    rw [hb] at q
    exact q.elim
  | ex x g2 =>
    rw [hb] at q
    exact q.elim
  | ok f g2 =>
    rw [hb] at q
    cases f with
    | nx e' =>
      obtain ⟨z, h1, h2⟩ := q
      unfold mNestK
      dsimp only
      rw [h1]
      exact h2
    | _ => exact False.elim q
end
theorem S_triple {a b c t : Int} {s : LS} {Q : Rv → LS → Prop} (q : Q (.dat (vd (tri a b c t))) s) : Sat (triple_ofF [.int a, .int b, .int c, .int t] s) Q := by
  unfold triple_ofF
  rw [S_def (k := 4) (ds := [.int a, .int b, .int c, .int t]) rfl]
  show Sat (triple_ofM [.dat (.int a), .dat (.int b), .dat (.int c), .dat (.int t)] s) _
  unfold triple_ofM
  have o3 : ∀ x y z : Int, oMin3 [.dat (.int x), .dat (.int y), .dat (.int z)] = some (.dat (.int (lmin x [y, z]))) := fun x y z => rfl
  simp only [S_var, S_C, S_op1, k1_, S_op2, k2_, k2b_, S_nil, S_cons, kc_, kcb_, S_opN, kN_, S_tup, S_lst, kT_u, kL_u, stoL_nil, stoL_dat, stoL_own, consO_some, SatO_some, S_call, kCall_u, S_if, S_ifS, kI_true, kI_false, S_andV, S_orV, kAndV_true, kAndV_false, kOrV_true, kOrV_false, S_test, kTest_, S_tru, kTru_, S_and, S_or, S_not, kAnd_true, kAnd_false, kOr_true, kOr_false, kNot_, S_seq, kS_nx, kS_rt, kS_bk, kS_ct, S_pass, S_set, kSet_dat, kSet_own, S_par, kP_, kPb_, S_ret', kR_, S_retN, S_break, S_cont, S_for, kF_, S_forNil, kFb_nx, kFb_ct, kFb_bk, kFb_rt, S_items, kItems_tup, kItems_lst, kItems_own, S_lc, kLc_, S_lcNil, S_yes, kD_rt, kD_nx, Rv.ret, gt, st, kVar_dat, kVar_own, o_add, o_sub, o_eq, o_ne, o_lt, o_le, o_gt, o_ge, o_eqB, o_neB, o_is2, o_isnot2, o_abs, o_ix, o_ixO, o_ixB, o_ixL, o_tupO, o_isBool, map_some', wp, tgN_, List.length_cons, List.length_nil, Nat.reduceAdd, Nat.reduceLeDiff, true_and, decide_true, decide_false, Bool.not_true, Bool.not_false, o_mul_u, o_div_u, o_mod_u, o_pow_u, o_eqS, o_neS, o_intB, o_lenS, o_lenO, o_lenB, o_iaddI, S_s1, kS1_, kS1b_, S_lm, kLm_bor, kLm_own, kLmb_, S_tab, o_ixT, o_ixS, S_put, kPut_, kPutK_, S_zip2, kZip_, kZipb_tup, o_sum, o_sumB, o_tupB, o_tupL, o_lenT, S_range1, kRng_3, S_tgtL, kTgtL_, List.nil_append, List.cons_append, Nat.reduceLT, SZ, forall_const, true_implies, o3]
  exact q
/-- the number that stands beyond the words -/
def farN (n m : Nat) (p : V3) : Int := ((n : Int) + m + 1) * (p.1 + p.2.1 + p.2.2)
def far3 (n m : Nat) (p : V3) : V3 := (farN n m p, farN n m p, farN n m p)
def RTv (p : V3) (xs ys : List Nat) (i j : Nat) : V3 := if i ≤ xs.length ∧ j ≤ ys.length then LL p.1 p.2.1 p.2.2 (xs.drop i) (ys.drop j) else far3 xs.length ys.length p
def curT (p : V3) (xs ys : List Nat) (a b : Nat) (i j : Nat) : V3 := if xs.length < i + a ∨ (i = xs.length ∧ j = ys.length) ∨ (xs.length = i + a ∧ ys.length < j + b) then RTv p xs ys i j else far3 xs.length ys.length p
theorem tgT3 {a b c : Nat} {x y z : D} {e : Env} : tgT [a, b, c] (.tup [x, y, z]) e = some (st (st (st e a (.dat x)) b (.dat y)) c (.dat z)) := rfl
theorem RTv_step {p : V3} {xs ys : List Nat} {i j : Nat} (h : Pos p.1 p.2.1 p.2.2) (hi : i ≤ xs.length) (hj : j ≤ ys.length) (hn : i < xs.length ∨ j < ys.length) :
    tri (if hc : i < xs.length ∧ j < ys.length then (RTv p xs ys (i + 1) (j + 1)).1 + ne1 p.1 (xs[i]'hc.1) (ys[j]'hc.2) else farN xs.length ys.length p) ((RTv p xs ys (i + 1) j).2.1 + p.2.1) ((RTv p xs ys i (j + 1)).2.2 + p.2.1) p.2.2 = RTv p xs ys i j := by
  have ho := h.o0
  have hs := h.s0
  have ht := h.t0
  have farle : ∀ k : Nat, k ≤ xs.length + ys.length → (k : Int) * (p.2.1 + p.2.2) ≤ farN xs.length ys.length p := by
    intro k hk
    unfold farN
    have h1 : (k : Int) * (p.2.1 + p.2.2) ≤ ((xs.length : Int) + ys.length + 1) * (p.2.1 + p.2.2) := Int.mul_le_mul_of_nonneg_right (by omega) (by omega)
    have h2 : ((xs.length : Int) + ys.length + 1) * (p.2.1 + p.2.2) ≤ ((xs.length : Int) + ys.length + 1) * (p.1 + p.2.1 + p.2.2) := Int.mul_le_mul_of_nonneg_left (by omega) (by omega)
    omega
  have hR : RTv p xs ys i j = LL p.1 p.2.1 p.2.2 (xs.drop i) (ys.drop j) := if_pos ⟨hi, hj⟩
  rw [hR]
  by_cases c1 : i < xs.length
  · have e1 : RTv p xs ys (i + 1) j = LL p.1 p.2.1 p.2.2 (xs.drop (i + 1)) (ys.drop j) := if_pos ⟨c1, hj⟩
    have d1 : xs.drop i = xs[i] :: xs.drop (i + 1) := List.drop_eq_getElem_cons c1
    by_cases c2 : j < ys.length
    · have e2 : RTv p xs ys i (j + 1) = LL p.1 p.2.1 p.2.2 (xs.drop i) (ys.drop (j + 1)) := if_pos ⟨hi, c2⟩
      have e3 : RTv p xs ys (i + 1) (j + 1) = LL p.1 p.2.1 p.2.2 (xs.drop (i + 1)) (ys.drop (j + 1)) := if_pos ⟨c1, c2⟩
      have d2 : ys.drop j = ys[j] :: ys.drop (j + 1) := List.drop_eq_getElem_cons c2
      rw [dif_pos ⟨c1, c2⟩, e1, e2, e3, d1, d2]
      exact LL_cc
    · have e2 : RTv p xs ys i (j + 1) = far3 xs.length ys.length p := if_neg (by omega)
      have d2 : ys.drop j = [] := List.drop_of_length_le (by omega)
      rw [dif_neg (fun z => c2 z.2), e1, e2, d1, d2]
      refine LL_cn h (farle _ ?_)
      rw [← d1, List.length_drop]
      omega
  · have e1 : RTv p xs ys (i + 1) j = far3 xs.length ys.length p := if_neg (by omega)
    have c2 : j < ys.length := by omega
    have e2 : RTv p xs ys i (j + 1) = LL p.1 p.2.1 p.2.2 (xs.drop i) (ys.drop (j + 1)) := if_pos ⟨hi, c2⟩
    have d1 : xs.drop i = [] := List.drop_of_length_le (by omega)
    have d2 : ys.drop j = ys[j] :: ys.drop (j + 1) := List.drop_eq_getElem_cons c2
    rw [dif_neg (fun z => c1 z.1), e1, e2, d1, d2]
    refine LL_nc h (farle _ ?_)
    rw [← d2, List.length_drop]
    omega
theorem curT_row {p : V3} {xs ys : List Nat} {a i j : Nat} (hj : j ≤ ys.length + 1) : curT p xs ys a (ys.length + 1) i j = curT p xs ys (a + 1) 0 i j := by
  unfold curT
  by_cases h : xs.length < i + (a + 1) ∨ (i = xs.length ∧ j = ys.length) ∨ (xs.length = i + (a + 1) ∧ ys.length < j + 0)
  · rw [if_pos h]
    by_cases h2 : xs.length < i + a ∨ (i = xs.length ∧ j = ys.length) ∨ (xs.length = i + a ∧ ys.length < j + (ys.length + 1))
    · rw [if_pos h2]
    · rw [if_neg h2]
      unfold RTv
      rw [if_neg (by omega)]
  · rw [if_neg h, if_neg (by omega)]
theorem curT_put {p : V3} {xs ys : List Nat} {a b i j i' j' : Nat} (hi : xs.length = i + a) (hj : ys.length = j + b) : updT (curT p xs ys a b) i j (RTv p xs ys i j) i' j' = curT p xs ys a (b + 1) i' j' := by
  unfold updT curT
  by_cases h : i' = i ∧ j' = j
  · obtain ⟨rfl, rfl⟩ := h
    rw [if_pos ⟨rfl, rfl⟩, if_pos (by omega)]
  · rw [if_neg h]
    by_cases h2 : xs.length < i' + a ∨ (i' = xs.length ∧ j' = ys.length) ∨ (xs.length = i' + a ∧ ys.length < j' + b)
    · rw [if_pos h2, if_pos (by omega)]
    · rw [if_neg h2, if_neg (by omega)]
theorem curT_skip {p : V3} {xs ys : List Nat} {a b i j i' j' : Nat} (hi : xs.length = i + a) (hj : ys.length = j + b) (hn : ¬ (i < xs.length ∨ j < ys.length)) : curT p xs ys a b i' j' = curT p xs ys a (b + 1) i' j' := by
  unfold curT
  by_cases h2 : xs.length < i' + a ∨ (i' = xs.length ∧ j' = ys.length) ∨ (xs.length = i' + a ∧ ys.length < j' + b)
  · rw [if_pos h2, if_pos (by omega)]
  · rw [if_neg h2, if_neg (by omega)]
theorem curT_0 {p : V3} {xs ys : List Nat} {i j : Nat} (hi : i ≤ xs.length + 1) (hj : j ≤ ys.length + 1) : updT (fun _ _ => far3 xs.length ys.length p) xs.length ys.length (0, 0, 0) i j = curT p xs ys 0 0 i j := by
  unfold updT curT
  by_cases h : i = xs.length ∧ j = ys.length
  · obtain ⟨rfl, rfl⟩ := h
    rw [if_pos ⟨rfl, rfl⟩, if_pos (by omega)]
    unfold RTv LL
    rw [if_pos ⟨Nat.le_refl _, Nat.le_refl _⟩, List.drop_length, List.drop_length, Lc_nn, Lc_nn, Lc_nn]
  · rw [if_neg h]
    by_cases h2 : xs.length < i + 0 ∨ (i = xs.length ∧ j = ys.length) ∨ (xs.length = i + 0 ∧ ys.length < j + 0)
    · rw [if_pos h2]
      unfold RTv
      rw [if_neg (by omega)]
    · rw [if_neg h2]
theorem curT_get {p : V3} {xs ys : List Nat} {a b i j i' j' : Nat} (hi : xs.length = i + a) (hj : ys.length = j + b) (h : i < i' ∨ (i' = i ∧ j < j')) : curT p xs ys a b i' j' = RTv p xs ys i' j' := if_pos (by omega)
theorem oIx_vd {v : V3} : oIx (.dat (vd v)) (.dat (.int 0)) = some (.dat (.int v.1)) ∧ oIx (.dat (vd v)) (.dat (.int 1)) = some (.dat (.int v.2.1)) ∧ oIx (.dat (vd v)) (.dat (.int 2)) = some (.dat (.int v.2.2)) := ⟨rfl, rfl, rfl⟩
theorem S_rests {b : Nat} {p : V3} {xs ys : List Nat} {s : LS} {Q : Rv → LS → Prop} (hp : Pos p.1 p.2.1 p.2.2) (hl : Lt3 b p) (hb : b ≤ 1000) (hx : xs.length ≤ 30) (hy : ys.length ≤ 30)
    (q : Q (.own ((tab xs.length ys.length (RTv p xs ys)).map .lst)) s) : Sat (rests_ofF [.str xs, .str ys, vd p] s) Q := by
  obtain ⟨o, ss, t⟩ := p
  unfold rests_ofF
  rw [S_def (k := 3) (ds := [.str xs, .str ys, vd (o, ss, t)]) rfl]
  show Sat (rests_ofM [.dat (.str xs), .dat (.str ys), .dat (vd (o, ss, t)), .un, .un, .un, .un, .un, .un, .un, .un, .un] s) _
  unfold rests_ofM
  have hb2 : ∀ x : Int, x.natAbs < 2 ^ b → x.natAbs < 2 ^ 1000 := fun x h => ltUp h hb
  have lo := hb2 _ hl.x
  have ls := hb2 _ hl.y
  have lt := hb2 _ hl.z
  dsimp only at lo ls lt
  rw [S_seq, S_tgt, S_var]
  dsimp only [gt]
  rw [kVar_dat, kTgt_ (d := vd (o, ss, t)) (tgT3), kS_nx]
  simp only [S_var, S_C, S_op1, k1_, S_op2, k2_, k2b_, S_nil, S_cons, kc_, kcb_, S_opN, kN_, S_tup, S_lst, kT_u, kL_u, stoL_nil, stoL_dat, stoL_own, consO_some, SatO_some, S_call, kCall_u, S_if, S_ifS, kI_true, kI_false, S_andV, S_orV, kAndV_true, kAndV_false, kOrV_true, kOrV_false, S_test, kTest_, S_tru, kTru_, S_and, S_or, S_not, kAnd_true, kAnd_false, kOr_true, kOr_false, kNot_, S_seq, kS_nx, kS_rt, kS_bk, kS_ct, S_pass, S_set, kSet_dat, kSet_own, S_par, kP_, kPb_, S_ret', kR_, S_retN, S_break, S_cont, S_for, kF_, S_forNil, kFb_nx, kFb_ct, kFb_bk, kFb_rt, S_items, kItems_tup, kItems_lst, kItems_own, S_lc, kLc_, S_lcNil, S_yes, kD_rt, kD_nx, Rv.ret, gt, st, kVar_dat, kVar_own, o_add, o_sub, o_eq, o_ne, o_lt, o_le, o_gt, o_ge, o_eqB, o_neB, o_is2, o_isnot2, o_abs, o_ix, o_ixO, o_ixB, o_ixL, o_tupO, o_isBool, map_some', wp, tgN_, List.length_cons, List.length_nil, Nat.reduceAdd, Nat.reduceLeDiff, true_and, decide_true, decide_false, Bool.not_true, Bool.not_false, o_mul_u, o_div_u, o_mod_u, o_pow_u, o_eqS, o_neS, o_intB, o_lenS, o_lenO, o_lenB, o_iaddI, S_s1, kS1_, kS1b_, S_lm, kLm_bor, kLm_own, kLmb_, S_tab, o_ixT, o_ixS, S_put, kPut_, kPutK_, S_zip2, kZip_, kZipb_tup, o_sum, o_sumB, o_tupB, o_tupL, o_lenT, S_range1, kRng_3, S_tgtL, kTgtL_, List.nil_append, List.cons_append, Nat.reduceLT, SZ, forall_const, true_implies]
  refine ⟨mulOk (a := 10) (b := 1010) (by omega) (by omega) (by decide) (by decide) (by decide), ?_⟩
  have hfar : ((xs.length : Int) + ys.length + 1) * (o + ss + t) = farN xs.length ys.length (o, ss, t) := rfl
  rw [hfar]
  generalize hF : farN xs.length ys.length (o, ss, t) = far
  have hnew : ∀ g : LS, mNew (mRange1 (mOp2 oAdd (mOpN oLen (mCons (mVar 0) mNil)) (mC (.int 2)))) (tgN 11) (mOp2 oRep (mLst (mCons (mTup (mCons (mVar 6) (mCons (mVar 6) (mCons (mVar 6) mNil)))) mNil)) (mOp2 oAdd (mOpN oLen (mCons (mVar 1) mNil)) (mC (.int 2)))) [11] [.dat (.str xs), .dat (.str ys), .dat (vd (o, ss, t)), .dat (.int o), .dat (.int ss), .dat (.int t), .dat (.int far), .un, .un, .un, .un, .un] g = .ok (tab xs.length ys.length (fun _ _ => far3 xs.length ys.length (o, ss, t))) g := by
    intro g
    unfold mNew
    have h1 : mRange1 (mOp2 oAdd (mOpN oLen (mCons (mVar 0) mNil)) (mC (.int 2))) [.dat (.str xs), .dat (.str ys), .dat (vd (o, ss, t)), .dat (.int o), .dat (.int ss), .dat (.int t), .dat (.int far), .un, .un, .un, .un, .un] g = .ok (rng 0 (xs.length + 2)) g := by
      show (if RngOk ((xs.length : Int) + 2) then Rs.ok (rng 0 ((xs.length : Int) + 2).toNat) g else .no) = _
      have hr : RngOk ((xs.length : Int) + 2) := rng_ok (n := xs.length + 2) (by omega)
      rw [if_pos hr]
      rfl
    rw [h1, Rs.bind_ok]
    have hv : vd (far3 xs.length ys.length (o, ss, t)) = .tup [.int far, .int far, .int far] := by
      unfold far3
      rw [hF]
      rfl
    have hc := nlL_const (g := g) (tg := tgN 11) (a := (mOp2 oRep (mLst (mCons (mTup (mCons (mVar 6) (mCons (mVar 6) (mCons (mVar 6) mNil)))) mNil)) (mOp2 oAdd (mOpN oLen (mCons (mVar 1) mNil)) (mC (.int 2))))) (e := [.dat (.str xs), .dat (.str ys), .dat (vd (o, ss, t)), .dat (.int o), .dat (.int ss), .dat (.int t), .dat (.int far), .un, .un, .un, .un, .un]) (r := List.replicate (ys.length + 2) (vd (far3 xs.length ys.length (o, ss, t)))) (fun d => ⟨_, rfl, ?_⟩) ?_ (rng 0 (xs.length + 2)) [] (by rw [rng_lenD]; show 0 + _ ≤ 16777216; omega)
    · show nlL _ _ [.dat (.str xs), .dat (.str ys), .dat (vd (o, ss, t)), .dat (.int o), .dat (.int ss), .dat (.int t), .dat (.int far), .un, .un, .un, .un, .un] _ _ _ = _
      rw [hc, rng_lenD]
      congr 1
      show List.replicate _ _ = (List.range (xs.length + 2)).map fun _ => (List.range (ys.length + 2)).map fun _ => vd _
      rw [List.map_const', List.map_const', List.length_range, List.length_range]
    · show ofO (oRep (.own [.tup [.int far, .int far, .int far]]) (.dat (.int ((ys.length : Int) + 2)))) g = _
      have hr : RngOk ((ys.length : Int) + 2) := rng_ok (n := ys.length + 2) (by omega)
      have h1 : oRep (.own [.tup [.int far, .int far, .int far]]) (.dat (.int ((ys.length : Int) + 2))) = some (.own (List.replicate ((ys.length : Int) + 2).toNat [.tup [.int far, .int far, .int far]]).flatten) := if_pos ⟨by show 1 * _ ≤ 16777216; omega, hr⟩
      rw [h1, hv, show ((ys.length : Int) + 2).toNat = ys.length + 2 by omega]
      show Rs.ok (Rv.own _) g = _
      congr 2
      generalize ys.length + 2 = n
      generalize D.tup [.int far, .int far, .int far] = d
      induction n with
      | zero => rfl
      | succ n ih => rw [List.replicate_succ, List.flatten_cons, ih, List.replicate_succ]; rfl
    · rw [List.all_replicate, hv]
      rfl
  refine S_nest rfl (hnew s) ?_
  dsimp only [st]
  unfold rests_ofMB
  rw [S_seq]
  refine nlPutT (n := xs.length) (m := ys.length) (i := xs.length) (j := ys.length) (z := 0) (f := fun _ _ => far3 xs.length ys.length (o, ss, t)) rfl (by omega) (by omega) ?_
  refine Sat_eq (a := .dat (vd (0, 0, 0))) rfl ⟨(0, 0, 0), rfl, rfl, rfl, rfl, ?_⟩
  rw [kS_nx]
  rw [tab_congr (f' := curT (o, ss, t) xs ys 0 0) (fun i j h1 h2 => curT_0 h1 h2)]
  rw [S_seq, S_for, S_rangeA]
  simp only [S_var, S_C, S_op1, k1_, S_op2, k2_, k2b_, S_nil, S_cons, kc_, kcb_, S_opN, kN_, S_tup, S_lst, kT_u, kL_u, stoL_nil, stoL_dat, stoL_own, consO_some, SatO_some, S_call, kCall_u, S_if, S_ifS, kI_true, kI_false, S_andV, S_orV, kAndV_true, kAndV_false, kOrV_true, kOrV_false, S_test, kTest_, S_tru, kTru_, S_and, S_or, S_not, kAnd_true, kAnd_false, kOr_true, kOr_false, kNot_, S_seq, kS_nx, kS_rt, kS_bk, kS_ct, S_pass, S_set, kSet_dat, kSet_own, S_par, kP_, kPb_, S_ret', kR_, S_retN, S_break, S_cont, S_for, kF_, S_forNil, kFb_nx, kFb_ct, kFb_bk, kFb_rt, S_items, kItems_tup, kItems_lst, kItems_own, S_lc, kLc_, S_lcNil, S_yes, kD_rt, kD_nx, Rv.ret, gt, st, kVar_dat, kVar_own, o_add, o_sub, o_eq, o_ne, o_lt, o_le, o_gt, o_ge, o_eqB, o_neB, o_is2, o_isnot2, o_abs, o_ix, o_ixO, o_ixB, o_ixL, o_tupO, o_isBool, map_some', wp, tgN_, List.length_cons, List.length_nil, Nat.reduceAdd, Nat.reduceLeDiff, true_and, decide_true, decide_false, Bool.not_true, Bool.not_false, o_mul_u, o_div_u, o_mod_u, o_pow_u, o_eqS, o_neS, o_intB, o_lenS, o_lenO, o_lenB, o_iaddI, S_s1, kS1_, kS1b_, S_lm, kLm_bor, kLm_own, kLmb_, S_tab, o_ixT, o_ixS, S_put, kPut_, kPutK_, S_zip2, kZip_, kZipb_tup, o_sum, o_sumB, o_tupB, o_tupL, o_lenT, S_range1, kRng_3, S_tgtL, kTgtL_, List.nil_append, List.cons_append, Nat.reduceLT, SZ, forall_const, true_implies, o_neg1]
  refine kRA_down (by omega) ?_
  rw [kF_]
  refine S_forA (List.range (xs.length + 1)) (fun k => D.int ((xs.length : Int) - (k : Nat))) (fun pre post e g => ∃ x8 x9 x10, e = [.dat (.str xs), .dat (.str ys), .dat (vd (o, ss, t)), .dat (.int o), .dat (.int ss), .dat (.int t), .dat (.int far), .gh 0, x8, x9, x10, .un] ∧ g = (s, tab xs.length ys.length (curT (o, ss, t) xs ys pre.length 0))) ⟨_, _, _, rfl, rfl⟩ ?_ ?_
  · rintro pre k post e g hr ⟨x8, x9, x10, rfl, rfl⟩
    refine ⟨_, rfl, ?_⟩
    obtain ⟨hk, hk2⟩ := range_pre hr
    obtain ⟨i, hi⟩ : ∃ i : Nat, xs.length = i + pre.length := ⟨xs.length - k, by omega⟩
    have ei : (xs.length : Int) - (k : Nat) = (i : Nat) := by omega
    rw [ei]
    simp only [st]
    rw [S_for, S_rangeA]
    simp only [S_var, S_C, S_op1, k1_, S_op2, k2_, k2b_, S_nil, S_cons, kc_, kcb_, S_opN, kN_, S_tup, S_lst, kT_u, kL_u, stoL_nil, stoL_dat, stoL_own, consO_some, SatO_some, S_call, kCall_u, S_if, S_ifS, kI_true, kI_false, S_andV, S_orV, kAndV_true, kAndV_false, kOrV_true, kOrV_false, S_test, kTest_, S_tru, kTru_, S_and, S_or, S_not, kAnd_true, kAnd_false, kOr_true, kOr_false, kNot_, S_seq, kS_nx, kS_rt, kS_bk, kS_ct, S_pass, S_set, kSet_dat, kSet_own, S_par, kP_, kPb_, S_ret', kR_, S_retN, S_break, S_cont, S_for, kF_, S_forNil, kFb_nx, kFb_ct, kFb_bk, kFb_rt, S_items, kItems_tup, kItems_lst, kItems_own, S_lc, kLc_, S_lcNil, S_yes, kD_rt, kD_nx, Rv.ret, gt, st, kVar_dat, kVar_own, o_add, o_sub, o_eq, o_ne, o_lt, o_le, o_gt, o_ge, o_eqB, o_neB, o_is2, o_isnot2, o_abs, o_ix, o_ixO, o_ixB, o_ixL, o_tupO, o_isBool, map_some', wp, tgN_, List.length_cons, List.length_nil, Nat.reduceAdd, Nat.reduceLeDiff, true_and, decide_true, decide_false, Bool.not_true, Bool.not_false, o_mul_u, o_div_u, o_mod_u, o_pow_u, o_eqS, o_neS, o_intB, o_lenS, o_lenO, o_lenB, o_iaddI, S_s1, kS1_, kS1b_, S_lm, kLm_bor, kLm_own, kLmb_, S_tab, o_ixT, o_ixS, S_put, kPut_, kPutK_, S_zip2, kZip_, kZipb_tup, o_sum, o_sumB, o_tupB, o_tupL, o_lenT, S_range1, kRng_3, S_tgtL, kTgtL_, List.nil_append, List.cons_append, Nat.reduceLT, SZ, forall_const, true_implies, o_neg1]
    refine kRA_down (by omega) ?_
    rw [kF_]
    refine S_forA (List.range (ys.length + 1)) (fun k => D.int ((ys.length : Int) - (k : Nat))) (fun pr post e g => ∃ x9 x10, e = [.dat (.str xs), .dat (.str ys), .dat (vd (o, ss, t)), .dat (.int o), .dat (.int ss), .dat (.int t), .dat (.int far), .gh 0, .dat (.int (i : Nat)), x9, x10, .un] ∧ g = (s, tab xs.length ys.length (curT (o, ss, t) xs ys pre.length pr.length))) ⟨_, _, rfl, rfl⟩ ?_ ?_
    · rintro pr k2 post2 e g hr2 ⟨x9, x10, rfl, rfl⟩
      refine ⟨_, rfl, ?_⟩
      obtain ⟨hk3, hk4⟩ := range_pre hr2
      obtain ⟨j, hj⟩ : ∃ j : Nat, ys.length = j + pr.length := ⟨ys.length - k2, by omega⟩
      have ej : (ys.length : Int) - (k2 : Nat) = (j : Nat) := by omega
      rw [ej]
      have hlen : (pr ++ [k2]).length = pr.length + 1 := by simp
      -- the rest, with what is kept
      have rest : ∀ kp : Int, kp = (if hc : i < xs.length ∧ j < ys.length then (RTv (o, ss, t) xs ys (i + 1) (j + 1)).1 + ne1 o (xs[i]'hc.1) (ys[j]'hc.2) else far) → (i < xs.length ∨ j < ys.length) → Sat ((mSeq (mFrz 10) (mNlPut 7 (mVar 8) (mVar 9) (mCall (liftF triple_ofF) (mCons (mVar 10) (mCons (mOp2 oAdd (mOp2 oIx (mNlGet 7 (mOp2 oAdd (mVar 8) (mC (.int 1))) (mVar 9)) (mC (.int 1))) (mVar 4)) (mCons (mOp2 oAdd (mOp2 oIx (mNlGet 7 (mVar 8) (mOp2 oAdd (mVar 9) (mC (.int 1)))) (mC (.int 2))) (mVar 4)) (mCons (mVar 5) mNil))))))) [.dat (.str xs), .dat (.str ys), .dat (vd (o, ss, t)), .dat (.int o), .dat (.int ss), .dat (.int t), .dat (.int far), .gh 0, .dat (.int (i : Nat)), .dat (.int (j : Nat)), .dat (.int kp), .un] (s, tab xs.length ys.length (curT (o, ss, t) xs ys pre.length pr.length))) (fun f g2 => match f with
        | .nx e2 => ∃ x9' x10', e2 = [.dat (.str xs), .dat (.str ys), .dat (vd (o, ss, t)), .dat (.int o), .dat (.int ss), .dat (.int t), .dat (.int far), .gh 0, .dat (.int (i : Nat)), x9', x10', .un] ∧ g2 = (s, tab xs.length ys.length (curT (o, ss, t) xs ys pre.length (pr ++ [k2]).length))
        | .ct e2 => ∃ x9' x10', e2 = [.dat (.str xs), .dat (.str ys), .dat (vd (o, ss, t)), .dat (.int o), .dat (.int ss), .dat (.int t), .dat (.int far), .gh 0, .dat (.int (i : Nat)), x9', x10', .un] ∧ g2 = (s, tab xs.length ys.length (curT (o, ss, t) xs ys pre.length (pr ++ [k2]).length))
        | .bk e2 => False
        | .rt r => False) := by
        intro kp hkp hn
        have hst := RTv_step (p := (o, ss, t)) (xs := xs) (ys := ys) hp (show i ≤ xs.length by omega) (show j ≤ ys.length by omega) hn
        rw [hF, ← hkp] at hst
        rw [S_seq, S_frz_dat rfl, kS_nx]
        refine nlPutT (n := xs.length) (m := ys.length) (i := i) (j := j) (z := 0) (f := curT (o, ss, t) xs ys pre.length pr.length) rfl (by omega) (by omega) ?_
        simp only [S_call, S_cons, S_nil, S_var, gt, kVar_dat, kc_, kcb_, S_op2]
        rw [nlGetT (n := xs.length) (m := ys.length) (i := i + 1) (j := j) (z := 0) (f := curT (o, ss, t) xs ys pre.length pr.length) rfl rfl rfl rfl (by omega) (by omega), Sat_ok]
        simp only [S_call, S_cons, S_nil, S_var, gt, kVar_dat, kc_, kcb_, S_op2, k2_, S_C, k2b_, oIx_vd, SatO_some, o_add]
        rw [nlGetT (n := xs.length) (m := ys.length) (i := i) (j := j + 1) (z := 0) (f := curT (o, ss, t) xs ys pre.length pr.length) rfl rfl rfl rfl (by omega) (by omega), Sat_ok]
        simp only [S_call, S_cons, S_nil, S_var, gt, kVar_dat, kc_, kcb_, S_op2, k2_, S_C, k2b_, oIx_vd, SatO_some, o_add, kCall_u, stoL_dat, stoL_nil, consO_some, S_lift]
        rw [curT_get hi hj (.inl (by omega)), curT_get hi hj (.inr ⟨rfl, by omega⟩)]
        refine S_triple ?_
        refine ⟨_, rfl, trivial, rfl, rfl, ⟨_, _, rfl, ?_⟩⟩
        rw [hst, hlen]
        exact congrArg (Prod.mk s) (tab_congr fun i' j' _ _ => curT_put hi hj)
      simp only [st, S_ifS, S_or, S_test, S_op2, S_var, gt, kVar_dat, k2_, S_opN, S_cons, kc_, S_nil, kcb_, kN_, o_lenS, SatO_some, k2b_, o_lt, kTest_]
      by_cases c1 : i < xs.length
      · rw [decide_eq_true (show ((i : Nat) : Int) < xs.length by omega), kOr_true, kI_true, S_seq, S_set, S_var]
        simp only [gt, kVar_dat, kSet_dat, kS_nx, st]
        simp only [S_seq (s1 := mIfS _ _ _), S_ifS, S_and, S_test, S_op2, S_var, gt, kVar_dat, k2_, S_opN, S_cons, kc_, S_nil, kcb_, kN_, o_lenS, SatO_some, k2b_, o_lt, kTest_]
        rw [decide_eq_true (show ((i : Nat) : Int) < xs.length by omega), kAnd_true]
        simp only [S_test, S_op2, S_var, gt, kVar_dat, k2_, S_opN, S_cons, kc_, S_nil, kcb_, kN_, o_lenS, SatO_some, k2b_, o_lt, kTest_]
        by_cases c2 : j < ys.length
        · rw [decide_eq_true (show ((j : Nat) : Int) < ys.length by omega), kI_true, S_set, S_op2, S_op2]
          rw [nlGetT (n := xs.length) (m := ys.length) (i := i + 1) (j := j + 1) (z := 0) (f := curT (o, ss, t) xs ys pre.length pr.length) rfl rfl rfl rfl (by omega) (by omega), Sat_ok]
          rw [curT_get hi hj (.inl (by omega))]
          have ne1E : o * (if (!([xs[i]] == [ys[j]])) = true then 1 else 0) = ne1 o xs[i] ys[j] := by
            unfold ne1
            by_cases hq : xs[i] = ys[j]
            · rw [if_pos hq, hq]
              simp
            · rw [if_neg hq]
              simp [hq]
          simp only [S_test, S_op2, S_var, gt, kVar_dat, k2_, S_opN, S_cons, kc_, S_nil, kcb_, kN_, o_lenS, SatO_some, k2b_, o_lt, kTest_, S_C, oIx_vd, o_ixS, atIat c1, atIat c2, map_some', o_neS, o_intB, o_mul_u, o_add]
          rw [ne1E]
          refine ⟨mulOk (a := 1000) (b := 2) (by omega) (by split <;> decide) (by decide) (by decide) (by decide), ?_⟩
          rw [kSet_dat]
          simp only [st, kS_nx]
          refine (rest _ ?_ (.inl c1)).mono fun f g2 q => (by cases f with
            | nx e => exact q
            | ct e => exact q
            | bk e => exact q.elim
            | rt e => exact q.elim)
          rw [dif_pos ⟨c1, c2⟩]
        · rw [decide_eq_false (show ¬ ((j : Nat) : Int) < ys.length by omega), kI_false, S_pass, kS_nx]
          refine (rest _ ?_ (.inl c1)).mono fun f g2 q => (by cases f with
            | nx e => exact q
            | ct e => exact q
            | bk e => exact q.elim
            | rt e => exact q.elim)
          rw [dif_neg (fun z => c2 z.2)]
      · rw [decide_eq_false (show ¬ ((i : Nat) : Int) < xs.length by omega), kOr_false]
        simp only [S_test, S_op2, S_var, gt, kVar_dat, k2_, S_opN, S_cons, kc_, S_nil, kcb_, kN_, o_lenS, SatO_some, k2b_, o_lt, kTest_]
        by_cases c2 : j < ys.length
        · rw [decide_eq_true (show ((j : Nat) : Int) < ys.length by omega), kI_true, S_seq, S_set, S_var]
          simp only [gt, kVar_dat, kSet_dat, kS_nx, st]
          simp only [S_seq (s1 := mIfS _ _ _), S_ifS, S_and, S_test, S_op2, S_var, gt, kVar_dat, k2_, S_opN, S_cons, kc_, S_nil, kcb_, kN_, o_lenS, SatO_some, k2b_, o_lt, kTest_]
          rw [decide_eq_false (show ¬ ((i : Nat) : Int) < xs.length by omega), kAnd_false, kI_false, S_pass, kS_nx]
          refine (rest _ ?_ (.inr c2)).mono fun f g2 q => (by cases f with
            | nx e => exact q
            | ct e => exact q
            | bk e => exact q.elim
            | rt e => exact q.elim)
          rw [dif_neg (fun z => c1 z.1)]
        · rw [decide_eq_false (show ¬ ((j : Nat) : Int) < ys.length by omega), kI_false, S_pass]
          refine ⟨_, _, rfl, ?_⟩
          rw [hlen]
          exact congrArg (Prod.mk s) (tab_congr fun i' j' _ _ => curT_skip hi hj (by omega))
    · rintro e g ⟨x9, x10, rfl, rfl⟩
      rw [List.length_range]
      refine ⟨_, _, _, rfl, ?_⟩
      rw [List.length_append]
      exact congrArg (Prod.mk s) (tab_congr fun i' j' _ h => curT_row h)
  · rintro e g ⟨x8, x9, x10, rfl, rfl⟩
    rw [List.length_range, kS_nx, S_pass]
    refine ⟨0, rfl, ?_⟩
    have : tab xs.length ys.length (curT (o, ss, t) xs ys (xs.length + 1) 0) = tab xs.length ys.length (RTv (o, ss, t) xs ys) := tab_congr fun i j _ _ => if_pos (by omega)
    dsimp only [Rv.ret]
    rw [this]
    exact q
end PB
set_option Elab.async false
set_option linter.all false
set_option maxRecDepth 10000
set_option maxHeartbeats 4000000
namespace PB
section
variable {o s t : Int}
theorem kp_le {k x y : Nat} {xs ys : List Nat} : Lc o s t k (x :: xs) (y :: ys) ≤ ne1 o x y + Lc o s t 0 xs ys := by
  rw [Lc_cc]
  omega
theorem out_le {k x : Nat} {xs ys : List Nat} : Lc o s t k (x :: xs) ys ≤ s + sw t (k == 1) + Lc o s t 1 xs ys := by
  cases ys with
  | nil => rw [Lc_cn]; omega
  | cons y ys => rw [Lc_cc]; omega
theorem ins_le {k y : Nat} {xs ys : List Nat} : Lc o s t k xs (y :: ys) ≤ s + sw t (k == 2) + Lc o s t 2 xs ys := by
  cases xs with
  | nil => rw [Lc_nc]; omega
  | cons x xs => rw [Lc_cc]; omega
theorem ne1_self {x : Nat} : ne1 o x x = 0 := if_pos rfl
end
end PB
set_option Elab.async false
set_option linter.all false
set_option maxRecDepth 10000
set_option maxHeartbeats 4000000
set_option exponentiation.threshold 2000
namespace PB
def keepOr (x y : Nat) : Mv := if x = y then .keep x else .oth x y
/-- by the last move, the letters to come: the first of the moves by which least cost goes on -/
def fs (o s t : Int) : Nat → List Nat → List Nat → List Mv
  | _, [], [] => []
  | _, x :: xs, [] => .out x :: fs o s t 1 xs []
  | _, [], y :: ys => .inn y :: fs o s t 2 [] ys
  | k, x :: xs, y :: ys =>
    if s + sw t (k == 1) + Lc o s t 1 xs (y :: ys) < ne1 o x y + Lc o s t 0 xs ys then
      (if s + sw t (k == 2) + Lc o s t 2 (x :: xs) ys < s + sw t (k == 1) + Lc o s t 1 xs (y :: ys) then .inn y :: fs o s t 2 (x :: xs) ys else .out x :: fs o s t 1 xs (y :: ys))
    else (if s + sw t (k == 2) + Lc o s t 2 (x :: xs) ys < ne1 o x y + Lc o s t 0 xs ys then .inn y :: fs o s t 2 (x :: xs) ys else keepOr x y :: fs o s t 0 xs ys)
termination_by _ xs ys => xs.length + ys.length
/-- others, letters, stretches, behind a last move -/
def cnt3 : Nat → List Mv → V3
  | _, [] => (0, 0, 0)
  | _, .keep _ :: r => cnt3 0 r
  | _, .oth _ _ :: r => ((cnt3 0 r).1 + 1, (cnt3 0 r).2.1, (cnt3 0 r).2.2)
  | k, .out _ :: r => ((cnt3 1 r).1, (cnt3 1 r).2.1 + 1, (cnt3 1 r).2.2 + (if k = 1 then 0 else 1))
  | k, .inn _ :: r => ((cnt3 2 r).1, (cnt3 2 r).2.1 + 1, (cnt3 2 r).2.2 + (if k = 2 then 0 else 1))
section
variable {o s t : Int}
theorem keepOr_taken {x y : Nat} : (keepOr x y).taken = [x] := by
  unfold keepOr
  split <;> rfl
theorem keepOr_made {x y : Nat} : (keepOr x y).made = [y] := by
  unfold keepOr
  split
  · rename_i h
    rw [h]
    rfl
  · rfl
def cst (o s t : Int) (k : Nat) (ls : List Mv) : Int := dot (o, s, t) (cnt3 k ls)
theorem cst_nil {k : Nat} : cst o s t k [] = 0 := by
  unfold cst dot cnt3
  simp
theorem cst_keep {k c : Nat} {r : List Mv} : cst o s t k (.keep c :: r) = cst o s t 0 r := rfl
theorem cst_oth {k c e : Nat} {r : List Mv} : cst o s t k (.oth c e :: r) = o + cst o s t 0 r := by
  unfold cst dot
  rw [cnt3]
  dsimp only
  rw [Int.mul_add]
  omega
theorem cst_out {k c : Nat} {r : List Mv} : cst o s t k (.out c :: r) = s + sw t (k == 1) + cst o s t 1 r := by
  unfold cst dot
  rw [cnt3]
  dsimp only
  rw [Int.mul_add, Int.mul_add]
  unfold sw
  by_cases h : k = 1
  · subst h
    simp
    omega
  · rw [if_neg h, if_neg (by simpa using h)]
    omega
theorem cst_inn {k c : Nat} {r : List Mv} : cst o s t k (.inn c :: r) = s + sw t (k == 2) + cst o s t 2 r := by
  unfold cst dot
  rw [cnt3]
  dsimp only
  rw [Int.mul_add, Int.mul_add]
  unfold sw
  by_cases h : k = 2
  · subst h
    simp
    omega
  · rw [if_neg h, if_neg (by simpa using h)]
    omega
theorem cst_ko {k x y : Nat} {r : List Mv} : cst o s t k (keepOr x y :: r) = ne1 o x y + cst o s t 0 r := by
  unfold keepOr ne1
  by_cases h : x = y
  · rw [if_pos h, if_pos h, cst_keep]
    omega
  · rw [if_neg h, if_neg h, cst_oth]
/-- no script costs less -/
theorem Lc_min (h : Pos o s t) : ∀ (ls : List Mv) (k : Nat), Lc o s t k (ls.flatMap Mv.taken) (ls.flatMap Mv.made) ≤ cst o s t k ls
  | [], k => by
    rw [cst_nil]
    exact Int.le_of_eq Lc_nn
  | .keep c :: r, k => by
    have := Lc_min h r 0
    have h2 := kp_le (o := o) (s := s) (t := t) (k := k) (x := c) (y := c) (xs := r.flatMap Mv.taken) (ys := r.flatMap Mv.made)
    rw [ne1_self] at h2
    rw [cst_keep]
    show Lc o s t k (c :: r.flatMap Mv.taken) (c :: r.flatMap Mv.made) ≤ _
    omega
  | .oth c e :: r, k => by
    have := Lc_min h r 0
    have h2 := kp_le (o := o) (s := s) (t := t) (k := k) (x := c) (y := e) (xs := r.flatMap Mv.taken) (ys := r.flatMap Mv.made)
    have h3 := ne1_le (x := c) (y := e) h.o0
    rw [cst_oth]
    show Lc o s t k (c :: r.flatMap Mv.taken) (e :: r.flatMap Mv.made) ≤ _
    omega
  | .out c :: r, k => by
    have := Lc_min h r 1
    have h2 := out_le (o := o) (s := s) (t := t) (k := k) (x := c) (xs := r.flatMap Mv.taken) (ys := r.flatMap Mv.made)
    rw [cst_out]
    show Lc o s t k (c :: r.flatMap Mv.taken) (r.flatMap Mv.made) ≤ _
    omega
  | .inn c :: r, k => by
    have := Lc_min h r 2
    have h2 := ins_le (o := o) (s := s) (t := t) (k := k) (y := c) (xs := r.flatMap Mv.taken) (ys := r.flatMap Mv.made)
    rw [cst_inn]
    show Lc o s t k (r.flatMap Mv.taken) (c :: r.flatMap Mv.made) ≤ _
    omega
end
end PB
set_option Elab.async false
set_option linter.all false
set_option maxRecDepth 10000
set_option maxHeartbeats 4000000
set_option exponentiation.threshold 2000
namespace PB
def pl (i j k : Nat) : D := .tup [.int (i : Nat), .int (j : Nat), .int (k : Nat)]
/-- what each move from a place costs in all -/
def w0 (p : V3) (xs ys : List Nat) (i j : Nat) (h : i < xs.length ∧ j < ys.length) : Int := ne1 p.1 (xs[i]'h.1) (ys[j]'h.2) + (RTv p xs ys (i + 1) (j + 1)).1
def w1 (p : V3) (xs ys : List Nat) (i j k : Nat) : Int := p.2.1 + sw p.2.2 (k == 1) + (RTv p xs ys (i + 1) j).2.1
def w2 (p : V3) (xs ys : List Nat) (i j k : Nat) : Int := p.2.1 + sw p.2.2 (k == 2) + (RTv p xs ys i (j + 1)).2.2
theorem tgTpl {a b c i j k : Nat} {e : Env} : tgT [a, b, c] (pl i j k) e = some (st (st (st e a (.dat (.int (i : Nat)))) b (.dat (.int (j : Nat)))) c (.dat (.int (k : Nat)))) := rfl
/-- the step by a move -/
def stepAt (xs ys : List Nat) (i j : Nat) (m : Nat) : Mv := if m = 1 then .out (xs[i]?.getD 0) else if m = 2 then .inn (ys[j]?.getD 0) else keepOr (xs[i]?.getD 0) (ys[j]?.getD 0)
end PB
set_option Elab.async false
set_option linter.all false
set_option maxRecDepth 10000
set_option maxHeartbeats 4000000
set_option exponentiation.threshold 2000
namespace PB
end PB
set_option Elab.async false
set_option linter.all false
set_option maxRecDepth 10000
set_option maxHeartbeats 4000000
set_option exponentiation.threshold 2000
namespace PB
end PB
set_option Elab.async false
set_option linter.all false
set_option maxRecDepth 10000
set_option maxHeartbeats 4000000
set_option exponentiation.threshold 2000
namespace PB
theorem eqv_pl {i j k a b c : Nat} : eqv (pl i j k) (pl a b c) = decide (i = a ∧ j = b ∧ k = c) := by
  have := eqv_vd ((i : Int), (j : Int), (k : Int)) ((a : Int), (b : Int), (c : Int))
  show eqv (vd ((i : Int), (j : Int), (k : Int))) (vd ((a : Int), (b : Int), (c : Int))) = _
  rw [this]
  refine decide_eq_decide.mpr ?_
  simp only [Prod.mk.injEq]
  omega
abbrev TabF := Nat → Nat → Nat → Option Int
def StepP (p : V3) (xs ys : List Nat) (i j k i' j' k' : Nat) (c : Int) : Prop :=
  (k' = 0 ∧ i' = i + 1 ∧ j' = j + 1 ∧ ∃ h : i < xs.length ∧ j < ys.length, c = ne1 p.1 (xs[i]'h.1) (ys[j]'h.2)) ∨ (k' = 1 ∧ i' = i + 1 ∧ j' = j ∧ i < xs.length ∧ c = p.2.1 + sw p.2.2 (k == 1)) ∨ (k' = 2 ∧ i' = i ∧ j' = j + 1 ∧ j < ys.length ∧ c = p.2.1 + sw p.2.2 (k == 2))
structure Tabl (p : V3) (xs ys : List Nat) (dn : Nat → Nat → Nat → Nat → Prop) (T : TabF) : Prop where
  o : T 0 0 0 = some 0
  snd : ∀ i j k v, T i j k = some v → (i = 0 ∧ j = 0 ∧ k = 0) ∨ ∃ i' j' k' v' c, dn i' j' k' k ∧ T i' j' k' = some v' ∧ StepP p xs ys i' j' k' i j k c ∧ v = v' + c
  cmp : ∀ i j k v, T i j k = some v → ∀ i' j' k' c, dn i j k k' → StepP p xs ys i j k i' j' k' c → ∃ w, T i' j' k' = some w ∧ w ≤ v + c
section
variable {p : V3} {xs ys : List Nat} {dn dn' : Nat → Nat → Nat → Nat → Prop} {T : TabF}
theorem StepP.up {i j k a b l : Nat} {c : Int} (h : StepP p xs ys i j k a b l c) : i + j < a + b ∧ i ≤ a ∧ j ≤ b ∧ a ≤ i + 1 ∧ b ≤ j + 1 ∧ l ≤ 2 := by
  rcases h with ⟨h1, h2, h3, h4, h5⟩ | ⟨h1, h2, h3, h4, h5⟩ | ⟨h1, h2, h3, h4, h5⟩ <;> omega
theorem StepP.inn {i j k a b l : Nat} {c : Int} (h : StepP p xs ys i j k a b l c) (hi : i ≤ xs.length) (hj : j ≤ ys.length) : a ≤ xs.length ∧ b ≤ ys.length := by
  rcases h with ⟨h1, h2, h3, h4, h5⟩ | ⟨h1, h2, h3, h4, h5⟩ | ⟨h1, h2, h3, h4, h5⟩ <;> omega
end
end PB
set_option Elab.async false
set_option linter.all false
set_option maxRecDepth 10000
set_option maxHeartbeats 4000000
set_option exponentiation.threshold 2000
namespace PB
section
variable {p : V3} {xs ys : List Nat} {dn dn' : Nat → Nat → Nat → Nat → Prop} {T : TabF}
def tab0 : TabF := fun i j k => if 0 = i ∧ 0 = j ∧ 0 = k then some 0 else none
theorem Tabl.start : Tabl p xs ys (fun _ _ _ _ => False) tab0 := by
  refine ⟨rfl, fun i j k v hv => ?_, fun i j k v hv i' j' k' c hd => hd.elim⟩
  unfold tab0 at hv
  by_cases h : 0 = i ∧ 0 = j ∧ 0 = k
  · exact .inl ⟨by omega, by omega, by omega⟩
  · rw [if_neg h] at hv
    cases hv
/-- the steps from a place, as things -/
abbrev It := Nat × Nat × Nat × Int
def movesI (p : V3) (xs ys : List Nat) (i j k : Nat) : List It := (if h : i < xs.length ∧ j < ys.length then [(0, i + 1, j + 1, ne1 p.1 (xs[i]'h.1) (ys[j]'h.2))] else []) ++ (if i < xs.length then [(1, i + 1, j, p.2.1 + sw p.2.2 (k == 1))] else []) ++ (if j < ys.length then [(2, i, j + 1, p.2.1 + sw p.2.2 (k == 2))] else [])
end
end PB
set_option Elab.async false
set_option linter.all false
set_option maxRecDepth 10000
set_option maxHeartbeats 4000000
set_option exponentiation.threshold 2000
namespace PB
section
variable {γ : Type} {e : Env} {g : γ} {i : Nat} {QS : Fl → γ → Prop}
theorem S_frz_owd {t : Bool} {ks vs : List D} (h : gt e i = .owd t ks vs) : Sat (mFrz i e g) QS = QS (.nx (st e i (.dat (.dct t ks vs)))) g := by
  unfold mFrz
  rw [h]
  rfl
end
end PB
set_option Elab.async false
set_option linter.all false
set_option maxRecDepth 10000
set_option maxHeartbeats 4000000
set_option exponentiation.threshold 2000
namespace PB
end PB
set_option Elab.async false
set_option linter.all false
set_option maxRecDepth 10000
set_option maxHeartbeats 4000000
set_option exponentiation.threshold 2000
namespace PB
end PB
set_option Elab.async false
set_option linter.all false
set_option maxRecDepth 10000
set_option maxHeartbeats 4000000
set_option exponentiation.threshold 2000
namespace PB
section
variable {p : V3} {xs ys : List Nat}
abbrev LcP (p : V3) (xs ys : List Nat) (i j k : Nat) : Int := Lc p.1 p.2.1 p.2.2 k (xs.drop i) (ys.drop j)
theorem StepP.le {i j k a b c : Nat} {cost : Int} (hs : StepP p xs ys i j k a b c cost) : LcP p xs ys i j k ≤ cost + LcP p xs ys a b c := by
  unfold LcP
  rcases hs with ⟨rfl, rfl, rfl, h4, h5⟩ | ⟨rfl, rfl, rfl, h4, h5⟩ | ⟨rfl, rfl, rfl, h4, h5⟩
  · rw [List.drop_eq_getElem_cons h4.1, List.drop_eq_getElem_cons h4.2, h5]
    exact kp_le
  · rw [List.drop_eq_getElem_cons h4, h5]
    exact out_le
  · rw [List.drop_eq_getElem_cons h4, h5]
    exact ins_le
/-- the steps by which least cost goes on: the first of them is the one taken -/
def goodI (p : V3) (xs ys : List Nat) (i j k : Nat) : List It := (movesI p xs ys i j k).filter fun q => decide (q.2.2.2 + LcP p xs ys q.2.1 q.2.2.1 q.1 = LcP p xs ys i j k)
end
end PB
set_option Elab.async false
set_option linter.all false
set_option maxRecDepth 10000
set_option maxHeartbeats 4000000
set_option exponentiation.threshold 2000
namespace PB
def wTightM : MS (GW LS) := (mSeq (mTgt (tgT [2, 3, 4]) (mVar 1))
    (mSeq (mTgt (tgT [5, 6]) (mWyF WS.words (mVar 0)))
    (mSeq (mTgt (tgT [7, 8, 9]) (mWyF WS.price (mVar 0)))
    (mSeq (mSet 10 (mOp2 oIx (mWyRest (mVar 0) (mVar 2) (mVar 3)) (mVar 4)))
    (mSeq (mSet 11 (mLst mNil))
    (mSeq (mIfS (mAnd (mTest (mOp2 oLt (mVar 2) (mOpN oLen (mCons (mVar 5) mNil)))) (mAnd (mTest (mOp2 oLt (mVar 3) (mOpN oLen (mCons (mVar 6) mNil)))) (mTest (mOp2 oEq (mOp2 oAdd (mOp2 oIx (mWyRest (mVar 0) (mOp2 oAdd (mVar 2) (mC (.int 1))) (mOp2 oAdd (mVar 3) (mC (.int 1)))) (mC (.int 0))) (mOp2 oMul (mVar 7) (mOpN oInt (mCons (mOp2 oNe (mOp2 oIx (mVar 5) (mVar 2)) (mOp2 oIx (mVar 6) (mVar 3))) mNil)))) (mVar 10))))) (mApp 11 (mTup (mCons (mC (.int 0)) (mCons (mTup (mCons (mOp2 oAdd (mVar 2) (mC (.int 1))) (mCons (mOp2 oAdd (mVar 3) (mC (.int 1))) (mCons (mC (.int 0)) mNil)))) mNil)))) mPass)
    (mSeq (mIfS (mAnd (mTest (mOp2 oLt (mVar 2) (mOpN oLen (mCons (mVar 5) mNil)))) (mTest (mOp2 oEq (mOp2 oAdd (mOp2 oAdd (mOp2 oIx (mWyRest (mVar 0) (mOp2 oAdd (mVar 2) (mC (.int 1))) (mVar 3)) (mC (.int 1))) (mVar 8)) (mOp2 oMul (mVar 9) (mOpN oInt (mCons (mOp2 oNe (mVar 4) (mC (.int 1))) mNil)))) (mVar 10)))) (mApp 11 (mTup (mCons (mC (.int 1)) (mCons (mTup (mCons (mOp2 oAdd (mVar 2) (mC (.int 1))) (mCons (mVar 3) (mCons (mC (.int 1)) mNil)))) mNil)))) mPass)
    (mSeq (mIfS (mAnd (mTest (mOp2 oLt (mVar 3) (mOpN oLen (mCons (mVar 6) mNil)))) (mTest (mOp2 oEq (mOp2 oAdd (mOp2 oAdd (mOp2 oIx (mWyRest (mVar 0) (mVar 2) (mOp2 oAdd (mVar 3) (mC (.int 1)))) (mC (.int 2))) (mVar 8)) (mOp2 oMul (mVar 9) (mOpN oInt (mCons (mOp2 oNe (mVar 4) (mC (.int 2))) mNil)))) (mVar 10)))) (mApp 11 (mTup (mCons (mC (.int 2)) (mCons (mTup (mCons (mVar 2) (mCons (mOp2 oAdd (mVar 3) (mC (.int 1))) (mCons (mC (.int 2)) mNil)))) mNil)))) mPass)
    (mRet (mVar 11))))))))))
def wTightF : MF (GW LS) := mDef 12 2 wTightM
def wEndM : MS (GW LS) := (mRet (mAndV (mOp2 oEq (mOp2 oIx (mVar 1) (mC (.int 0))) (mOpN oLen (mCons (mOp2 oIx (mWyF WS.words (mVar 0)) (mC (.int 0))) mNil))) (mOp2 oEq (mOp2 oIx (mVar 1) (mC (.int 1))) (mOpN oLen (mCons (mOp2 oIx (mWyF WS.words (mVar 0)) (mC (.int 1))) mNil)))))
def wEndF : MF (GW LS) := mDef 2 2 wEndM
def wLeadM : MS (GW LS) := (mSeq (mWyPutS (mVar 0) (mVar 1) (mMeth slW wTightF (mVar 0) (mCons (mVar 1) mNil)))
    (mSeq (mWyPutM (mVar 0) (mVar 1) (mOpN oSum (mCons (mLc (mItems (mWyD true (mVar 0) (mVar 1))) (tgT [2, 3]) mYes (mWyD false (mVar 0) (mVar 3)) [2, 3]) mNil)))
    (mIfS (mTru (mMeth slW wEndF (mVar 0) (mCons (mVar 1) mNil))) (mWyPutM (mVar 0) (mVar 1) (mC (.int 1))) mPass)))
def wLeadF : MF (GW LS) := mDef 4 2 wLeadM
def wLoopM : MS (GW LS) := (mFor (mRangeA (mCons (mOpN oLen (mCons (mVar 1) mNil)) (mCons (mOp1 oNeg (mC (.int 1))) (mCons (mOp1 oNeg (mC (.int 1))) mNil)))) (tgN 4) (mFor (mRangeA (mCons (mOpN oLen (mCons (mVar 2) mNil)) (mCons (mOp1 oNeg (mC (.int 1))) (mCons (mOp1 oNeg (mC (.int 1))) mNil)))) (tgN 5) (mFor (mRange1 (mC (.int 3))) (tgN 6) (mDrop (mMeth slW wLeadF (mVar 0) (mCons (mTup (mCons (mVar 4) (mCons (mVar 5) (mCons (mVar 6) mNil)))) mNil))))))
abbrev wM : List D → Nat → LS → Rs LS WS := mkWy rests_ofF wLoopM 3
section
variable {γ : Type} {e : Env} {g : GW γ}
theorem wyF_eq {f : WS → D} {mo : ME (GW γ)} (h : mo e g = .ok (.dat (.ref g.2.a)) g) : mWyF f mo e g = .ok (.dat (f g.2)) g := by
  unfold mWyF
  rw [h, Rs.bind_ok]
  exact if_pos rfl
theorem wyRest_eq {n m : Nat} {f : Nat → Nat → V3} {mo ma mb : ME (GW γ)} {i j : Nat} (h : mo e g = .ok (.dat (.ref g.2.a)) g) (hr : g.2.rest = tab n m f) (ha : ma e g = .ok (.dat (.int (i : Nat))) g) (hb : mb e g = .ok (.dat (.int (j : Nat))) g) (hi : i < n + 2) (hj : j < m + 2) :
    mWyRest mo ma mb e g = .ok (.dat (vd (f i j))) g := by
  unfold mWyRest
  rw [h, Rs.bind_ok]
  dsimp only
  rw [if_pos rfl, ha, Rs.bind_ok]
  dsimp only
  rw [hr, atI_tab hi]
  dsimp only
  rw [hb, Rs.bind_ok]
  dsimp only
  rw [hr, atI_tab hi]
  show ofO ((atI (rowT m (f i)) ((j : Nat) : Int)).map Rv.dat) g = _
  rw [atI_row hj]
  rfl
theorem S_appIf {i : Nat} {c : Bool} {x : D} {ds : List D} {t : MT γ} {a : ME γ} {e : Env} {g : γ} {QS : Fl → γ → Prop} (hc : t e g = .ok c g) (hx : c = true → a e g = .ok (.dat x) g) (h : gt e i = .own ds) (hl : ds.length < SZ) (q : QS (.nx (st e i (.own (ds ++ if c = true then [x] else [])))) g) : Sat (mIfS t (mApp i a) mPass e g) QS := by
  unfold mIfS
  rw [hc, Rs.bind_ok]
  cases c with
  | true =>
    rw [S_app h, hx rfl, Sat_ok, kA_dat]
    exact ⟨hl, q⟩
  | false =>
    rw [if_neg Bool.false_ne_true, List.append_nil] at q
    have : st e i (.own ds) = e := by
      clear q hc hx
      induction e generalizing i with
      | nil => rfl
      | cons s r ih =>
        cases i with
        | zero =>
          have h : s = .own ds := h
          rw [h]
          rfl
        | succ i => exact congrArg (s :: ·) (ih h)
    rw [this] at q
    exact q
end
/-- a step as it is kept: the move, the place behind it -/
def stD (q : It) : D := .tup [.int (q.1 : Nat), pl q.2.1 q.2.2.1 q.1]
structure WyB (p : V3) (xs ys : List Nat) (w : WS) : Prop where
  words : w.words = tw xs ys
  price : w.price = vd p
  rest : w.rest = tab xs.length ys.length (RTv p xs ys)
section
variable {b : Nat} {p : V3} {xs ys : List Nat}
theorem RTv_c {i j k : Nat} (hi : i ≤ xs.length) (hj : j ≤ ys.length) (hk : k ≤ 2) : oIx (.dat (vd (RTv p xs ys i j))) (.dat (.int (k : Nat))) = some (.dat (.int (LcP p xs ys i j k))) := by
  unfold RTv
  rw [if_pos ⟨hi, hj⟩]
  match k, hk with
  | 0, _ => rfl
  | 1, _ => rfl
  | 2, _ => rfl
def T0 (p : V3) (xs ys : List Nat) (i j k : Nat) : Bool := if h : i < xs.length ∧ j < ys.length then decide (ne1 p.1 (xs[i]'h.1) (ys[j]'h.2) + LcP p xs ys (i + 1) (j + 1) 0 = LcP p xs ys i j k) else false
def T1 (p : V3) (xs ys : List Nat) (i j k : Nat) : Bool := if i < xs.length then decide (p.2.1 + sw p.2.2 (k == 1) + LcP p xs ys (i + 1) j 1 = LcP p xs ys i j k) else false
def T2 (p : V3) (xs ys : List Nat) (i j k : Nat) : Bool := if j < ys.length then decide (p.2.1 + sw p.2.2 (k == 2) + LcP p xs ys i (j + 1) 2 = LcP p xs ys i j k) else false
theorem goodI_st (i j k : Nat) : (goodI p xs ys i j k).map stD = ((([] ++ if T0 p xs ys i j k = true then [.tup [.int 0, pl (i + 1) (j + 1) 0]] else []) ++ if T1 p xs ys i j k = true then [.tup [.int 1, pl (i + 1) j 1]] else []) ++ if T2 p xs ys i j k = true then [.tup [.int 2, pl i (j + 1) 2]] else []) := by
  unfold goodI movesI T0 T1 T2
  rw [List.filter_append, List.filter_append, List.map_append, List.map_append, List.nil_append]
  congr 1
  · congr 1
    · by_cases h : i < xs.length ∧ j < ys.length
      · rw [dif_pos h, dif_pos h]
        by_cases z : ne1 p.1 (xs[i]'h.1) (ys[j]'h.2) + LcP p xs ys (i + 1) (j + 1) 0 = LcP p xs ys i j k
        · simp [List.filter, z, stD]
        · simp [List.filter, z]
      · rw [dif_neg h, dif_neg h]
        rfl
    · by_cases h : i < xs.length
      · rw [if_pos h, if_pos h]
        by_cases z : p.2.1 + sw p.2.2 (k == 1) + LcP p xs ys (i + 1) j 1 = LcP p xs ys i j k
        · simp [List.filter, z, stD]
        · simp [List.filter, z]
      · rw [if_neg h, if_neg h]
        rfl
  · by_cases h : j < ys.length
    · rw [if_pos h, if_pos h]
      by_cases z : p.2.1 + sw p.2.2 (k == 2) + LcP p xs ys i (j + 1) 2 = LcP p xs ys i j k
      · simp [List.filter, z, stD]
      · simp [List.filter, z]
    · rw [if_neg h, if_neg h]
      rfl
theorem S_wTight {i j k : Nat} {g : GW LS} {Q : Rv → GW LS → Prop} (hl : Lt3 b p) (hb : b ≤ 1000) (hi : i ≤ xs.length) (hj : j ≤ ys.length) (hk : k ≤ 2) (hw : WyB p xs ys g.2)
    (q : Q (.own ((goodI p xs ys i j k).map stD)) g) : Sat (wTightF [.ref g.2.a, pl i j k] g) Q := by
  have hb2 : ∀ x : Int, x.natAbs < 2 ^ b → x.natAbs < 2 ^ 1000 := fun x h => ltUp h hb
  have lo := hb2 _ hl.x
  have lt := hb2 _ hl.z
  unfold wTightF
  rw [S_def (k := 2) (ds := [.ref g.2.a, pl i j k]) rfl]
  show Sat (wTightM [.dat (.ref g.2.a), .dat (pl i j k), .un, .un, .un, .un, .un, .un, .un, .un, .un, .un] g) _
  unfold wTightM
  have e1 : ∀ (x2 x3 x4 x5 x6 x7 x8 x9 x10 x11 : Sl), mWyF WS.words (mVar 0) [.dat (.ref g.2.a), .dat (pl i j k), x2, x3, x4, x5, x6, x7, x8, x9, x10, x11] g = .ok (.dat (tw xs ys)) g := fun _ _ _ _ _ _ _ _ _ _ => by
    rw [wyF_eq rfl, hw.words]
  have e2 : ∀ (x2 x3 x4 x5 x6 x7 x8 x9 x10 x11 : Sl), mWyF WS.price (mVar 0) [.dat (.ref g.2.a), .dat (pl i j k), x2, x3, x4, x5, x6, x7, x8, x9, x10, x11] g = .ok (.dat (vd p)) g := fun _ _ _ _ _ _ _ _ _ _ => by
    rw [wyF_eq rfl, hw.price]
  rw [S_seq, S_tgt, S_var]
  dsimp only [gt]
  rw [kVar_dat, kTgt_ (tgTpl), kS_nx, S_seq, S_tgt]
  simp only [st]
  rw [e1, Sat_ok, kTgt_ (show tgT [5, 6] (tw xs ys) _ = some _ from rfl), kS_nx, S_seq, S_tgt]
  simp only [st]
  rw [e2, Sat_ok, kTgt_ (show tgT [7, 8, 9] (vd p) _ = some _ from tgT3), kS_nx, S_seq, S_set]
  simp only [st]
  have envR : ∀ (x10 x11 : Sl) (ma mb : ME (GW LS)) (i' j' : Nat), ma [.dat (.ref g.2.a), .dat (pl i j k), .dat (.int (i : Nat)), .dat (.int (j : Nat)), .dat (.int (k : Nat)), .dat (.str xs), .dat (.str ys), .dat (.int p.1), .dat (.int p.2.1), .dat (.int p.2.2), x10, x11] g = .ok (.dat (.int (i' : Nat))) g → mb [.dat (.ref g.2.a), .dat (pl i j k), .dat (.int (i : Nat)), .dat (.int (j : Nat)), .dat (.int (k : Nat)), .dat (.str xs), .dat (.str ys), .dat (.int p.1), .dat (.int p.2.1), .dat (.int p.2.2), x10, x11] g = .ok (.dat (.int (j' : Nat))) g → i' ≤ xs.length → j' ≤ ys.length →
      mWyRest (mVar 0) ma mb [.dat (.ref g.2.a), .dat (pl i j k), .dat (.int (i : Nat)), .dat (.int (j : Nat)), .dat (.int (k : Nat)), .dat (.str xs), .dat (.str ys), .dat (.int p.1), .dat (.int p.2.1), .dat (.int p.2.2), x10, x11] g = .ok (.dat (vd (RTv p xs ys i' j'))) g := fun x10 x11 ma mb i' j' h1 h2 h3 h4 => wyRest_eq rfl hw.rest h1 h2 (by omega) (by omega)
  have hleft : mOp2 oIx (mWyRest (mVar 0) (mVar 2) (mVar 3)) (mVar 4) [.dat (.ref g.2.a), .dat (pl i j k), .dat (.int (i : Nat)), .dat (.int (j : Nat)), .dat (.int (k : Nat)), .dat (.str xs), .dat (.str ys), .dat (.int p.1), .dat (.int p.2.1), .dat (.int p.2.2), .un, .un] g = .ok (.dat (.int (LcP p xs ys i j k))) g := by
    unfold mOp2
    rw [envR _ _ _ _ i j rfl rfl hi hj, Rs.bind_ok]
    show ofO (oIx (.dat (vd (RTv p xs ys i j))) (.dat (.int (k : Nat)))) g = _
    rw [RTv_c hi hj hk]
    rfl
  rw [hleft, Sat_ok, kSet_dat, kS_nx, S_seq, S_set, S_lst, S_nil, kL_u]
  simp only [stoL_nil, SatO_some, List.length_nil, SZ, st]
  refine ⟨by decide, ?_⟩
  rw [kSet_own, kS_nx]
  simp only [st]
  have neS : ∀ (a b : Nat) (o : Int), o * (if (!([a] == [b])) = true then 1 else 0) = ne1 o a b := by
    intro a b o
    unfold ne1
    by_cases hq : a = b
    · rw [if_pos hq, hq]
      simp
    · rw [if_neg hq]
      simp [hq]
  have swI : ∀ (t : Int) (c : Int) (d : Nat), c = (d : Int) → t * (if (!decide (((k : Nat) : Int) = c)) = true then 1 else 0) = sw t (k == d) := by
    intro t c d hc
    subst hc
    unfold sw
    by_cases hq : k = d
    · subst hq
      simp
    · rw [decide_eq_false (by omega), beq_eq_false_iff_ne.mpr hq]
      simp
  have sw1 := swI p.2.2 1 1 rfl
  have sw2 := swI p.2.2 2 2 rfl
  have m01 : ∀ (o : Int) (c : Bool), o.natAbs < 2 ^ 1000 → MulOk o (if c = true then 1 else 0) := fun o c h => mulOk (a := 1000) (b := 2) h (by split <;> decide) (by decide) (by decide) (by decide)
  have pi1 : ∀ (x11 : Sl), mOp2 oAdd (mVar 2) (mC (.int 1)) [.dat (.ref g.2.a), .dat (pl i j k), .dat (.int (i : Nat)), .dat (.int (j : Nat)), .dat (.int (k : Nat)), .dat (.str xs), .dat (.str ys), .dat (.int p.1), .dat (.int p.2.1), .dat (.int p.2.2), .dat (.int (LcP p xs ys i j k)), x11] g = .ok (.dat (.int ((i + 1 : Nat) : Int))) g := fun _ => rfl
  have pj1 : ∀ (x11 : Sl), mOp2 oAdd (mVar 3) (mC (.int 1)) [.dat (.ref g.2.a), .dat (pl i j k), .dat (.int (i : Nat)), .dat (.int (j : Nat)), .dat (.int (k : Nat)), .dat (.str xs), .dat (.str ys), .dat (.int p.1), .dat (.int p.2.1), .dat (.int p.2.2), .dat (.int (LcP p xs ys i j k)), x11] g = .ok (.dat (.int ((j + 1 : Nat) : Int))) g := fun _ => rfl
  have rc0 : ∀ i j, i ≤ xs.length → j ≤ ys.length → oIx (.dat (vd (RTv p xs ys i j))) (.dat (.int 0)) = some (.dat (.int (LcP p xs ys i j 0))) := fun i j h1 h2 => RTv_c h1 h2 (k := 0) (by omega)
  have rc1 : ∀ i j, i ≤ xs.length → j ≤ ys.length → oIx (.dat (vd (RTv p xs ys i j))) (.dat (.int 1)) = some (.dat (.int (LcP p xs ys i j 1))) := fun i j h1 h2 => RTv_c h1 h2 (k := 1) (by omega)
  have rc2 : ∀ i j, i ≤ xs.length → j ≤ ys.length → oIx (.dat (vd (RTv p xs ys i j))) (.dat (.int 2)) = some (.dat (.int (LcP p xs ys i j 2))) := fun i j h1 h2 => RTv_c h1 h2 (k := 2) (by omega)
  rw [S_seq]
  refine S_appIf (c := T0 p xs ys i j k) (x := .tup [.int 0, pl (i + 1) (j + 1) 0]) (ds := []) (Sat.eq fun Q q => ?_) (fun _ => rfl) rfl (by decide) ?_
  · unfold T0 at q
    rw [S_and]
    simp only [S_test, S_op2, S_var, gt, kVar_dat, k2_, S_opN, S_cons, kc_, S_nil, kcb_, kN_, o_lenS, SatO_some, k2b_, o_lt, kTest_]
    by_cases c1 : i < xs.length
    · rw [decide_eq_true (show ((i : Nat) : Int) < xs.length by omega), kAnd_true, S_and]
      simp only [S_test, S_op2, S_var, gt, kVar_dat, k2_, S_opN, S_cons, kc_, S_nil, kcb_, kN_, o_lenS, SatO_some, k2b_, o_lt, kTest_]
      by_cases c2 : j < ys.length
      · rw [dif_pos ⟨c1, c2⟩] at q
        rw [decide_eq_true (show ((j : Nat) : Int) < ys.length by omega), kAnd_true, S_test, S_op2, S_op2, S_op2, envR _ _ _ _ (i + 1) (j + 1) (pi1 _) (pj1 _) c1 c2, Sat_ok]
        simp only [S_op2, S_var, S_C, gt, kVar_dat, k2_, S_opN, S_cons, kc_, S_nil, kcb_, kN_, SatO_some, k2b_, rc0 _ _ c1 c2, o_ixS, atIat c1, atIat c2, map_some', o_neS, o_intB, o_mul_u, o_add, neS, o_eq, kTest_]
        refine ⟨m01 _ _ lo, ?_⟩
        rw [Int.add_comm]
        exact q
      · rw [dif_neg (fun z => c2 z.2)] at q
        rw [decide_eq_false (show ¬ ((j : Nat) : Int) < ys.length by omega), kAnd_false]
        exact q
    · rw [dif_neg (fun z => c1 z.1)] at q
      rw [decide_eq_false (show ¬ ((i : Nat) : Int) < xs.length by omega), kAnd_false]
      exact q
  simp only [st]
  rw [kS_nx, S_seq]
  refine S_appIf (c := T1 p xs ys i j k) (x := .tup [.int 1, pl (i + 1) j 1]) (Sat.eq fun Q q => ?_) (fun _ => rfl) rfl (by split <;> (show _ < 16777216; simp)) ?_
  · unfold T1 at q
    rw [S_and]
    simp only [S_test, S_op2, S_var, gt, kVar_dat, k2_, S_opN, S_cons, kc_, S_nil, kcb_, kN_, o_lenS, SatO_some, k2b_, o_lt, kTest_]
    by_cases c1 : i < xs.length
    · rw [if_pos c1] at q
      rw [decide_eq_true (show ((i : Nat) : Int) < xs.length by omega), kAnd_true, S_test, S_op2, S_op2, S_op2, S_op2, envR _ _ _ _ (i + 1) j (pi1 _) rfl c1 hj, Sat_ok]
      simp only [S_op2, S_var, S_C, gt, kVar_dat, k2_, S_opN, S_cons, kc_, S_nil, kcb_, kN_, SatO_some, k2b_, rc1 _ _ c1 hj, o_ne, o_intB, o_mul_u, o_add, sw1, o_eq, kTest_]
      refine ⟨m01 _ _ lt, ?_⟩
      have e : p.2.1 + sw p.2.2 (k == 1) + LcP p xs ys (i + 1) j 1 = LcP p xs ys (i + 1) j 1 + p.2.1 + sw p.2.2 (k == 1) := by omega
      rw [e] at q
      exact q
    · rw [if_neg c1] at q
      rw [decide_eq_false (show ¬ ((i : Nat) : Int) < xs.length by omega), kAnd_false]
      exact q
  simp only [st]
  rw [kS_nx, S_seq]
  refine S_appIf (c := T2 p xs ys i j k) (x := .tup [.int 2, pl i (j + 1) 2]) (Sat.eq fun Q q => ?_) (fun _ => rfl) rfl (by split <;> split <;> (show _ < 16777216; simp)) ?_
  · unfold T2 at q
    rw [S_and]
    simp only [S_test, S_op2, S_var, gt, kVar_dat, k2_, S_opN, S_cons, kc_, S_nil, kcb_, kN_, o_lenS, SatO_some, k2b_, o_lt, kTest_]
    by_cases c1 : j < ys.length
    · rw [if_pos c1] at q
      rw [decide_eq_true (show ((j : Nat) : Int) < ys.length by omega), kAnd_true, S_test, S_op2, S_op2, S_op2, S_op2, envR _ _ _ _ i (j + 1) rfl (pj1 _) hi c1, Sat_ok]
      simp only [S_op2, S_var, S_C, gt, kVar_dat, k2_, S_opN, S_cons, kc_, S_nil, kcb_, kN_, SatO_some, k2b_, rc2 _ _ hi c1, o_ne, o_intB, o_mul_u, o_add, sw2, o_eq, kTest_]
      refine ⟨m01 _ _ lt, ?_⟩
      have e : p.2.1 + sw p.2.2 (k == 2) + LcP p xs ys i (j + 1) 2 = LcP p xs ys i (j + 1) 2 + p.2.1 + sw p.2.2 (k == 2) := by omega
      rw [e] at q
      exact q
    · rw [if_neg c1] at q
      rw [decide_eq_false (show ¬ ((j : Nat) : Int) < ys.length by omega), kAnd_false]
      exact q
  simp only [st]
  rw [kS_nx, S_ret', S_var]
  simp only [gt]
  rw [kVar_own, kR_, kD_rt]
  rw [goodI_st] at q
  exact q
end
end PB
set_option Elab.async false
set_option linter.all false
set_option maxRecDepth 10000
set_option maxHeartbeats 4000000
set_option exponentiation.threshold 2000
namespace PB
def allS : List Nat → List Nat → List (List Mv)
  | [], [] => [[]]
  | x :: xs, [] => (allS xs []).map (Mv.out x :: ·)
  | [], y :: ys => (allS [] ys).map (Mv.inn y :: ·)
  | x :: xs, y :: ys => (allS xs ys).map (keepOr x y :: ·) ++ (allS xs (y :: ys)).map (Mv.out x :: ·) ++ (allS (x :: xs) ys).map (Mv.inn y :: ·)
termination_by xs ys => xs.length + ys.length
section
variable {o s t : Int}
theorem allS_nn : allS [] [] = [[]] := by rw [allS]
theorem allS_cn {x : Nat} {xs : List Nat} : allS (x :: xs) [] = (allS xs []).map (Mv.out x :: ·) := by rw [allS]
theorem allS_nc {y : Nat} {ys : List Nat} : allS [] (y :: ys) = (allS [] ys).map (Mv.inn y :: ·) := by rw [allS]
theorem allS_cc {x y : Nat} {xs ys : List Nat} : allS (x :: xs) (y :: ys) = (allS xs ys).map (keepOr x y :: ·) ++ (allS xs (y :: ys)).map (Mv.out x :: ·) ++ (allS (x :: xs) ys).map (Mv.inn y :: ·) := by rw [allS]
theorem allS_ends (k : Nat) (xs ys : List Nat) : ∀ ls ∈ allS xs ys, ls.flatMap Mv.taken = xs ∧ ls.flatMap Mv.made = ys := by
  induction k, xs, ys using Lc.induct with
  | case1 k =>
    intro ls h
    rw [allS_nn] at h
    rw [List.mem_singleton.mp h]
    exact ⟨rfl, rfl⟩
  | case2 k x xs ih =>
    intro ls h
    rw [allS_cn] at h
    obtain ⟨r, hr, rfl⟩ := List.mem_map.mp h
    rw [List.flatMap_cons, List.flatMap_cons, (ih r hr).1, (ih r hr).2]
    exact ⟨rfl, rfl⟩
  | case3 k y ys ih =>
    intro ls h
    rw [allS_nc] at h
    obtain ⟨r, hr, rfl⟩ := List.mem_map.mp h
    rw [List.flatMap_cons, List.flatMap_cons, (ih r hr).1, (ih r hr).2]
    exact ⟨rfl, rfl⟩
  | case4 k x xs y ys i1 i2 i3 =>
    intro ls h
    rw [allS_cc] at h
    rcases List.mem_append.mp h with h | h
    · rcases List.mem_append.mp h with h | h
      · obtain ⟨r, hr, rfl⟩ := List.mem_map.mp h
        rw [List.flatMap_cons, List.flatMap_cons, (i1 r hr).1, (i1 r hr).2, keepOr_taken, keepOr_made]
        exact ⟨rfl, rfl⟩
      · obtain ⟨r, hr, rfl⟩ := List.mem_map.mp h
        rw [List.flatMap_cons, List.flatMap_cons, (i2 r hr).1, (i2 r hr).2]
        exact ⟨rfl, rfl⟩
    · obtain ⟨r, hr, rfl⟩ := List.mem_map.mp h
      rw [List.flatMap_cons, List.flatMap_cons, (i3 r hr).1, (i3 r hr).2]
      exact ⟨rfl, rfl⟩
theorem allS_ge (h : Pos o s t) (k : Nat) (xs ys : List Nat) : ∀ ls ∈ allS xs ys, Lc o s t k xs ys ≤ cst o s t k ls := by
  intro ls hm
  have h1 := Lc_min h ls k
  rw [(allS_ends 0 xs ys ls hm).1, (allS_ends 0 xs ys ls hm).2] at h1
  exact h1
end
end PB
set_option Elab.async false
set_option linter.all false
set_option maxRecDepth 10000
set_option maxHeartbeats 4000000
set_option exponentiation.threshold 2000
namespace PB
def AlP (p : V3) (xs ys : List Nat) (i j k : Nat) : List (List Mv) := (allS (xs.drop i) (ys.drop j)).filter fun l => decide (cst p.1 p.2.1 p.2.2 k l = LcP p xs ys i j k)
def CwP (p : V3) (xs ys : List Nat) (i j k : Nat) : Nat := (AlP p xs ys i j k).length
theorem fil_map {o s t : Int} {f : List Mv → List Mv} {A : List (List Mv)} {k j : Nat} {c d e : Int} (hf : ∀ r, cst o s t k (f r) = e + cst o s t j r) (hd : ∀ r ∈ A, d ≤ cst o s t j r) (hc : c ≤ e + d) :
    (A.map f).filter (fun ls => decide (cst o s t k ls = c)) = if decide (e + d = c) = true then (A.filter fun ls => decide (cst o s t j ls = d)).map f else [] := by
  induction A with
  | nil =>
    split <;> rfl
  | cons a A ih =>
    have ih := ih fun r hr => hd r (List.mem_cons_of_mem _ hr)
    have h1 := hd a List.mem_cons_self
    rw [List.map_cons, List.filter_cons, hf, ih]
    by_cases z : e + d = c
    · rw [decide_eq_true z, if_pos rfl, if_pos rfl, List.filter_cons]
      by_cases y : cst o s t j a = d
      · rw [if_pos (decide_eq_true (by omega)), if_pos (decide_eq_true y)]
        rfl
      · rw [if_neg (by rw [decide_eq_false (by omega)]; exact Bool.false_ne_true), if_neg (by rw [decide_eq_false y]; exact Bool.false_ne_true)]
    · rw [decide_eq_false z, if_neg Bool.false_ne_true, if_neg (by rw [decide_eq_false (by omega)]; exact Bool.false_ne_true), if_neg Bool.false_ne_true]
section
variable {p : V3} {xs ys : List Nat}
theorem AlP_end {i j k : Nat} (hi : xs.length ≤ i) (hj : ys.length ≤ j) : AlP p xs ys i j k = [[]] := by
  unfold AlP LcP
  rw [List.drop_of_length_le hi, List.drop_of_length_le hj, allS_nn, Lc_nn]
  show List.filter _ [[]] = _
  rw [List.filter_cons, if_pos (decide_eq_true cst_nil)]
  rfl
theorem stepAt_1 {i j : Nat} (h : i < xs.length) : stepAt xs ys i j 1 = .out xs[i] := by
  unfold stepAt
  rw [if_pos rfl, List.getElem?_eq_getElem h]
  rfl
theorem stepAt_2 {i j : Nat} (h : j < ys.length) : stepAt xs ys i j 2 = .inn ys[j] := by
  unfold stepAt
  rw [if_neg (by decide), if_pos rfl, List.getElem?_eq_getElem h]
  rfl
theorem stepAt_0 {i j : Nat} (h : i < xs.length) (h2 : j < ys.length) : stepAt xs ys i j 0 = keepOr xs[i] ys[j] := by
  unfold stepAt
  rw [if_neg (by decide), if_neg (by decide), List.getElem?_eq_getElem h, List.getElem?_eq_getElem h2]
  rfl
theorem AlP_step (hp : Pos p.1 p.2.1 p.2.2) {i j k : Nat} (h : i < xs.length ∨ j < ys.length) : AlP p xs ys i j k = ((if T0 p xs ys i j k = true then (AlP p xs ys (i + 1) (j + 1) 0).map (stepAt xs ys i j 0 :: ·) else []) ++ if T1 p xs ys i j k = true then (AlP p xs ys (i + 1) j 1).map (stepAt xs ys i j 1 :: ·) else []) ++ if T2 p xs ys i j k = true then (AlP p xs ys i (j + 1) 2).map (stepAt xs ys i j 2 :: ·) else [] := by
  have ge : ∀ k xs ys, ∀ r ∈ allS xs ys, Lc p.1 p.2.1 p.2.2 k xs ys ≤ cst p.1 p.2.1 p.2.2 k r := fun k xs ys => allS_ge hp k xs ys
  by_cases h1 : i < xs.length
  · by_cases h2 : j < ys.length
    · have s0 : LcP p xs ys i j k ≤ ne1 p.1 xs[i] ys[j] + LcP p xs ys (i + 1) (j + 1) 0 := StepP.le (.inl ⟨rfl, rfl, rfl, ⟨h1, h2⟩, rfl⟩)
      have s1 : LcP p xs ys i j k ≤ (p.2.1 + sw p.2.2 (k == 1)) + LcP p xs ys (i + 1) j 1 := StepP.le (.inr (.inl ⟨rfl, rfl, rfl, h1, rfl⟩))
      have s2 : LcP p xs ys i j k ≤ (p.2.1 + sw p.2.2 (k == 2)) + LcP p xs ys i (j + 1) 2 := StepP.le (.inr (.inr ⟨rfl, rfl, rfl, h2, rfl⟩))
      have e0 : T0 p xs ys i j k = decide (ne1 p.1 xs[i] ys[j] + LcP p xs ys (i + 1) (j + 1) 0 = LcP p xs ys i j k) := dif_pos ⟨h1, h2⟩
      have e1 : T1 p xs ys i j k = decide (p.2.1 + sw p.2.2 (k == 1) + LcP p xs ys (i + 1) j 1 = LcP p xs ys i j k) := if_pos h1
      have e2 : T2 p xs ys i j k = decide (p.2.1 + sw p.2.2 (k == 2) + LcP p xs ys i (j + 1) 2 = LcP p xs ys i j k) := if_pos h2
      rw [e0, e1, e2, stepAt_0 h1 h2, stepAt_1 h1, stepAt_2 h2]
      have dx := List.drop_eq_getElem_cons h1
      have dy := List.drop_eq_getElem_cons h2
      unfold AlP
      rw [dx, dy, allS_cc, List.filter_append, List.filter_append, fil_map (fun r => cst_ko) (ge 0 _ _) s0, fil_map (fun r => cst_out) (by rw [← dy]; exact ge 1 _ _) s1, fil_map (fun r => cst_inn) (by rw [← dx]; exact ge 2 _ _) s2]
    · have s1 : LcP p xs ys i j k ≤ (p.2.1 + sw p.2.2 (k == 1)) + LcP p xs ys (i + 1) j 1 := StepP.le (.inr (.inl ⟨rfl, rfl, rfl, h1, rfl⟩))
      have e0 : T0 p xs ys i j k = false := dif_neg fun z => h2 z.2
      have e1 : T1 p xs ys i j k = decide (p.2.1 + sw p.2.2 (k == 1) + LcP p xs ys (i + 1) j 1 = LcP p xs ys i j k) := if_pos h1
      have e2 : T2 p xs ys i j k = false := if_neg h2
      rw [e0, e1, e2, if_neg Bool.false_ne_true, if_neg Bool.false_ne_true, List.nil_append, List.append_nil, stepAt_1 h1]
      have dx := List.drop_eq_getElem_cons h1
      have dy : ys.drop j = [] := List.drop_of_length_le (by omega)
      unfold AlP
      rw [dx, dy, allS_cn, fil_map (fun r => cst_out) (by rw [← dy]; exact ge 1 _ _) s1]
  · have h2 : j < ys.length := h.resolve_left h1
    have s2 : LcP p xs ys i j k ≤ (p.2.1 + sw p.2.2 (k == 2)) + LcP p xs ys i (j + 1) 2 := StepP.le (.inr (.inr ⟨rfl, rfl, rfl, h2, rfl⟩))
    have e0 : T0 p xs ys i j k = false := dif_neg fun z => h1 z.1
    have e1 : T1 p xs ys i j k = false := if_neg h1
    have e2 : T2 p xs ys i j k = decide (p.2.1 + sw p.2.2 (k == 2) + LcP p xs ys i (j + 1) 2 = LcP p xs ys i j k) := if_pos h2
    rw [e0, e1, e2, if_neg Bool.false_ne_true, if_neg Bool.false_ne_true, List.nil_append, List.nil_append, stepAt_2 h2]
    have dx : xs.drop i = [] := List.drop_of_length_le (by omega)
    have dy := List.drop_eq_getElem_cons h2
    unfold AlP
    rw [dx, dy, allS_nc, fil_map (fun r => cst_inn) (by rw [← dx]; exact ge 2 _ _) s2]
/-- the places that least cost goes on to -/
abbrev PlQ := Nat × Nat × Nat
def nextL (p : V3) (xs ys : List Nat) (i j k : Nat) : List PlQ := (([] ++ if T0 p xs ys i j k = true then [(i + 1, j + 1, 0)] else []) ++ if T1 p xs ys i j k = true then [(i + 1, j, 1)] else []) ++ if T2 p xs ys i j k = true then [(i, j + 1, 2)] else []
def nxD (q : PlQ) : D := .tup [.int (q.2.2 : Nat), pl q.1 q.2.1 q.2.2]
theorem good_next (i j k : Nat) : (goodI p xs ys i j k).map stD = (nextL p xs ys i j k).map nxD := by
  rw [goodI_st]
  unfold nextL
  rw [List.map_append, List.map_append, List.map_append]
  congr 1
  · congr 1
    · congr 1
      split <;> rfl
    · split <;> rfl
  · split <;> rfl
theorem nextL_in {i j k : Nat} (hi : i ≤ xs.length) (hj : j ≤ ys.length) : ∀ q ∈ nextL p xs ys i j k, q.1 ≤ xs.length ∧ q.2.1 ≤ ys.length ∧ q.2.2 ≤ 2 ∧ i + j < q.1 + q.2.1 ∧ i ≤ q.1 ∧ j ≤ q.2.1 ∧ ((q.2.2 = 0 ∧ i < xs.length ∧ j < ys.length ∧ q.1 = i + 1 ∧ q.2.1 = j + 1) ∨ (q.2.2 = 1 ∧ i < xs.length ∧ q.1 = i + 1 ∧ q.2.1 = j) ∨ (q.2.2 = 2 ∧ j < ys.length ∧ q.1 = i ∧ q.2.1 = j + 1)) := by
  intro q hq
  unfold nextL at hq
  rcases List.mem_append.mp hq with hq | hq
  · rcases List.mem_append.mp hq with hq | hq
    · rw [List.nil_append] at hq
      by_cases z : T0 p xs ys i j k = true
      · rw [if_pos z, List.mem_singleton] at hq
        subst hq
        unfold T0 at z
        by_cases c : i < xs.length ∧ j < ys.length
        · refine ⟨by show i + 1 ≤ _; omega, by show j + 1 ≤ _; omega, by show 0 ≤ 2; omega, by show _ < i + 1 + (j + 1); omega, by show _ ≤ i + 1; omega, by show _ ≤ j + 1; omega, .inl ⟨rfl, c.1, c.2, rfl, rfl⟩⟩
        · rw [dif_neg c] at z
          cases z
      · rw [if_neg z] at hq
        cases hq
    · by_cases z : T1 p xs ys i j k = true
      · rw [if_pos z, List.mem_singleton] at hq
        subst hq
        unfold T1 at z
        by_cases c : i < xs.length
        · refine ⟨by show i + 1 ≤ _; omega, by show j ≤ _; omega, by show 1 ≤ 2; omega, by show _ < i + 1 + j; omega, by show _ ≤ i + 1; omega, by show _ ≤ j; omega, .inr (.inl ⟨rfl, c, rfl, rfl⟩)⟩
        · rw [if_neg c] at z
          cases z
      · rw [if_neg z] at hq
        cases hq
  · by_cases z : T2 p xs ys i j k = true
    · rw [if_pos z, List.mem_singleton] at hq
      subst hq
      unfold T2 at z
      by_cases c : j < ys.length
      · refine ⟨by show i ≤ _; omega, by show j + 1 ≤ _; omega, by show 2 ≤ 2; omega, by show _ < i + (j + 1); omega, by show _ ≤ i; omega, by show _ ≤ j + 1; omega, .inr (.inr ⟨rfl, c, rfl, rfl⟩)⟩
      · rw [if_neg c] at z
        cases z
    · rw [if_neg z] at hq
      cases hq
theorem AlP_next (hp : Pos p.1 p.2.1 p.2.2) {i j k : Nat} (h : i < xs.length ∨ j < ys.length) : AlP p xs ys i j k = (nextL p xs ys i j k).flatMap fun q => (AlP p xs ys q.1 q.2.1 q.2.2).map (stepAt xs ys i j q.2.2 :: ·) := by
  rw [AlP_step hp h]
  unfold nextL
  rw [List.flatMap_append, List.flatMap_append, List.nil_append]
  congr 1
  · congr 1
    · split
      · rw [List.flatMap_cons, List.flatMap_nil, List.append_nil]
      · rfl
    · split
      · rw [List.flatMap_cons, List.flatMap_nil, List.append_nil]
      · rfl
  · split
    · rw [List.flatMap_cons, List.flatMap_nil, List.append_nil]
    · rfl
theorem nextL_len (i j k : Nat) : (nextL p xs ys i j k).length ≤ 3 := by
  unfold nextL
  split <;> split <;> split <;> simp
theorem CwP_next (hp : Pos p.1 p.2.1 p.2.2) {i j k : Nat} (h : i < xs.length ∨ j < ys.length) : CwP p xs ys i j k = ((nextL p xs ys i j k).map fun q => CwP p xs ys q.1 q.2.1 q.2.2).sum := by
  unfold CwP
  rw [AlP_next hp h, List.length_flatMap]
  congr 1
  exact List.map_congr_left fun q _ => List.length_map ..
theorem CwP_end {i j k : Nat} (hi : xs.length ≤ i) (hj : ys.length ≤ j) : CwP p xs ys i j k = 1 := by
  unfold CwP
  rw [AlP_end hi hj]
  rfl
end
end PB
set_option Elab.async false
set_option linter.all false
set_option maxRecDepth 10000
set_option maxHeartbeats 4000000
set_option exponentiation.threshold 2000
namespace PB
abbrev EnD := PlQ × D
def kqD (q : PlQ) : D := pl q.1 q.2.1 q.2.2
def lkD : List EnD → PlQ → Option D
  | [], _ => none
  | q :: r, a => if q.1 = a then some q.2 else lkD r a
def repD (L : List EnD) (a : PlQ) (v : D) : List EnD := L.map fun q => if q.1 = a then (q.1, v) else q
def ptD (L : List EnD) (a : PlQ) (v : D) : List EnD := if (lkD L a).isSome = true then repD L a v else L ++ [(a, v)]
theorem eqv_kq (a b : PlQ) : eqv (kqD a) (kqD b) = decide (a = b) := by
  unfold kqD
  rw [eqv_pl]
  refine decide_eq_decide.mpr ⟨fun ⟨h1, h2, h3⟩ => ?_, fun h => by rw [h]; exact ⟨rfl, rfl, rfl⟩⟩
  obtain ⟨a1, a2, a3⟩ := a
  obtain ⟨b1, b2, b3⟩ := b
  dsimp only at h1 h2 h3
  rw [h1, h2, h3]
theorem dGet_lk (L : List EnD) (a : PlQ) : dGet (L.map fun q => kqD q.1) (L.map (·.2)) (kqD a) = lkD L a := by
  induction L with
  | nil => rfl
  | cons q L ih =>
    show (if eqv (kqD q.1) (kqD a) = true then some q.2 else dGet (L.map fun q => kqD q.1) (L.map (·.2)) (kqD a)) = if q.1 = a then some q.2 else lkD L a
    rw [eqv_kq, ih]
    by_cases h : q.1 = a
    · rw [if_pos h, if_pos (decide_eq_true h)]
    · rw [if_neg h, if_neg (by rw [decide_eq_false h]; exact Bool.false_ne_true)]
theorem any_lk (L : List EnD) (a : PlQ) : ((L.map fun q => kqD q.1).any fun q => eqv q (kqD a)) = (lkD L a).isSome := by
  induction L with
  | nil => rfl
  | cons q L ih =>
    rw [List.map_cons, List.any_cons, eqv_kq, ih]
    show _ = (if q.1 = a then some q.2 else lkD L a).isSome
    by_cases h : q.1 = a
    · rw [if_pos h, decide_eq_true h]
      rfl
    · rw [if_neg h, decide_eq_false h, Bool.false_or]
theorem dPut_lk (L : List EnD) (a : PlQ) (v : D) : dPut (L.map fun q => kqD q.1) (L.map (·.2)) (kqD a) v = ((ptD L a v).map fun q => kqD q.1, (ptD L a v).map (·.2)) := by
  unfold dPut ptD
  rw [any_lk]
  by_cases h : (lkD L a).isSome = true
  · rw [if_pos h, if_pos h]
    clear h
    have e1 : ((repD L a v).map fun q => kqD q.1) = L.map fun q => kqD q.1 := by
      unfold repD
      rw [List.map_map]
      refine List.map_congr_left fun q _ => ?_
      show kqD (if q.1 = a then (q.1, v) else q).1 = _
      split <;> rfl
    have e2 : dRep (L.map fun q => kqD q.1) (L.map (·.2)) (kqD a) v = (repD L a v).map (·.2) := by
      induction L with
      | nil => rfl
      | cons q L ih =>
        show (if eqv (kqD q.1) (kqD a) = true then v else q.2) :: dRep (L.map fun q => kqD q.1) (L.map (·.2)) (kqD a) v = (if q.1 = a then (q.1, v) else q).2 :: (repD L a v).map (·.2)
        rw [ih (by
          unfold repD at e1 ⊢
          rw [List.map_cons, List.map_cons, List.map_cons] at e1
          exact (List.cons.inj e1).2), eqv_kq]
        by_cases h : q.1 = a
        · rw [if_pos h, if_pos (decide_eq_true h)]
        · rw [if_neg h, if_neg (by rw [decide_eq_false h]; exact Bool.false_ne_true)]
    rw [e1, e2]
  · rw [if_neg h, if_neg h, List.map_append, List.map_append]
    rfl
theorem lk_rep (L : List EnD) (a : PlQ) (v : D) (b : PlQ) : lkD (repD L a v) b = if a = b then (lkD L a).map (fun _ => v) else lkD L b := by
  induction L with
  | nil => split <;> rfl
  | cons q L ih =>
    show lkD ((if q.1 = a then (q.1, v) else q) :: repD L a v) b = if a = b then (if q.1 = a then some q.2 else lkD L a).map (fun _ => v) else if q.1 = b then some q.2 else lkD L b
    by_cases h : q.1 = a
    · rw [if_pos h, if_pos h]
      show (if q.1 = b then some v else lkD (repD L a v) b) = _
      by_cases e : a = b
      · rw [if_pos e, if_pos (h.trans e)]
        rfl
      · rw [if_neg e, if_neg (fun z => e (h.symm.trans z)), if_neg (fun z => e (h.symm.trans z)), ih, if_neg e]
    · rw [if_neg h, if_neg h]
      show (if q.1 = b then some q.2 else lkD (repD L a v) b) = _
      by_cases e : a = b
      · rw [if_pos e, if_neg (fun z => h (z.trans e.symm)), ih, if_pos e]
      · rw [if_neg e, ih, if_neg e]
theorem lk_app (L : List EnD) (q : EnD) (b : PlQ) : lkD (L ++ [q]) b = if (lkD L b).isSome = true then lkD L b else if q.1 = b then some q.2 else none := by
  induction L with
  | nil => rfl
  | cons r L ih =>
    show (if r.1 = b then some r.2 else lkD (L ++ [q]) b) = if (if r.1 = b then some r.2 else lkD L b).isSome = true then (if r.1 = b then some r.2 else lkD L b) else _
    by_cases h : r.1 = b
    · rw [if_pos h, if_pos h]
      rfl
    · rw [if_neg h, if_neg h]
      exact ih
theorem lk_put (L : List EnD) (a : PlQ) (v : D) (b : PlQ) : lkD (ptD L a v) b = if a = b then some v else lkD L b := by
  unfold ptD
  by_cases h : (lkD L a).isSome = true
  · rw [if_pos h, lk_rep]
    by_cases e : a = b
    · rw [if_pos e, if_pos e]
      cases z : lkD L a with
      | none =>
        rw [z] at h
        cases h
      | some d => rfl
    · rw [if_neg e, if_neg e]
  · rw [if_neg h, lk_app]
    by_cases e : a = b
    · subst e
      rw [if_neg h, if_pos rfl, if_pos rfl]
    · rw [if_neg e, if_neg e]
      cases z : lkD L b with
      | none => rfl
      | some d => rfl
theorem ptD_len (L : List EnD) (a : PlQ) (v : D) : (ptD L a v).length ≤ L.length + 1 := by
  unfold ptD repD
  split
  · rw [List.length_map]
    omega
  · rw [List.length_append]
    exact Nat.le_refl _
theorem kqD_key (a : PlQ) : keyB true (kqD a) = true := rfl
/-- places behind (i, j, k) in the order of the loops -/
def wdn (i j k : Nat) (q : PlQ) : Prop := i < q.1 ∨ (q.1 = i ∧ (j < q.2.1 ∨ (q.2.1 = j ∧ q.2.2 < k)))
def plIn (xs ys : List Nat) (q : PlQ) : Prop := q.1 ≤ xs.length ∧ q.2.1 ≤ ys.length ∧ q.2.2 ≤ 2
structure WyL (w : WS) (S M : List EnD) : Prop where
  e1 : w.sk = S.map fun q => kqD q.1
  e2 : w.sv = S.map (·.2)
  e3 : w.qk = M.map fun q => kqD q.1
  e4 : w.qv = M.map (·.2)
def nxL (p : V3) (xs ys : List Nat) (q : PlQ) : D := .lst ((nextL p xs ys q.1 q.2.1 q.2.2).map nxD)
def cwD (p : V3) (xs ys : List Nat) (q : PlQ) : D := .int (CwP p xs ys q.1 q.2.1 q.2.2 : Nat)
structure WyS (p : V3) (xs ys : List Nat) (dn : PlQ → Prop) (m : Nat) (w : WS) : Prop where
  b : WyB p xs ys w
  ex : ∃ S M : List EnD, WyL w S M ∧ S.length ≤ m ∧ M.length ≤ m ∧ ∀ q, plIn xs ys q → dn q → lkD S q = some (nxL p xs ys q) ∧ lkD M q = some (cwD p xs ys q)
section
variable {γ : Type} {e : Env} {g : GW γ} {p : V3} {xs ys : List Nat} {dn : PlQ → Prop} {S M : List EnD} {d : D}
theorem wyD_S {mo mk : ME (GW γ)} {q : PlQ} (hw : WyL g.2 S M) (h : mo e g = .ok (.dat (.ref g.2.a)) g) (hk : mk e g = .ok (.dat (kqD q)) g) (hl : lkD S q = some d) : mWyD true mo mk e g = .ok (.dat d) g := by
  unfold mWyD
  rw [h, Rs.bind_ok]
  dsimp only
  rw [if_pos rfl, hk, Rs.bind_ok]
  dsimp only
  rw [if_pos (kqD_key q)]
  have : dGet (g.2.keys true) (g.2.vals true) (kqD q) = some d := by
    show dGet g.2.sk g.2.sv _ = _
    rw [hw.e1, hw.e2, dGet_lk]
    exact hl
  rw [this]
  rfl
theorem wyD_M {mo mk : ME (GW γ)} {q : PlQ} (hw : WyL g.2 S M) (h : mo e g = .ok (.dat (.ref g.2.a)) g) (hk : mk e g = .ok (.dat (kqD q)) g) (hl : lkD M q = some d) : mWyD false mo mk e g = .ok (.dat d) g := by
  unfold mWyD
  rw [h, Rs.bind_ok]
  dsimp only
  rw [if_pos rfl, hk, Rs.bind_ok]
  dsimp only
  rw [if_pos (kqD_key q)]
  have : dGet (g.2.keys false) (g.2.vals false) (kqD q) = some d := by
    show dGet g.2.qk g.2.qv _ = _
    rw [hw.e3, hw.e4, dGet_lk]
    exact hl
  rw [this]
  rfl
theorem putS_eq {mo mk ma : ME (GW γ)} {q : PlQ} {ds : List D} (hw : WyL g.2 S M) (ha : ma e g = .ok (.own ds) g) (h : mo e g = .ok (.dat (.ref g.2.a)) g) (hk : mk e g = .ok (.dat (kqD q)) g) (hn : noLDL ds = true) (hl : S.length < SZ) :
    ∃ w', mWyPutS mo mk ma e g = .ok (.nx e) (g.1, w') ∧ w'.a = g.2.a ∧ w'.words = g.2.words ∧ w'.price = g.2.price ∧ w'.rest = g.2.rest ∧ WyL w' (ptD S q (.lst ds)) M := by
  refine ⟨{ g.2 with sk := (dPut g.2.sk g.2.sv (kqD q) (.lst ds)).1, sv := (dPut g.2.sk g.2.sv (kqD q) (.lst ds)).2 }, ?_, rfl, rfl, rfl, rfl, ?_⟩
  · unfold mWyPutS
    rw [ha, Rs.bind_ok]
    dsimp only
    rw [h, Rs.bind_ok]
    dsimp only
    rw [if_pos ⟨rfl, hn⟩, hk, Rs.bind_ok]
    dsimp only
    rw [if_pos ⟨kqD_key q, by rw [hw.e1, List.length_map]; exact hl⟩]
  · have := dPut_lk S q (.lst ds)
    rw [← hw.e1, ← hw.e2] at this
    exact ⟨by show (dPut g.2.sk g.2.sv (kqD q) (.lst ds)).1 = _; rw [this], by show (dPut g.2.sk g.2.sv (kqD q) (.lst ds)).2 = _; rw [this], hw.e3, hw.e4⟩
theorem putM_eq {mo mk ma : ME (GW γ)} {q : PlQ} {r : D} (hw : WyL g.2 S M) (ha : ma e g = .ok (.dat r) g) (h : mo e g = .ok (.dat (.ref g.2.a)) g) (hk : mk e g = .ok (.dat (kqD q)) g) (hn : noLD r = true) (hl : M.length < SZ) :
    ∃ w', mWyPutM mo mk ma e g = .ok (.nx e) (g.1, w') ∧ w'.a = g.2.a ∧ w'.words = g.2.words ∧ w'.price = g.2.price ∧ w'.rest = g.2.rest ∧ WyL w' S (ptD M q r) := by
  refine ⟨{ g.2 with qk := (dPut g.2.qk g.2.qv (kqD q) r).1, qv := (dPut g.2.qk g.2.qv (kqD q) r).2 }, ?_, rfl, rfl, rfl, rfl, ?_⟩
  · unfold mWyPutM
    rw [ha, Rs.bind_ok]
    dsimp only
    rw [h, Rs.bind_ok]
    dsimp only
    rw [if_pos ⟨rfl, hn⟩, hk, Rs.bind_ok]
    dsimp only
    rw [if_pos ⟨kqD_key q, by rw [hw.e3, List.length_map]; exact hl⟩]
  · have := dPut_lk M q r
    rw [← hw.e3, ← hw.e4] at this
    exact ⟨hw.e1, hw.e2, by show (dPut g.2.qk g.2.qv (kqD q) r).1 = _; rw [this], by show (dPut g.2.qk g.2.qv (kqD q) r).2 = _; rw [this]⟩
theorem meth_eq {F : MF (GW γ)} {mo : ME (GW γ)} {mr : MA (GW γ)} {rs : List Rv} {ds : List D} {r : Rv} {g' : GW γ} (h : mo e g = .ok (.dat (.ref g.2.a)) g) (hr : mr e g = .ok rs g) (hs : stoL rs = some ds) (hF : F (.ref g.2.a :: ds) g = .ok r g') : mMeth slW F mo mr e g = .ok r g' := by
  unfold mMeth
  rw [h, Rs.bind_ok]
  dsimp only
  rw [if_pos (by unfold slW; exact beq_self_eq_true _), hr, Rs.bind_ok, hs]
  dsimp only
  rw [hF]
  rfl
theorem wEnd_eq {q : PlQ} {g : GW LS} (hw : WyB p xs ys g.2) : wEndF [.ref g.2.a, kqD q] g = .ok (.dat (.bl (decide (q.1 = xs.length) && decide (q.2.1 = ys.length)))) g := Sat.eq fun Q h => by
  unfold wEndF
  rw [S_def (k := 2) (ds := [.ref g.2.a, kqD q]) rfl]
  show Sat (wEndM [.dat (.ref g.2.a), .dat (kqD q)] g) _
  unfold wEndM
  have e1 : mWyF WS.words (mVar 0) [.dat (.ref g.2.a), .dat (kqD q)] g = .ok (.dat (tw xs ys)) g := by
    rw [wyF_eq rfl, hw.words]
  have t0 : oIx (.dat (tw xs ys)) (.dat (.int 0)) = some (.dat (.str xs)) := rfl
  have t1 : oIx (.dat (tw xs ys)) (.dat (.int 1)) = some (.dat (.str ys)) := rfl
  have k0 : oIx (.dat (kqD q)) (.dat (.int 0)) = some (.dat (.int (q.1 : Nat))) := rfl
  have k1 : oIx (.dat (kqD q)) (.dat (.int 1)) = some (.dat (.int (q.2.1 : Nat))) := rfl
  have dc : ∀ a b : Nat, decide ((a : Int) = (b : Int)) = decide (a = b) := fun a b => decide_eq_decide.mpr ⟨fun h => by omega, fun h => by omega⟩
  rw [S_ret', S_andV]
  simp only [S_op2, S_var, gt, kVar_dat, k2_, S_C, k0, SatO_some, k2b_, S_opN, S_cons, kc_]
  rw [e1, Sat_ok]
  simp only [S_C, k2_, S_op2, t0, SatO_some, k2b_, S_nil, kc_, kcb_, kN_, o_lenS, o_eq]
  rw [dc]
  by_cases c : q.1 = xs.length
  · rw [decide_eq_true c, kAndV_true]
    simp only [S_op2, S_var, gt, kVar_dat, k2_, S_C, k1, SatO_some, k2b_, S_opN, S_cons, kc_]
    rw [e1, Sat_ok]
    simp only [S_C, k2_, S_op2, t1, SatO_some, k2b_, S_nil, kc_, kcb_, kN_, o_lenS, o_eq]
    rw [dc]
    rw [decide_eq_true c, Bool.true_and] at h
    exact h
  · rw [decide_eq_false c, kAndV_false]
    rw [decide_eq_false c, Bool.false_and] at h
    exact h
end
end PB
set_option Elab.async false
set_option linter.all false
set_option maxRecDepth 10000
set_option maxHeartbeats 4000000
set_option exponentiation.threshold 2000
namespace PB
theorem noLD_nx (L : List PlQ) : noLDL (L.map nxD) = true := by
  induction L with
  | nil => rfl
  | cons q L ih =>
    rw [List.map_cons]
    show (noLD (nxD q) && noLDL (L.map nxD)) = true
    rw [ih]
    rfl
theorem dInts_map (L : List Int) : dInts (L.map D.int) = some L := by
  induction L with
  | nil => rfl
  | cons a L ih =>
    rw [List.map_cons]
    show (dInts (L.map D.int)).map (a :: ·) = _
    rw [ih]
    rfl
theorem sum_cast (L : List Nat) : ((L.sum : Nat) : Int) = (L.map fun n : Nat => (n : Int)).sum := by
  induction L with
  | nil => rfl
  | cons a L ih => rw [List.sum_cons, List.map_cons, List.sum_cons, ← ih]; omega
section
variable {b : Nat} {p : V3} {xs ys : List Nat}
theorem wTight_eq {q : PlQ} {g : GW LS} (hl : Lt3 b p) (hb : b ≤ 1000) (hq : plIn xs ys q) (hw : WyB p xs ys g.2) : wTightF [.ref g.2.a, kqD q] g = .ok (.own ((nextL p xs ys q.1 q.2.1 q.2.2).map nxD)) g := Sat.eq fun Q h => by
  refine S_wTight hl hb hq.1 hq.2.1 hq.2.2 hw ?_
  rw [good_next]
  exact h
/-- behind lead_on at a place -/
theorem S_wLead {q : PlQ} {m : Nat} {g : GW LS} {Q : Rv → GW LS → Prop} (hp : Pos p.1 p.2.1 p.2.2) (hl : Lt3 b p) (hb : b ≤ 1000) (hq : plIn xs ys q) (hm : m ≤ 10000) (hw : WyS p xs ys (wdn q.1 q.2.1 q.2.2) m g.2)
    (h : ∀ w', w'.a = g.2.a → WyS p xs ys (wdn q.1 q.2.1 (q.2.2 + 1)) (m + 2) w' → Q (.dat .non) (g.1, w')) : Sat (wLeadF [.ref g.2.a, kqD q] g) Q := by
  obtain ⟨S, M, hL, hS, hMl, hlk⟩ := hw.ex
  unfold wLeadF
  rw [S_def (k := 2) (ds := [.ref g.2.a, kqD q]) rfl]
  show Sat (wLeadM [.dat (.ref g.2.a), .dat (kqD q), .un, .un] g) _
  unfold wLeadM
  rw [S_seq]
  have ht := meth_eq (F := wTightF) (mo := mVar 0) (mr := mCons (mVar 1) mNil) (e := [.dat (.ref g.2.a), .dat (kqD q), .un, .un]) (rs := [.dat (kqD q)]) (ds := [kqD q]) rfl rfl rfl (wTight_eq hl hb hq hw.b)
  obtain ⟨w1, f1, a1, b1, c1, d1, L1⟩ := putS_eq (mo := mVar 0) (mk := mVar 1) (e := [.dat (.ref g.2.a), .dat (kqD q), .un, .un]) hL ht rfl rfl (noLD_nx _) (by show _ < 16777216; omega)
  have B1 : WyB p xs ys w1 := ⟨b1.trans hw.b.words, c1.trans hw.b.price, d1.trans hw.b.rest⟩
  rw [f1, Sat_ok, kS_nx, S_seq]
  -- the sum
  have hnx : lkD (ptD S q (.lst ((nextL p xs ys q.1 q.2.1 q.2.2).map nxD))) q = some (.lst ((nextL p xs ys q.1 q.2.1 q.2.2).map nxD)) := by rw [lk_put, if_pos rfl]
  have hsum : mOpN oSum (mCons (mLc (mItems (mWyD true (mVar 0) (mVar 1))) (tgT [2, 3]) mYes (mWyD false (mVar 0) (mVar 3)) [2, 3]) mNil) [.dat (.ref g.2.a), .dat (kqD q), .un, .un] (g.1, w1) = .ok (.dat (.int (((nextL p xs ys q.1 q.2.1 q.2.2).map fun z => CwP p xs ys z.1 z.2.1 z.2.2).sum : Nat))) (g.1, w1) := Sat.eq fun Q h => by
    rw [S_opN, S_cons, S_lc, S_items]
    have r0 : (mVar 0 : ME (GW LS)) [.dat (.ref g.2.a), .dat (kqD q), .un, .un] (g.1, w1) = .ok (.dat (.ref w1.a)) (g.1, w1) := by
      rw [a1]
      rfl
    rw [wyD_S (g := (g.1, w1)) L1 r0 rfl hnx, Sat_ok, kItems_lst, kLc_]
    simp only [wp, st]
    refine S_lcA (nextL p xs ys q.1 q.2.1 q.2.2) nxD (fun z => .int (CwP p xs ys z.1 z.2.1 z.2.2 : Nat)) (by have := nextL_len (p := p) (xs := xs) (ys := ys) q.1 q.2.1 q.2.2; show _ ≤ 16777216; omega) (fun z hz => ⟨_, rfl, ?_⟩) ?_
    · rw [S_yes]
      refine ⟨rfl, rfl, ?_⟩
      simp only [st]
      have hin := nextL_in hq.1 hq.2.1 z hz
      have hd : wdn q.1 q.2.1 q.2.2 z := by
        unfold wdn
        omega
      have r1 : (mVar 0 : ME (GW LS)) [.dat (.ref g.2.a), .dat (kqD q), .dat (.int (z.2.2 : Nat)), .dat (pl z.1 z.2.1 z.2.2)] (g.1, w1) = .ok (.dat (.ref w1.a)) (g.1, w1) := by
        rw [a1]
        rfl
      have hv := wyD_M (g := (g.1, w1)) (mk := mVar 3) (q := z) L1 r1 rfl (hlk z ⟨hin.1, hin.2.1, hin.2.2.1⟩ hd).2
      rw [hv, Sat_ok]
      exact ⟨rfl, rfl⟩
    · rw [kc_, S_nil, kcb_, kN_, o_sum]
      have e1 : (nextL p xs ys q.1 q.2.1 q.2.2).map (fun z => D.int (CwP p xs ys z.1 z.2.1 z.2.2 : Nat)) = (((nextL p xs ys q.1 q.2.1 q.2.2).map fun z => CwP p xs ys z.1 z.2.1 z.2.2).map fun n : Nat => (n : Int)).map D.int := by
        rw [List.map_map, List.map_map]
        rfl
      rw [e1, dInts_map, map_some', SatO_some, ← sum_cast]
      exact h
  have r0 : (mVar 0 : ME (GW LS)) [.dat (.ref g.2.a), .dat (kqD q), .un, .un] (g.1, w1) = .ok (.dat (.ref w1.a)) (g.1, w1) := by
    rw [a1]
    rfl
  obtain ⟨w2, f2, a2, b2, c2, d2, L2⟩ := putM_eq (g := (g.1, w1)) (mo := mVar 0) (mk := mVar 1) (q := q) (e := [.dat (.ref g.2.a), .dat (kqD q), .un, .un]) L1 hsum r0 rfl rfl (by show _ < 16777216; omega)
  have B2 : WyB p xs ys w2 := ⟨b2.trans B1.words, c2.trans B1.price, d2.trans B1.rest⟩
  rw [f2, Sat_ok, kS_nx, S_ifS, S_tru]
  have a21 : w2.a = g.2.a := a2.trans a1
  have r2 : (mVar 0 : ME (GW LS)) [.dat (.ref g.2.a), .dat (kqD q), .un, .un] (g.1, w2) = .ok (.dat (.ref w2.a)) (g.1, w2) := by
    rw [a21]
    rfl
  have he := meth_eq (g := (g.1, w2)) (F := wEndF) (mo := mVar 0) (mr := mCons (mVar 1) mNil) (e := [.dat (.ref g.2.a), .dat (kqD q), .un, .un]) (rs := [.dat (kqD q)]) (ds := [kqD q]) r2 rfl rfl (wEnd_eq (g := (g.1, w2)) B2)
  rw [he, Sat_ok]
  have hlen1 := ptD_len S q (.lst ((nextL p xs ys q.1 q.2.1 q.2.2).map nxD))
  have hold : ∀ z, plIn xs ys z → wdn q.1 q.2.1 (q.2.2 + 1) z → z ≠ q → wdn q.1 q.2.1 q.2.2 z := fun z _ hz hn => by
    unfold wdn at hz ⊢
    obtain ⟨z1, z2, z3⟩ := z
    obtain ⟨q1, q2, q3⟩ := q
    dsimp only at hz ⊢
    by_cases e : z3 = q3 ∧ z2 = q2 ∧ z1 = q1
    · exact absurd (by rw [e.1, e.2.1, e.2.2]) hn
    · omega
  by_cases hend : q.1 = xs.length ∧ q.2.1 = ys.length
  · rw [decide_eq_true hend.1, decide_eq_true hend.2]
    show Sat (mWyPutM (mVar 0) (mVar 1) (mC (.int 1)) _ _) _
    obtain ⟨w3, f3, a3, b3, c3, d3, L3⟩ := putM_eq (g := (g.1, w2)) (mo := mVar 0) (mk := mVar 1) (ma := mC (.int 1)) (q := q) (r := .int 1) (e := [.dat (.ref g.2.a), .dat (kqD q), .un, .un]) L2 rfl r2 rfl rfl (by
      have := ptD_len M q (.int (((nextL p xs ys q.1 q.2.1 q.2.2).map fun z => CwP p xs ys z.1 z.2.1 z.2.2).sum : Nat))
      show _ < 16777216
      omega)
    rw [f3, Sat_ok, kD_nx]
    refine h w3 (a3.trans a21) ⟨⟨b3.trans B2.words, c3.trans B2.price, d3.trans B2.rest⟩, _, _, L3, by omega, ?_, fun z hz hd => ?_⟩
    · have h1 := ptD_len M q (.int (((nextL p xs ys q.1 q.2.1 q.2.2).map fun z => CwP p xs ys z.1 z.2.1 z.2.2).sum : Nat))
      have h2 := ptD_len (ptD M q (.int (((nextL p xs ys q.1 q.2.1 q.2.2).map fun z => CwP p xs ys z.1 z.2.1 z.2.2).sum : Nat))) q (.int 1)
      omega
    · by_cases e : z = q
      · subst e
        rw [lk_put, if_pos rfl, lk_put, if_pos rfl]
        refine ⟨rfl, ?_⟩
        unfold cwD
        rw [CwP_end (by omega) (by omega)]
        rfl
      · rw [lk_put, if_neg (fun y => e y.symm), lk_put, if_neg (fun y => e y.symm), lk_put, if_neg (fun y => e y.symm)]
        exact hlk z hz (hold z hz hd e)
  · have hb0 : (decide (q.1 = xs.length) && decide (q.2.1 = ys.length)) = false := by
      by_cases c : q.1 = xs.length
      · rw [decide_eq_false (fun z => hend ⟨c, z⟩), Bool.and_false]
      · rw [decide_eq_false c, Bool.false_and]
    rw [hb0]
    show Sat ((mPass : MS (GW LS)) [.dat (.ref g.2.a), .dat (kqD q), .un, .un] (g.1, w2)) (kD Q)
    rw [S_pass, kD_nx]
    have hn : q.1 < xs.length ∨ q.2.1 < ys.length := by
      have h1 := hq.1
      have h2 := hq.2.1
      omega
    refine h w2 a21 ⟨B2, _, _, L2, by omega, ?_, fun z hz hd => ?_⟩
    · have h1 := ptD_len M q (.int (((nextL p xs ys q.1 q.2.1 q.2.2).map fun z => CwP p xs ys z.1 z.2.1 z.2.2).sum : Nat))
      omega
    · by_cases e : z = q
      · subst e
        rw [lk_put, if_pos rfl, lk_put, if_pos rfl]
        refine ⟨rfl, ?_⟩
        unfold cwD
        rw [CwP_next hp hn]
      · rw [lk_put, if_neg (fun y => e y.symm), lk_put, if_neg (fun y => e y.symm)]
        exact hlk z hz (hold z hz hd e)
theorem down_list (n : Nat) : ((List.range (n + 1)).map fun k => D.int ((n : Int) - (k : Nat))) = ((List.range (n + 1)).map fun k => n - k).map fun i : Nat => D.int (i : Nat) := by
  rw [List.map_map]
  refine List.map_congr_left fun k hk => ?_
  have := List.mem_range.mp hk
  show D.int ((n : Int) - (k : Nat)) = D.int ((n - k : Nat) : Int)
  congr 1
  omega
/-- how far down: the first number of what is left to come -/
theorem down_split {n : Nat} {pre post : List Nat} {x : Nat} (h : (List.range (n + 1)).map (fun k => n - k) = pre ++ x :: post) : x = n - pre.length ∧ pre.length ≤ n := by
  have hl : pre.length < ((List.range (n + 1)).map (fun k => n - k)).length := by
    rw [h, List.length_append, List.length_cons]
    omega
  have e : ((List.range (n + 1)).map (fun k => n - k))[pre.length]? = some x := by
    rw [h, List.getElem?_append_right (Nat.le_refl _), Nat.sub_self]
    rfl
  rw [List.length_map, List.length_range] at hl
  rw [List.getElem?_map, List.getElem?_range hl] at e
  cases e
  exact ⟨rfl, by omega⟩
def wEnvL (a : Nat) (xs ys : List Nat) (p : V3) (x4 x5 x6 : Sl) : Env := [.dat (.ref a), .dat (.str xs), .dat (.str ys), .dat (vd p), x4, x5, x6]
theorem WyS.weak {dn dn' : PlQ → Prop} {m m' : Nat} {w : WS} (h : WyS p xs ys dn m w) (k : ∀ q, plIn xs ys q → dn' q → dn q) (hm : m ≤ m') : WyS p xs ys dn' m' w := by
  obtain ⟨S, M, h1, h2, h3, h4⟩ := h.ex
  exact ⟨h.b, S, M, h1, by omega, by omega, fun q hq hd => h4 q hq (k q hq hd)⟩
theorem S_wLast {i j m : Nat} {g : GW LS} {x6 : Sl} {QS : Fl → GW LS → Prop} (hp : Pos p.1 p.2.1 p.2.2) (hl : Lt3 b p) (hb : b ≤ 1000) (hi : i ≤ xs.length) (hj : j ≤ ys.length) (hm : m ≤ 9000) (hw : WyS p xs ys (wdn i j 0) m g.2)
    (h : ∀ w' x6, w'.a = g.2.a → WyS p xs ys (wdn i j 3) (m + 6) w' → QS (.nx (wEnvL g.2.a xs ys p (.dat (.int (i : Nat))) (.dat (.int (j : Nat))) x6)) (g.1, w')) :
    Sat (mFor (mRange1 (mC (.int 3))) (tgN 6) (mDrop (mMeth slW wLeadF (mVar 0) (mCons (mTup (mCons (mVar 4) (mCons (mVar 5) (mCons (mVar 6) mNil)))) mNil))) (wEnvL g.2.a xs ys p (.dat (.int (i : Nat))) (.dat (.int (j : Nat))) x6) g) QS := by
  rw [S_for, S_range1, S_C, kRng_3, kF_]
  show Sat (forL _ _ ([0, 1, 2].map fun k : Nat => D.int (k : Nat)) _ g) QS
  refine S_forA [0, 1, 2] (fun k : Nat => D.int (k : Nat)) (fun pre _ e g' => g'.1 = g.1 ∧ g'.2.a = g.2.a ∧ WyS p xs ys (wdn i j pre.length) (m + 2 * pre.length) g'.2 ∧ ∃ x6, e = wEnvL g.2.a xs ys p (.dat (.int (i : Nat))) (.dat (.int (j : Nat))) x6) ⟨rfl, rfl, hw, _, rfl⟩ ?_ ?_
  · rintro pre k post e g' hsp ⟨h1, h2, h3, x6, rfl⟩
    have hk : k = pre.length ∧ pre.length ≤ 2 := by
      match pre, hsp with
      | [], hsp => exact ⟨(List.cons.inj hsp).1.symm, by decide⟩
      | [_], hsp => exact ⟨(List.cons.inj (List.cons.inj hsp).2).1.symm, by show 1 ≤ 2; omega⟩
      | [_, _], hsp => exact ⟨(List.cons.inj (List.cons.inj (List.cons.inj hsp).2).2).1.symm, by show 2 ≤ 2; omega⟩
      | _ :: _ :: _ :: _, hsp =>
        have := (List.cons.inj (List.cons.inj (List.cons.inj hsp).2).2).2
        simp at this
    obtain ⟨hk, hk2⟩ := hk
    subst hk
    refine ⟨_, rfl, ?_⟩
    have hb := S_wLead (q := (i, j, pre.length)) (m := m + 2 * pre.length) (g := g') (Q := fun r g2 => r = .dat .non ∧ g2.1 = g.1 ∧ g2.2.a = g.2.a ∧ WyS p xs ys (wdn i j (pre.length + 1)) (m + 2 * pre.length + 2) g2.2) hp hl hb ⟨hi, hj, hk2⟩ (by omega) h3 fun w' ha hs => ⟨rfl, h1, ha.trans h2, hs⟩
    obtain ⟨r, g2, e2, rfl, q1, q2, q3⟩ := hb.get
    have r0 : (mVar 0 : ME (GW LS)) (st (wEnvL g.2.a xs ys p (.dat (.int (i : Nat))) (.dat (.int (j : Nat))) x6) 6 (.dat (.int (pre.length : Nat)))) g' = .ok (.dat (.ref g'.2.a)) g' := by
      rw [h2]
      rfl
    have hme := meth_eq (g := g') (F := wLeadF) (mo := mVar 0) (mr := mCons (mTup (mCons (mVar 4) (mCons (mVar 5) (mCons (mVar 6) mNil)))) mNil) (e := st (wEnvL g.2.a xs ys p (.dat (.int (i : Nat))) (.dat (.int (j : Nat))) x6) 6 (.dat (.int (pre.length : Nat)))) (rs := [.dat (kqD (i, j, pre.length))]) (ds := [kqD (i, j, pre.length)]) r0 rfl rfl e2
    have hdrop : mDrop (mMeth slW wLeadF (mVar 0) (mCons (mTup (mCons (mVar 4) (mCons (mVar 5) (mCons (mVar 6) mNil)))) mNil)) (st (wEnvL g.2.a xs ys p (.dat (.int (i : Nat))) (.dat (.int (j : Nat))) x6) 6 (.dat (.int (pre.length : Nat)))) g' = .ok (.nx (st (wEnvL g.2.a xs ys p (.dat (.int (i : Nat))) (.dat (.int (j : Nat))) x6) 6 (.dat (.int (pre.length : Nat))))) g2 := by
      unfold mDrop
      rw [hme]
      rfl
    rw [hdrop, Sat_ok]
    refine ⟨q1, q2, ?_, .dat (.int (pre.length : Nat)), rfl⟩
    rw [List.length_append]
    exact q3.weak (fun _ _ z => z) (by show _ ≤ m + 2 * (pre.length + 1); omega)
  · rintro e ⟨s, w⟩ ⟨h1, h2, h3, x6, rfl⟩
    have h1 : s = g.1 := h1
    subst h1
    exact h w x6 h2 h3
theorem S_wLoop {g : GW LS} {QS : Fl → GW LS → Prop} (hp : Pos p.1 p.2.1 p.2.2) (hl : Lt3 b p) (hb : b ≤ 1000) (hx : xs.length ≤ 30) (hy : ys.length ≤ 30) (hw : WyS p xs ys (fun _ => False) 0 g.2)
    (h : ∀ w' x4 x5 x6, w'.a = g.2.a → WyS p xs ys (fun _ => True) 100000 w' → QS (.nx (wEnvL g.2.a xs ys p x4 x5 x6)) (g.1, w')) : Sat (wLoopM (wEnvL g.2.a xs ys p .un .un .un) g) QS := by
  have o1 : ∀ z : Int, oNeg (.dat (.int z)) = some (.dat (.int (-z))) := fun z => rfl
  unfold wLoopM
  rw [S_for, S_rangeA]
  have l1 : ∀ x4 x5 x6, gt (wEnvL g.2.a xs ys p x4 x5 x6) 1 = .dat (.str xs) := fun _ _ _ => rfl
  have l2 : ∀ x4 x5 x6, gt (wEnvL g.2.a xs ys p x4 x5 x6) 2 = .dat (.str ys) := fun _ _ _ => rfl
  simp only [S_cons, S_opN, S_op1, k1_, o1, S_C, S_var, l1, kVar_dat, kc_, S_nil, kcb_, kN_, o_lenS, SatO_some]
  refine kRA_down (by omega) ?_
  rw [kF_, down_list]
  refine S_forA ((List.range (xs.length + 1)).map fun k => xs.length - k) (fun i : Nat => D.int (i : Nat)) (fun pre _ e g' => g'.1 = g.1 ∧ g'.2.a = g.2.a ∧ WyS p xs ys (fun q => xs.length < q.1 + pre.length) (200 * pre.length) g'.2 ∧ ∃ x4 x5 x6, e = wEnvL g.2.a xs ys p x4 x5 x6)
    ⟨rfl, rfl, hw.weak (fun q hq hd => by have h1 := hq.1; simp only [List.length_nil] at hd; omega) (by omega), _, _, _, rfl⟩ ?_ ?_
  · rintro pre i post e g' hsp ⟨h1, h2, h3, x4, x5, x6, rfl⟩
    obtain ⟨hi, hpl⟩ := down_split hsp
    refine ⟨_, rfl, ?_⟩
    show Sat (mFor _ _ _ (wEnvL g.2.a xs ys p (.dat (.int (i : Nat))) x5 x6) g') _
    rw [S_for, S_rangeA]
    simp only [S_cons, S_opN, S_op1, k1_, o1, S_C, S_var, l2, kVar_dat, kc_, S_nil, kcb_, kN_, o_lenS, SatO_some]
    refine kRA_down (by omega) ?_
    rw [kF_, down_list]
    refine S_forA ((List.range (ys.length + 1)).map fun k => ys.length - k) (fun i : Nat => D.int (i : Nat)) (fun pre2 _ e g2 => g2.1 = g.1 ∧ g2.2.a = g.2.a ∧ WyS p xs ys (fun q => i < q.1 ∨ (q.1 = i ∧ ys.length < q.2.1 + pre2.length)) (200 * pre.length + 6 * pre2.length) g2.2 ∧ ∃ x5 x6, e = wEnvL g.2.a xs ys p (.dat (.int (i : Nat))) x5 x6)
      ⟨h1, h2, h3.weak (fun q hq hd => by have h1 := hq.2.1; simp only [List.length_nil] at hd; omega) (by omega), _, _, rfl⟩ ?_ ?_
    · rintro pre2 j post2 e g2 hsp2 ⟨k1, k2, k3, x5, x6, rfl⟩
      obtain ⟨hj, hpl2⟩ := down_split hsp2
      refine ⟨_, rfl, ?_⟩
      show Sat (mFor _ _ _ (wEnvL g.2.a xs ys p (.dat (.int (i : Nat))) (.dat (.int (j : Nat))) x6) g2) _
      rw [← k2]
      refine S_wLast (m := 200 * pre.length + 6 * pre2.length) hp hl hb (by omega) (by omega) (by omega) (k3.weak (fun q hq hd => by unfold wdn at hd; have := hq.2.1; omega) (Nat.le_refl _)) fun w' x6 ha hs => ?_
      refine ⟨k1, ha, hs.weak (fun q hq hd => ?_) (by rw [List.length_append, List.length_singleton]; omega), .dat (.int (j : Nat)), x6, rfl⟩
      rw [List.length_append, List.length_singleton] at hd
      unfold wdn
      have := hq.2.2
      omega
    · rintro e ⟨s, w⟩ ⟨k1, k2, k3, x5, x6, rfl⟩
      refine ⟨k1, k2, k3.weak (fun q hq hd => ?_) ?_, _, _, _, rfl⟩
      · rw [List.length_append, List.length_singleton] at hd
        have := hq.2.1
        rw [List.length_map, List.length_range]
        omega
      · rw [List.length_append, List.length_singleton, List.length_map, List.length_range]
        omega
  · rintro e ⟨s, w⟩ ⟨h1, h2, h3, x4, x5, x6, rfl⟩
    have h1 : s = g.1 := h1
    subst h1
    refine h w x4 x5 x6 h2 (h3.weak (fun q hq _ => ?_) ?_)
    · rw [List.length_map, List.length_range]
      omega
    · rw [List.length_map, List.length_range]
      omega
end
end PB
set_option Elab.async false
set_option linter.all false
set_option maxRecDepth 10000
set_option maxHeartbeats 4000000
set_option exponentiation.threshold 2000
namespace PB
section
variable {b : Nat} {p : V3} {xs ys : List Nat}
/-- the thing made -/
theorem wM_eq (hp : Pos p.1 p.2.1 p.2.2) (hl : Lt3 b p) (hb : b ≤ 1000) (hx : xs.length ≤ 30) (hy : ys.length ≤ 30) (a : Nat) (s : LS) : ∃ w, wM [.str xs, .str ys, vd p] a s = .ok w s ∧ w.a = a ∧ WyS p xs ys (fun _ => True) 100000 w := by
  have hr : rests_ofF [.str xs, .str ys, vd p] s = .ok (.own ((tab xs.length ys.length (RTv p xs ys)).map .lst)) s := Sat.eq fun Q q => S_rests hp hl hb hx hy q
  have hL := S_wLoop (g := (s, ⟨a, .tup [.str xs, .str ys], vd p, tab xs.length ys.length (RTv p xs ys), [], [], [], []⟩)) (QS := fun f g => (∃ e, f = .nx e) ∧ g.1 = s ∧ g.2.a = a ∧ WyS p xs ys (fun _ => True) 100000 g.2) hp hl hb hx hy ⟨⟨rfl, rfl, rfl⟩, [], [], ⟨rfl, rfl, rfl, rfl⟩, Nat.zero_le _, Nat.zero_le _, fun _ _ z => z.elim⟩ fun w' x4 x5 x6 ha hs => ⟨⟨_, rfl⟩, rfl, ha, hs⟩
  obtain ⟨f, g, e1, ⟨e, rfl⟩, e2, e3, e4⟩ := hL.get
  obtain ⟨s', w⟩ := g
  have e2 : s' = s := e2
  subst e2
  refine ⟨w, ?_, e3, e4⟩
  show mkWy rests_ofF wLoopM 3 [.str xs, .str ys, vd p] a s' = _
  unfold mkWy
  dsimp only
  rw [if_pos ⟨rfl, rfl, rfl⟩, hr]
  dsimp only
  rw [unL_map]
  dsimp only
  have e1 : wLoopM (.dat (.ref a) :: .dat (.str xs) :: .dat (.str ys) :: .dat (vd p) :: List.replicate 3 .un) (s', ⟨a, .tup [.str xs, .str ys], vd p, tab xs.length ys.length (RTv p xs ys), [], [], [], []⟩) = .ok (.nx e) (s', w) := e1
  rw [e1]
abbrev p000 : D := .tup [.int 0, .int 0, .int 0]
theorem CwP_in (hw : WyS p xs ys (fun _ => True) 100000 w) : ∃ S M : List EnD, WyL w S M ∧ ∀ q, plIn xs ys q → lkD S q = some (nxL p xs ys q) ∧ lkD M q = some (cwD p xs ys q) := by
  obtain ⟨S, M, h1, _, _, h4⟩ := hw.ex
  exact ⟨S, M, h1, fun q hq => h4 q hq trivial⟩
theorem wy1_eq {e : Env} {s : LS} {mr : MA LS} {mk : ME LS} (hp : Pos p.1 p.2.1 p.2.2) (hl : Lt3 b p) (hb : b ≤ 1000) (hx : xs.length ≤ 30) (hy : ys.length ≤ 30) (hr : mr e s = .ok [.dat (.str xs), .dat (.str ys), .dat (vd p)] s) (hk : mk e s = .ok (.dat p000) s) :
    mWy1 wM mr mk e s = .ok (.dat (.int (CwP p xs ys 0 0 0 : Nat))) s := by
  unfold mWy1
  rw [hr, Rs.bind_ok]
  show allA _ = _
  refine allA_eq fun a => ?_
  obtain ⟨w, e1, e2, e3⟩ := wM_eq (xs := xs) (ys := ys) hp hl hb hx hy a s
  obtain ⟨S, M, h1, h4⟩ := CwP_in e3
  unfold kWy1
  rw [e1]
  dsimp only
  rw [hk, Rs.bind_ok]
  dsimp only
  rw [if_pos (show keyB true p000 = true from rfl)]
  have : dGet w.qk w.qv p000 = some (.int (CwP p xs ys 0 0 0 : Nat)) := by
    rw [h1.e3, h1.e4]
    exact (dGet_lk M (0, 0, 0)).trans (h4 (0, 0, 0) ⟨Nat.zero_le _, Nat.zero_le _, Nat.zero_le _⟩).2
  rw [this]
  rfl
end
end PB
set_option Elab.async false
set_option linter.all false
set_option maxRecDepth 10000
set_option maxHeartbeats 4000000
set_option exponentiation.threshold 2000
namespace PB
def l_letters2M : MS LS := (mSeq (mSet 1 (mC (.str [97, 98, 99, 100, 101, 102, 103, 104, 105, 106, 107, 108, 109, 110, 111, 112, 113, 114, 115, 116, 117, 118, 119, 120, 121, 122])))
    (mSeq (mSet 2 (mCall drawF (mCons (mVar 0) (mCons (mC (.int 4)) mNil))))
    (mSeq (mSet 3 (mCall drawF (mCons (mVar 0) (mCons (mC (.int 26)) mNil))))
    (mSeq (mSet 4 (mCall drawF (mCons (mVar 0) (mCons (mC (.int 25)) mNil))))
    (mSeq (mSet 4 (mOp2 oMod (mOp2 oAdd (mOp2 oAdd (mVar 3) (mC (.int 1))) (mVar 4)) (mC (.int 26))))
    (mSeq (mIfS (mTest (mOp2 oEq (mVar 2) (mC (.int 3)))) (mRet (mVar 1)) mPass)
    (mRet (mOp2 oIx (mLst (mCons (mOp2 oAdd (mOp2 oIx (mVar 1) (mVar 3)) (mOp2 oIx (mVar 1) (mVar 4))) (mCons (mOp2 oAdd (mOp2 oAdd (mOp2 oIx (mVar 1) (mVar 3)) (mOp2 oIx (mVar 1) (mVar 4))) (mOp2 oIx (mC (.str [97, 113, 122])) (mCall drawF (mCons (mVar 0) (mCons (mC (.int 3)) mNil))))) mNil))) (mOp2 oMod (mVar 2) (mC (.int 2)))))))))))
def l_letters2F : MF LS := mDef 5 1 (l_letters2M)
def l_two2M : MS LS := (mSeq (mSet 2 (mCall l_letters2F (mCons (mVar 0) mNil)))
    (mSeq (mSet 3 (mCall drawF (mCons (mVar 0) (mCons (mC (.int 5)) mNil))))
    (mSeq (mFrz 2) (mSeq (mSet 4 (mCall l_wordF (mCons (mVar 0) (mCons (mVar 1) (mCons (mVar 2) mNil)))))
    (mSeq (mFrz 2) (mSeq (mSet 5 (mCall l_wordF (mCons (mVar 0) (mCons (mVar 1) (mCons (mVar 2) mNil)))))
    (mSeq (mIfS (mTest (mOp2 oEq (mVar 3) (mC (.int 3)))) (mSeq (mFrz 2) (mSeq (mFrz 4) (mSet 5 (mCall l_nearF (mCons (mVar 0) (mCons (mVar 4) (mCons (mVar 1) (mCons (mVar 2) mNil)))))))) mPass)
    (mSeq (mIfS (mTest (mOp2 oEq (mVar 3) (mC (.int 4)))) (mSeq (mFrz 2) (mSeq (mFrz 4) (mSet 5 (mOp1 oRev (mCall l_nearF (mCons (mVar 0) (mCons (mVar 4) (mCons (mVar 1) (mCons (mVar 2) mNil))))))))) mPass)
    (mRet (mTup (mCons (mVar 4) (mCons (mVar 5) mNil))))))))))))
def l_two2F : MF LS := mDef 6 2 (l_two2M)
theorem S_letters2 {a b : Nat} {s : LS} {Q : Rv → LS → Prop} (h : Bud a (b + 4) s) (q : ∀ (L : List Nat) (s' : LS), 0 < L.length → L.length ≤ 26 → (∀ c ∈ L, c ∈ az) → Bud a b s' → Q (.dat (.str L)) s') : Sat (l_letters2F [.ref a] s) Q := by
  unfold l_letters2F
  rw [S_def (k := 1) (ds := [.ref a]) rfl]
  show Sat (l_letters2M [.dat (.ref a), .un, .un, .un, .un] s) _
  unfold l_letters2M
  simp only [S_var, S_C, S_op1, k1_, S_op2, k2_, k2b_, S_nil, S_cons, kc_, kcb_, S_opN, kN_, S_tup, S_lst, kT_u, kL_u, stoL_nil, stoL_dat, stoL_own, consO_some, SatO_some, S_call, kCall_u, S_if, S_ifS, kI_true, kI_false, S_andV, S_orV, kAndV_true, kAndV_false, kOrV_true, kOrV_false, S_test, kTest_, S_tru, kTru_, S_and, S_or, S_not, kAnd_true, kAnd_false, kOr_true, kOr_false, kNot_, S_seq, kS_nx, kS_rt, kS_bk, kS_ct, S_pass, S_set, kSet_dat, kSet_own, S_par, kP_, kPb_, S_ret', kR_, S_retN, S_break, S_cont, S_for, kF_, S_forNil, kFb_nx, kFb_ct, kFb_bk, kFb_rt, S_items, kItems_tup, kItems_lst, kItems_own, S_lc, kLc_, S_lcNil, S_yes, kD_rt, kD_nx, Rv.ret, gt, st, kVar_dat, kVar_own, o_add, o_sub, o_eq, o_ne, o_lt, o_le, o_gt, o_ge, o_eqB, o_neB, o_is2, o_isnot2, o_abs, o_ix, o_ixO, o_ixB, o_ixL, o_tupO, o_isBool, map_some', wp, tgN_, List.length_cons, List.length_nil, Nat.reduceAdd, Nat.reduceLeDiff, true_and, decide_true, decide_false, Bool.not_true, Bool.not_false, o_mul_u, o_div_u, o_mod_u, o_pow_u, o_eqS, o_neS, o_intB, o_lenS, o_lenO, o_lenB, o_iaddI, S_s1, kS1_, kS1b_, S_lm, kLm_bor, kLm_own, kLmb_, S_tab, o_ixT, o_ixS, S_put, kPut_, kPutK_, S_zip2, kZip_, kZipb_tup, o_sum, o_sumB, o_tupB, o_tupL, o_lenT, S_range1, kRng_3, S_tgtL, kTgtL_, List.nil_append, List.cons_append, Nat.reduceLT, SZ, forall_const, true_implies]
  refine S_draw h (by decide) (by decide) fun wy s1 wy0 wy1 h1 => ?_
  simp only [S_var, S_C, S_op1, k1_, S_op2, k2_, k2b_, S_nil, S_cons, kc_, kcb_, S_opN, kN_, S_tup, S_lst, kT_u, kL_u, stoL_nil, stoL_dat, stoL_own, consO_some, SatO_some, S_call, kCall_u, S_if, S_ifS, kI_true, kI_false, S_andV, S_orV, kAndV_true, kAndV_false, kOrV_true, kOrV_false, S_test, kTest_, S_tru, kTru_, S_and, S_or, S_not, kAnd_true, kAnd_false, kOr_true, kOr_false, kNot_, S_seq, kS_nx, kS_rt, kS_bk, kS_ct, S_pass, S_set, kSet_dat, kSet_own, S_par, kP_, kPb_, S_ret', kR_, S_retN, S_break, S_cont, S_for, kF_, S_forNil, kFb_nx, kFb_ct, kFb_bk, kFb_rt, S_items, kItems_tup, kItems_lst, kItems_own, S_lc, kLc_, S_lcNil, S_yes, kD_rt, kD_nx, Rv.ret, gt, st, kVar_dat, kVar_own, o_add, o_sub, o_eq, o_ne, o_lt, o_le, o_gt, o_ge, o_eqB, o_neB, o_is2, o_isnot2, o_abs, o_ix, o_ixO, o_ixB, o_ixL, o_tupO, o_isBool, map_some', wp, tgN_, List.length_cons, List.length_nil, Nat.reduceAdd, Nat.reduceLeDiff, true_and, decide_true, decide_false, Bool.not_true, Bool.not_false, o_mul_u, o_div_u, o_mod_u, o_pow_u, o_eqS, o_neS, o_intB, o_lenS, o_lenO, o_lenB, o_iaddI, S_s1, kS1_, kS1b_, S_lm, kLm_bor, kLm_own, kLmb_, S_tab, o_ixT, o_ixS, S_put, kPut_, kPutK_, S_zip2, kZip_, kZipb_tup, o_sum, o_sumB, o_tupB, o_tupL, o_lenT, S_range1, kRng_3, S_tgtL, kTgtL_, List.nil_append, List.cons_append, Nat.reduceLT, SZ, forall_const, true_implies]
  refine S_draw h1 (by decide) (by decide) fun f s2 f0 f1 h2 => ?_
  simp only [S_var, S_C, S_op1, k1_, S_op2, k2_, k2b_, S_nil, S_cons, kc_, kcb_, S_opN, kN_, S_tup, S_lst, kT_u, kL_u, stoL_nil, stoL_dat, stoL_own, consO_some, SatO_some, S_call, kCall_u, S_if, S_ifS, kI_true, kI_false, S_andV, S_orV, kAndV_true, kAndV_false, kOrV_true, kOrV_false, S_test, kTest_, S_tru, kTru_, S_and, S_or, S_not, kAnd_true, kAnd_false, kOr_true, kOr_false, kNot_, S_seq, kS_nx, kS_rt, kS_bk, kS_ct, S_pass, S_set, kSet_dat, kSet_own, S_par, kP_, kPb_, S_ret', kR_, S_retN, S_break, S_cont, S_for, kF_, S_forNil, kFb_nx, kFb_ct, kFb_bk, kFb_rt, S_items, kItems_tup, kItems_lst, kItems_own, S_lc, kLc_, S_lcNil, S_yes, kD_rt, kD_nx, Rv.ret, gt, st, kVar_dat, kVar_own, o_add, o_sub, o_eq, o_ne, o_lt, o_le, o_gt, o_ge, o_eqB, o_neB, o_is2, o_isnot2, o_abs, o_ix, o_ixO, o_ixB, o_ixL, o_tupO, o_isBool, map_some', wp, tgN_, List.length_cons, List.length_nil, Nat.reduceAdd, Nat.reduceLeDiff, true_and, decide_true, decide_false, Bool.not_true, Bool.not_false, o_mul_u, o_div_u, o_mod_u, o_pow_u, o_eqS, o_neS, o_intB, o_lenS, o_lenO, o_lenB, o_iaddI, S_s1, kS1_, kS1b_, S_lm, kLm_bor, kLm_own, kLmb_, S_tab, o_ixT, o_ixS, S_put, kPut_, kPutK_, S_zip2, kZip_, kZipb_tup, o_sum, o_sumB, o_tupB, o_tupL, o_lenT, S_range1, kRng_3, S_tgtL, kTgtL_, List.nil_append, List.cons_append, Nat.reduceLT, SZ, forall_const, true_implies]
  refine S_draw h2 (by decide) (by decide) fun g s3 g0 g1 h3 => ?_
  simp only [S_var, S_C, S_op1, k1_, S_op2, k2_, k2b_, S_nil, S_cons, kc_, kcb_, S_opN, kN_, S_tup, S_lst, kT_u, kL_u, stoL_nil, stoL_dat, stoL_own, consO_some, SatO_some, S_call, kCall_u, S_if, S_ifS, kI_true, kI_false, S_andV, S_orV, kAndV_true, kAndV_false, kOrV_true, kOrV_false, S_test, kTest_, S_tru, kTru_, S_and, S_or, S_not, kAnd_true, kAnd_false, kOr_true, kOr_false, kNot_, S_seq, kS_nx, kS_rt, kS_bk, kS_ct, S_pass, S_set, kSet_dat, kSet_own, S_par, kP_, kPb_, S_ret', kR_, S_retN, S_break, S_cont, S_for, kF_, S_forNil, kFb_nx, kFb_ct, kFb_bk, kFb_rt, S_items, kItems_tup, kItems_lst, kItems_own, S_lc, kLc_, S_lcNil, S_yes, kD_rt, kD_nx, Rv.ret, gt, st, kVar_dat, kVar_own, o_add, o_sub, o_eq, o_ne, o_lt, o_le, o_gt, o_ge, o_eqB, o_neB, o_is2, o_isnot2, o_abs, o_ix, o_ixO, o_ixB, o_ixL, o_tupO, o_isBool, map_some', wp, tgN_, List.length_cons, List.length_nil, Nat.reduceAdd, Nat.reduceLeDiff, true_and, decide_true, decide_false, Bool.not_true, Bool.not_false, o_mul_u, o_div_u, o_mod_u, o_pow_u, o_eqS, o_neS, o_intB, o_lenS, o_lenO, o_lenB, o_iaddI, S_s1, kS1_, kS1b_, S_lm, kLm_bor, kLm_own, kLmb_, S_tab, o_ixT, o_ixS, S_put, kPut_, kPutK_, S_zip2, kZip_, kZipb_tup, o_sum, o_sumB, o_tupB, o_tupL, o_lenT, S_range1, kRng_3, S_tgtL, kTgtL_, List.nil_append, List.cons_append, Nat.reduceLT, SZ, forall_const, true_implies]
  refine ⟨by decide, ?_⟩
  have m0 := Int.emod_nonneg (f + 1 + g) (show (26 : Int) ≠ 0 by decide)
  have m1 := Int.emod_lt_of_pos (f + 1 + g) (show (0 : Int) < 26 by decide)
  generalize (f + 1 + g) % 26 = m at *
  obtain ⟨c1, k1, e1⟩ := sign_atM (L := [97, 98, 99, 100, 101, 102, 103, 104, 105, 106, 107, 108, 109, 110, 111, 112, 113, 114, 115, 116, 117, 118, 119, 120, 121, 122]) f0 f1
  obtain ⟨c2, k2, e2⟩ := sign_atM (L := [97, 98, 99, 100, 101, 102, 103, 104, 105, 106, 107, 108, 109, 110, 111, 112, 113, 114, 115, 116, 117, 118, 119, 120, 121, 122]) m0 m1
  have a1 : oAdd (.dat (.str [c1])) (.dat (.str [c2])) = some (.dat (.str [c1, c2])) := rfl
  refine kI_d (fun c => ?_) (fun _ => ?_)
  · simp only [S_var, S_C, S_op1, k1_, S_op2, k2_, k2b_, S_nil, S_cons, kc_, kcb_, S_opN, kN_, S_tup, S_lst, kT_u, kL_u, stoL_nil, stoL_dat, stoL_own, consO_some, SatO_some, S_call, kCall_u, S_if, S_ifS, kI_true, kI_false, S_andV, S_orV, kAndV_true, kAndV_false, kOrV_true, kOrV_false, S_test, kTest_, S_tru, kTru_, S_and, S_or, S_not, kAnd_true, kAnd_false, kOr_true, kOr_false, kNot_, S_seq, kS_nx, kS_rt, kS_bk, kS_ct, S_pass, S_set, kSet_dat, kSet_own, S_par, kP_, kPb_, S_ret', kR_, S_retN, S_break, S_cont, S_for, kF_, S_forNil, kFb_nx, kFb_ct, kFb_bk, kFb_rt, S_items, kItems_tup, kItems_lst, kItems_own, S_lc, kLc_, S_lcNil, S_yes, kD_rt, kD_nx, Rv.ret, gt, st, kVar_dat, kVar_own, o_add, o_sub, o_eq, o_ne, o_lt, o_le, o_gt, o_ge, o_eqB, o_neB, o_is2, o_isnot2, o_abs, o_ix, o_ixO, o_ixB, o_ixL, o_tupO, o_isBool, map_some', wp, tgN_, List.length_cons, List.length_nil, Nat.reduceAdd, Nat.reduceLeDiff, true_and, decide_true, decide_false, Bool.not_true, Bool.not_false, o_mul_u, o_div_u, o_mod_u, o_pow_u, o_eqS, o_neS, o_intB, o_lenS, o_lenO, o_lenB, o_iaddI, S_s1, kS1_, kS1b_, S_lm, kLm_bor, kLm_own, kLmb_, S_tab, o_ixT, o_ixS, S_put, kPut_, kPutK_, S_zip2, kZip_, kZipb_tup, o_sum, o_sumB, o_tupB, o_tupL, o_lenT, S_range1, kRng_3, S_tgtL, kTgtL_, List.nil_append, List.cons_append, Nat.reduceLT, SZ, forall_const, true_implies]
    exact q _ s3 (by decide) (by decide) (fun c h => h) (h3.le (by omega))
  · simp only [S_pass, kS_nx, S_ret', S_op2, S_lst, S_cons, S_var, gt, kVar_dat, k2_, S_var, k2b_, e1, SatO_some, e2, a1, S_C, S_call, kc_, S_nil, kcb_, kCall_u, stoL_dat, stoL_nil, consO_some]
    refine S_draw h3 (by decide) (by decide) fun t s4 t0 t1 h4 => ?_
    obtain ⟨c3, k3, e3⟩ := sign_atM (L := [97, 113, 122]) t0 t1
    have a2 : oAdd (.dat (.str [c1, c2])) (.dat (.str [c3])) = some (.dat (.str [c1, c2, c3])) := rfl
    simp only [k2b_, e3, SatO_some, a2, kc_, S_nil, kcb_, kL_u, stoL_dat, stoL_nil, consO_some, List.length_cons, List.length_nil, SZ, k2_, S_op2, S_var, gt, kVar_dat, S_C, o_mod_u]
    refine ⟨by decide, ?_⟩
    have m2 := Int.emod_nonneg wy (show (2 : Int) ≠ 0 by decide)
    have m3 := Int.emod_lt_of_pos wy (show (0 : Int) < 2 by decide)
    have i2 : (wy % 2 = 0 ∨ wy % 2 = 1) := by omega
    rcases i2 with i2 | i2
    · have e4 : oIx (.own [D.str [c1, c2], .str [c1, c2, c3]]) (.dat (.int 0)) = some (.dat (.str [c1, c2])) := rfl
      simp only [o_mod_u, i2, SatO_some, k2b_, e4, kR_, kD_rt, Rv.ret, show ((2 : Int) = 0) = False by simp, if_false]
      refine ⟨by decide, ?_⟩
      exact q [c1, c2] s4 (by show 0 < 2; decide) (by show 2 ≤ 26; decide) (fun c h => by rcases List.mem_cons.mp h with rfl | h; exact k1; rw [List.mem_singleton.mp h]; exact k2) h4
    · have e4 : oIx (.own [D.str [c1, c2], .str [c1, c2, c3]]) (.dat (.int 1)) = some (.dat (.str [c1, c2, c3])) := rfl
      simp only [o_mod_u, i2, SatO_some, k2b_, e4, kR_, kD_rt, Rv.ret, show ((2 : Int) = 0) = False by simp, if_false]
      refine ⟨by decide, ?_⟩
      exact q [c1, c2, c3] s4 (by show 0 < 3; decide) (by show 3 ≤ 26; decide) (fun c h => by
        rcases List.mem_cons.mp h with rfl | h
        · exact k1
        rcases List.mem_cons.mp h with rfl | h
        · exact k2
        rw [List.mem_singleton.mp h]
        have : ∀ c ∈ ([97, 113, 122] : List Nat), c ∈ az := by decide
        exact this _ k3) h4
theorem S_two2 {a b : Nat} {mm : Int} {s : LS} {Q : Rv → LS → Prop} (h : Bud a (b + 60) s) (m0 : 0 ≤ mm) (m1 : mm ≤ 12) (q : ∀ (x y : List Nat) (s' : LS), Wd mm x → Wd mm y → Bud a b s' → Q (.dat (tw x y)) s') : Sat (l_two2F [.ref a, .int mm] s) Q := by
  unfold l_two2F
  rw [S_def (k := 2) (ds := [.ref a, .int mm]) rfl]
  show Sat (l_two2M [.dat (.ref a), .dat (.int mm), .un, .un, .un, .un] s) _
  unfold l_two2M
  simp only [S_var, S_C, S_op1, k1_, S_op2, k2_, k2b_, S_nil, S_cons, kc_, kcb_, S_opN, kN_, S_tup, S_lst, kT_u, kL_u, stoL_nil, stoL_dat, stoL_own, consO_some, SatO_some, S_call, kCall_u, S_if, S_ifS, kI_true, kI_false, S_andV, S_orV, kAndV_true, kAndV_false, kOrV_true, kOrV_false, S_test, kTest_, S_tru, kTru_, S_and, S_or, S_not, kAnd_true, kAnd_false, kOr_true, kOr_false, kNot_, S_seq, kS_nx, kS_rt, kS_bk, kS_ct, S_pass, S_set, kSet_dat, kSet_own, S_par, kP_, kPb_, S_ret', kR_, S_retN, S_break, S_cont, S_for, kF_, S_forNil, kFb_nx, kFb_ct, kFb_bk, kFb_rt, S_items, kItems_tup, kItems_lst, kItems_own, S_lc, kLc_, S_lcNil, S_yes, kD_rt, kD_nx, Rv.ret, gt, st, kVar_dat, kVar_own, o_add, o_sub, o_eq, o_ne, o_lt, o_le, o_gt, o_ge, o_eqB, o_neB, o_is2, o_isnot2, o_abs, o_ix, o_ixO, o_ixB, o_ixL, o_tupO, o_isBool, map_some', wp, tgN_, List.length_cons, List.length_nil, Nat.reduceAdd, Nat.reduceLeDiff, true_and, decide_true, decide_false, Bool.not_true, Bool.not_false, o_mul_u, o_div_u, o_mod_u, o_pow_u, o_eqS, o_neS, o_intB, o_lenS, o_lenO, o_lenB, o_iaddI, S_s1, kS1_, kS1b_, S_lm, kLm_bor, kLm_own, kLmb_, S_tab, o_ixT, o_ixS, S_put, kPut_, kPutK_, S_zip2, kZip_, kZipb_tup, o_sum, o_sumB, o_tupB, o_tupL, o_lenT, S_range1, kRng_3, S_tgtL, kTgtL_, List.nil_append, List.cons_append, Nat.reduceLT, SZ, forall_const, true_implies]
  refine S_letters2 (h.le (show b + 56 + 4 ≤ _ by omega)) fun L s1 L0 L1 La h1 => ?_
  simp only [S_var, S_C, S_op1, k1_, S_op2, k2_, k2b_, S_nil, S_cons, kc_, kcb_, S_opN, kN_, S_tup, S_lst, kT_u, kL_u, stoL_nil, stoL_dat, stoL_own, consO_some, SatO_some, S_call, kCall_u, S_if, S_ifS, kI_true, kI_false, S_andV, S_orV, kAndV_true, kAndV_false, kOrV_true, kOrV_false, S_test, kTest_, S_tru, kTru_, S_and, S_or, S_not, kAnd_true, kAnd_false, kOr_true, kOr_false, kNot_, S_seq, kS_nx, kS_rt, kS_bk, kS_ct, S_pass, S_set, kSet_dat, kSet_own, S_par, kP_, kPb_, S_ret', kR_, S_retN, S_break, S_cont, S_for, kF_, S_forNil, kFb_nx, kFb_ct, kFb_bk, kFb_rt, S_items, kItems_tup, kItems_lst, kItems_own, S_lc, kLc_, S_lcNil, S_yes, kD_rt, kD_nx, Rv.ret, gt, st, kVar_dat, kVar_own, o_add, o_sub, o_eq, o_ne, o_lt, o_le, o_gt, o_ge, o_eqB, o_neB, o_is2, o_isnot2, o_abs, o_ix, o_ixO, o_ixB, o_ixL, o_tupO, o_isBool, map_some', wp, tgN_, List.length_cons, List.length_nil, Nat.reduceAdd, Nat.reduceLeDiff, true_and, decide_true, decide_false, Bool.not_true, Bool.not_false, o_mul_u, o_div_u, o_mod_u, o_pow_u, o_eqS, o_neS, o_intB, o_lenS, o_lenO, o_lenB, o_iaddI, S_s1, kS1_, kS1b_, S_lm, kLm_bor, kLm_own, kLmb_, S_tab, o_ixT, o_ixS, S_put, kPut_, kPutK_, S_zip2, kZip_, kZipb_tup, o_sum, o_sumB, o_tupB, o_tupL, o_lenT, S_range1, kRng_3, S_tgtL, kTgtL_, List.nil_append, List.cons_append, Nat.reduceLT, SZ, forall_const, true_implies]
  refine S_draw (h1.le (show b + 55 + 1 ≤ _ by omega)) (by decide) (by decide) fun wy s2 wy0 wy1 h2 => ?_
  simp only [S_var, S_C, S_op1, k1_, S_op2, k2_, k2b_, S_nil, S_cons, kc_, kcb_, S_opN, kN_, S_tup, S_lst, kT_u, kL_u, stoL_nil, stoL_dat, stoL_own, consO_some, SatO_some, S_call, kCall_u, S_if, S_ifS, kI_true, kI_false, S_andV, S_orV, kAndV_true, kAndV_false, kOrV_true, kOrV_false, S_test, kTest_, S_tru, kTru_, S_and, S_or, S_not, kAnd_true, kAnd_false, kOr_true, kOr_false, kNot_, S_seq, kS_nx, kS_rt, kS_bk, kS_ct, S_pass, S_set, kSet_dat, kSet_own, S_par, kP_, kPb_, S_ret', kR_, S_retN, S_break, S_cont, S_for, kF_, S_forNil, kFb_nx, kFb_ct, kFb_bk, kFb_rt, S_items, kItems_tup, kItems_lst, kItems_own, S_lc, kLc_, S_lcNil, S_yes, kD_rt, kD_nx, Rv.ret, gt, st, kVar_dat, kVar_own, o_add, o_sub, o_eq, o_ne, o_lt, o_le, o_gt, o_ge, o_eqB, o_neB, o_is2, o_isnot2, o_abs, o_ix, o_ixO, o_ixB, o_ixL, o_tupO, o_isBool, map_some', wp, tgN_, List.length_cons, List.length_nil, Nat.reduceAdd, Nat.reduceLeDiff, true_and, decide_true, decide_false, Bool.not_true, Bool.not_false, o_mul_u, o_div_u, o_mod_u, o_pow_u, o_eqS, o_neS, o_intB, o_lenS, o_lenO, o_lenB, o_iaddI, S_s1, kS1_, kS1b_, S_lm, kLm_bor, kLm_own, kLmb_, S_tab, o_ixT, o_ixS, S_put, kPut_, kPutK_, S_zip2, kZip_, kZipb_tup, o_sum, o_sumB, o_tupB, o_tupL, o_lenT, S_range1, kRng_3, S_tgtL, kTgtL_, List.nil_append, List.cons_append, Nat.reduceLT, SZ, forall_const, true_implies]
  rw [S_frz_dat rfl]
  simp only [S_var, S_C, S_op1, k1_, S_op2, k2_, k2b_, S_nil, S_cons, kc_, kcb_, S_opN, kN_, S_tup, S_lst, kT_u, kL_u, stoL_nil, stoL_dat, stoL_own, consO_some, SatO_some, S_call, kCall_u, S_if, S_ifS, kI_true, kI_false, S_andV, S_orV, kAndV_true, kAndV_false, kOrV_true, kOrV_false, S_test, kTest_, S_tru, kTru_, S_and, S_or, S_not, kAnd_true, kAnd_false, kOr_true, kOr_false, kNot_, S_seq, kS_nx, kS_rt, kS_bk, kS_ct, S_pass, S_set, kSet_dat, kSet_own, S_par, kP_, kPb_, S_ret', kR_, S_retN, S_break, S_cont, S_for, kF_, S_forNil, kFb_nx, kFb_ct, kFb_bk, kFb_rt, S_items, kItems_tup, kItems_lst, kItems_own, S_lc, kLc_, S_lcNil, S_yes, kD_rt, kD_nx, Rv.ret, gt, st, kVar_dat, kVar_own, o_add, o_sub, o_eq, o_ne, o_lt, o_le, o_gt, o_ge, o_eqB, o_neB, o_is2, o_isnot2, o_abs, o_ix, o_ixO, o_ixB, o_ixL, o_tupO, o_isBool, map_some', wp, tgN_, List.length_cons, List.length_nil, Nat.reduceAdd, Nat.reduceLeDiff, true_and, decide_true, decide_false, Bool.not_true, Bool.not_false, o_mul_u, o_div_u, o_mod_u, o_pow_u, o_eqS, o_neS, o_intB, o_lenS, o_lenO, o_lenB, o_iaddI, S_s1, kS1_, kS1b_, S_lm, kLm_bor, kLm_own, kLmb_, S_tab, o_ixT, o_ixS, S_put, kPut_, kPutK_, S_zip2, kZip_, kZipb_tup, o_sum, o_sumB, o_tupB, o_tupL, o_lenT, S_range1, kRng_3, S_tgtL, kTgtL_, List.nil_append, List.cons_append, Nat.reduceLT, SZ, forall_const, true_implies]
  refine S_word (h2.le (show b + 41 + 14 ≤ _ by omega)) m0 m1 L0 L1 La fun x s3 x0 x1 h3 => ?_
  simp only [S_var, S_C, S_op1, k1_, S_op2, k2_, k2b_, S_nil, S_cons, kc_, kcb_, S_opN, kN_, S_tup, S_lst, kT_u, kL_u, stoL_nil, stoL_dat, stoL_own, consO_some, SatO_some, S_call, kCall_u, S_if, S_ifS, kI_true, kI_false, S_andV, S_orV, kAndV_true, kAndV_false, kOrV_true, kOrV_false, S_test, kTest_, S_tru, kTru_, S_and, S_or, S_not, kAnd_true, kAnd_false, kOr_true, kOr_false, kNot_, S_seq, kS_nx, kS_rt, kS_bk, kS_ct, S_pass, S_set, kSet_dat, kSet_own, S_par, kP_, kPb_, S_ret', kR_, S_retN, S_break, S_cont, S_for, kF_, S_forNil, kFb_nx, kFb_ct, kFb_bk, kFb_rt, S_items, kItems_tup, kItems_lst, kItems_own, S_lc, kLc_, S_lcNil, S_yes, kD_rt, kD_nx, Rv.ret, gt, st, kVar_dat, kVar_own, o_add, o_sub, o_eq, o_ne, o_lt, o_le, o_gt, o_ge, o_eqB, o_neB, o_is2, o_isnot2, o_abs, o_ix, o_ixO, o_ixB, o_ixL, o_tupO, o_isBool, map_some', wp, tgN_, List.length_cons, List.length_nil, Nat.reduceAdd, Nat.reduceLeDiff, true_and, decide_true, decide_false, Bool.not_true, Bool.not_false, o_mul_u, o_div_u, o_mod_u, o_pow_u, o_eqS, o_neS, o_intB, o_lenS, o_lenO, o_lenB, o_iaddI, S_s1, kS1_, kS1b_, S_lm, kLm_bor, kLm_own, kLmb_, S_tab, o_ixT, o_ixS, S_put, kPut_, kPutK_, S_zip2, kZip_, kZipb_tup, o_sum, o_sumB, o_tupB, o_tupL, o_lenT, S_range1, kRng_3, S_tgtL, kTgtL_, List.nil_append, List.cons_append, Nat.reduceLT, SZ, forall_const, true_implies]
  rw [S_frz_dat rfl]
  simp only [S_var, S_C, S_op1, k1_, S_op2, k2_, k2b_, S_nil, S_cons, kc_, kcb_, S_opN, kN_, S_tup, S_lst, kT_u, kL_u, stoL_nil, stoL_dat, stoL_own, consO_some, SatO_some, S_call, kCall_u, S_if, S_ifS, kI_true, kI_false, S_andV, S_orV, kAndV_true, kAndV_false, kOrV_true, kOrV_false, S_test, kTest_, S_tru, kTru_, S_and, S_or, S_not, kAnd_true, kAnd_false, kOr_true, kOr_false, kNot_, S_seq, kS_nx, kS_rt, kS_bk, kS_ct, S_pass, S_set, kSet_dat, kSet_own, S_par, kP_, kPb_, S_ret', kR_, S_retN, S_break, S_cont, S_for, kF_, S_forNil, kFb_nx, kFb_ct, kFb_bk, kFb_rt, S_items, kItems_tup, kItems_lst, kItems_own, S_lc, kLc_, S_lcNil, S_yes, kD_rt, kD_nx, Rv.ret, gt, st, kVar_dat, kVar_own, o_add, o_sub, o_eq, o_ne, o_lt, o_le, o_gt, o_ge, o_eqB, o_neB, o_is2, o_isnot2, o_abs, o_ix, o_ixO, o_ixB, o_ixL, o_tupO, o_isBool, map_some', wp, tgN_, List.length_cons, List.length_nil, Nat.reduceAdd, Nat.reduceLeDiff, true_and, decide_true, decide_false, Bool.not_true, Bool.not_false, o_mul_u, o_div_u, o_mod_u, o_pow_u, o_eqS, o_neS, o_intB, o_lenS, o_lenO, o_lenB, o_iaddI, S_s1, kS1_, kS1b_, S_lm, kLm_bor, kLm_own, kLmb_, S_tab, o_ixT, o_ixS, S_put, kPut_, kPutK_, S_zip2, kZip_, kZipb_tup, o_sum, o_sumB, o_tupB, o_tupL, o_lenT, S_range1, kRng_3, S_tgtL, kTgtL_, List.nil_append, List.cons_append, Nat.reduceLT, SZ, forall_const, true_implies]
  refine S_word (h3.le (show b + 27 + 14 ≤ _ by omega)) m0 m1 L0 L1 La fun y s4 y0 y1 h4 => ?_
  simp only [S_var, S_C, S_op1, k1_, S_op2, k2_, k2b_, S_nil, S_cons, kc_, kcb_, S_opN, kN_, S_tup, S_lst, kT_u, kL_u, stoL_nil, stoL_dat, stoL_own, consO_some, SatO_some, S_call, kCall_u, S_if, S_ifS, kI_true, kI_false, S_andV, S_orV, kAndV_true, kAndV_false, kOrV_true, kOrV_false, S_test, kTest_, S_tru, kTru_, S_and, S_or, S_not, kAnd_true, kAnd_false, kOr_true, kOr_false, kNot_, S_seq, kS_nx, kS_rt, kS_bk, kS_ct, S_pass, S_set, kSet_dat, kSet_own, S_par, kP_, kPb_, S_ret', kR_, S_retN, S_break, S_cont, S_for, kF_, S_forNil, kFb_nx, kFb_ct, kFb_bk, kFb_rt, S_items, kItems_tup, kItems_lst, kItems_own, S_lc, kLc_, S_lcNil, S_yes, kD_rt, kD_nx, Rv.ret, gt, st, kVar_dat, kVar_own, o_add, o_sub, o_eq, o_ne, o_lt, o_le, o_gt, o_ge, o_eqB, o_neB, o_is2, o_isnot2, o_abs, o_ix, o_ixO, o_ixB, o_ixL, o_tupO, o_isBool, map_some', wp, tgN_, List.length_cons, List.length_nil, Nat.reduceAdd, Nat.reduceLeDiff, true_and, decide_true, decide_false, Bool.not_true, Bool.not_false, o_mul_u, o_div_u, o_mod_u, o_pow_u, o_eqS, o_neS, o_intB, o_lenS, o_lenO, o_lenB, o_iaddI, S_s1, kS1_, kS1b_, S_lm, kLm_bor, kLm_own, kLmb_, S_tab, o_ixT, o_ixS, S_put, kPut_, kPutK_, S_zip2, kZip_, kZipb_tup, o_sum, o_sumB, o_tupB, o_tupL, o_lenT, S_range1, kRng_3, S_tgtL, kTgtL_, List.nil_append, List.cons_append, Nat.reduceLT, SZ, forall_const, true_implies]
  have tail : ∀ (y : List Nat) (s' : LS), Wd mm y → Bud a (b + 13) s' → Sat ((mSeq (mIfS (mTest (mOp2 oEq (mVar 3) (mC (.int 4)))) (mSeq (mFrz 2) (mSeq (mFrz 4) (mSet 5 (mOp1 oRev (mCall l_nearF (mCons (mVar 0) (mCons (mVar 4) (mCons (mVar 1) (mCons (mVar 2) mNil))))))))) mPass)
    (mRet (mTup (mCons (mVar 4) (mCons (mVar 5) mNil))))) [.dat (.ref a), .dat (.int mm), .dat (.str L), .dat (.int wy), .dat (.str x), .dat (.str y)] s') (kD Q) := by
    intro y s' hy hB
    simp only [S_var, S_C, S_op1, k1_, S_op2, k2_, k2b_, S_nil, S_cons, kc_, kcb_, S_opN, kN_, S_tup, S_lst, kT_u, kL_u, stoL_nil, stoL_dat, stoL_own, consO_some, SatO_some, S_call, kCall_u, S_if, S_ifS, kI_true, kI_false, S_andV, S_orV, kAndV_true, kAndV_false, kOrV_true, kOrV_false, S_test, kTest_, S_tru, kTru_, S_and, S_or, S_not, kAnd_true, kAnd_false, kOr_true, kOr_false, kNot_, S_seq, kS_nx, kS_rt, kS_bk, kS_ct, S_pass, S_set, kSet_dat, kSet_own, S_par, kP_, kPb_, S_ret', kR_, S_retN, S_break, S_cont, S_for, kF_, S_forNil, kFb_nx, kFb_ct, kFb_bk, kFb_rt, S_items, kItems_tup, kItems_lst, kItems_own, S_lc, kLc_, S_lcNil, S_yes, kD_rt, kD_nx, Rv.ret, gt, st, kVar_dat, kVar_own, o_add, o_sub, o_eq, o_ne, o_lt, o_le, o_gt, o_ge, o_eqB, o_neB, o_is2, o_isnot2, o_abs, o_ix, o_ixO, o_ixB, o_ixL, o_tupO, o_isBool, map_some', wp, tgN_, List.length_cons, List.length_nil, Nat.reduceAdd, Nat.reduceLeDiff, true_and, decide_true, decide_false, Bool.not_true, Bool.not_false, o_mul_u, o_div_u, o_mod_u, o_pow_u, o_eqS, o_neS, o_intB, o_lenS, o_lenO, o_lenB, o_iaddI, S_s1, kS1_, kS1b_, S_lm, kLm_bor, kLm_own, kLmb_, S_tab, o_ixT, o_ixS, S_put, kPut_, kPutK_, S_zip2, kZip_, kZipb_tup, o_sum, o_sumB, o_tupB, o_tupL, o_lenT, S_range1, kRng_3, S_tgtL, kTgtL_, List.nil_append, List.cons_append, Nat.reduceLT, SZ, forall_const, true_implies]
    refine kI_d (fun _ => ?_) (fun _ => ?_)
    · rw [S_seq, S_frz_dat rfl, kS_nx, S_seq, S_frz_dat rfl, kS_nx]
      simp only [S_set, S_op1, S_call, S_cons, S_nil, S_var, gt, kVar_dat, kc_, kcb_, kCall_u, stoL_dat, stoL_nil, consO_some, SatO_some]
      refine S_near hB m0 m1 ⟨x0, x1⟩ L0 L1 La fun y s5 hy h5 => ?_
      simp only [S_var, S_C, S_op1, k1_, S_op2, k2_, k2b_, S_nil, S_cons, kc_, kcb_, S_opN, kN_, S_tup, S_lst, kT_u, kL_u, stoL_nil, stoL_dat, stoL_own, consO_some, SatO_some, S_call, kCall_u, S_if, S_ifS, kI_true, kI_false, S_andV, S_orV, kAndV_true, kAndV_false, kOrV_true, kOrV_false, S_test, kTest_, S_tru, kTru_, S_and, S_or, S_not, kAnd_true, kAnd_false, kOr_true, kOr_false, kNot_, S_seq, kS_nx, kS_rt, kS_bk, kS_ct, S_pass, S_set, kSet_dat, kSet_own, S_par, kP_, kPb_, S_ret', kR_, S_retN, S_break, S_cont, S_for, kF_, S_forNil, kFb_nx, kFb_ct, kFb_bk, kFb_rt, S_items, kItems_tup, kItems_lst, kItems_own, S_lc, kLc_, S_lcNil, S_yes, kD_rt, kD_nx, Rv.ret, gt, st, kVar_dat, kVar_own, o_add, o_sub, o_eq, o_ne, o_lt, o_le, o_gt, o_ge, o_eqB, o_neB, o_is2, o_isnot2, o_abs, o_ix, o_ixO, o_ixB, o_ixL, o_tupO, o_isBool, map_some', wp, tgN_, List.length_cons, List.length_nil, Nat.reduceAdd, Nat.reduceLeDiff, true_and, decide_true, decide_false, Bool.not_true, Bool.not_false, o_mul_u, o_div_u, o_mod_u, o_pow_u, o_eqS, o_neS, o_intB, o_lenS, o_lenO, o_lenB, o_iaddI, S_s1, kS1_, kS1b_, S_lm, kLm_bor, kLm_own, kLmb_, S_tab, o_ixT, o_ixS, S_put, kPut_, kPutK_, S_zip2, kZip_, kZipb_tup, o_sum, o_sumB, o_tupB, o_tupL, o_lenT, S_range1, kRng_3, S_tgtL, kTgtL_, List.nil_append, List.cons_append, Nat.reduceLT, SZ, forall_const, true_implies, o_revS]
      exact q x y.reverse s5 ⟨x0, x1⟩ ⟨by rw [List.length_reverse]; exact hy.1, fun c hc => hy.2 c (List.mem_reverse.mp hc)⟩ h5
    · simp only [S_var, S_C, S_op1, k1_, S_op2, k2_, k2b_, S_nil, S_cons, kc_, kcb_, S_opN, kN_, S_tup, S_lst, kT_u, kL_u, stoL_nil, stoL_dat, stoL_own, consO_some, SatO_some, S_call, kCall_u, S_if, S_ifS, kI_true, kI_false, S_andV, S_orV, kAndV_true, kAndV_false, kOrV_true, kOrV_false, S_test, kTest_, S_tru, kTru_, S_and, S_or, S_not, kAnd_true, kAnd_false, kOr_true, kOr_false, kNot_, S_seq, kS_nx, kS_rt, kS_bk, kS_ct, S_pass, S_set, kSet_dat, kSet_own, S_par, kP_, kPb_, S_ret', kR_, S_retN, S_break, S_cont, S_for, kF_, S_forNil, kFb_nx, kFb_ct, kFb_bk, kFb_rt, S_items, kItems_tup, kItems_lst, kItems_own, S_lc, kLc_, S_lcNil, S_yes, kD_rt, kD_nx, Rv.ret, gt, st, kVar_dat, kVar_own, o_add, o_sub, o_eq, o_ne, o_lt, o_le, o_gt, o_ge, o_eqB, o_neB, o_is2, o_isnot2, o_abs, o_ix, o_ixO, o_ixB, o_ixL, o_tupO, o_isBool, map_some', wp, tgN_, List.length_cons, List.length_nil, Nat.reduceAdd, Nat.reduceLeDiff, true_and, decide_true, decide_false, Bool.not_true, Bool.not_false, o_mul_u, o_div_u, o_mod_u, o_pow_u, o_eqS, o_neS, o_intB, o_lenS, o_lenO, o_lenB, o_iaddI, S_s1, kS1_, kS1b_, S_lm, kLm_bor, kLm_own, kLmb_, S_tab, o_ixT, o_ixS, S_put, kPut_, kPutK_, S_zip2, kZip_, kZipb_tup, o_sum, o_sumB, o_tupB, o_tupL, o_lenT, S_range1, kRng_3, S_tgtL, kTgtL_, List.nil_append, List.cons_append, Nat.reduceLT, SZ, forall_const, true_implies]
      exact q x y s' ⟨x0, x1⟩ hy (hB.le (by omega))
  refine kI_d (fun _ => ?_) (fun _ => ?_)
  · rw [S_seq, S_frz_dat rfl, kS_nx, S_seq, S_frz_dat rfl, kS_nx]
    simp only [S_set, S_call, S_cons, S_nil, S_var, gt, kVar_dat, kc_, kcb_, kCall_u, stoL_dat, stoL_nil, consO_some, SatO_some]
    refine S_near (h4.le (show b + 13 + 13 ≤ _ by omega)) m0 m1 ⟨x0, x1⟩ L0 L1 La fun y s5 hy h5 => ?_
    rw [kSet_dat, kS_nx]
    exact tail y s5 hy h5
  · rw [S_pass, kS_nx]
    exact tail y s4 ⟨y0, y1⟩ (h4.le (by omega))
end PB
set_option Elab.async false
set_option linter.all false
set_option maxRecDepth 10000
set_option maxHeartbeats 4000000
set_option exponentiation.threshold 2000
namespace PB
def det (a b c : V3) : Int := a.1 * (b.2.1 * c.2.2 - b.2.2 * c.2.1) - a.2.1 * (b.1 * c.2.2 - b.2.2 * c.1) + a.2.2 * (b.1 * c.2.1 - b.2.1 * c.1)
theorem det_cyc (a b c : V3) : det a b c = det b c a := by unfold det; grind
theorem det_aab (a b : V3) : det a a b = 0 := by unfold det; grind
/-- between two: some times the one and some times the other -/
def Cmb (x a b : V3) : Prop := ∃ g p q : Int, 0 < g ∧ 0 < p ∧ 0 < q ∧ g * x.1 = p * a.1 + q * b.1 ∧ g * x.2.1 = p * a.2.1 + q * b.2.1 ∧ g * x.2.2 = p * a.2.2 + q * b.2.2
theorem det_comb {a b x u v : V3} {g p q : Int} (h1 : g * x.1 = p * a.1 + q * b.1) (h2 : g * x.2.1 = p * a.2.1 + q * b.2.1) (h3 : g * x.2.2 = p * a.2.2 + q * b.2.2) : g * det x u v = p * det a u v + q * det b u v := by unfold det; grind
theorem nn_of {g z : Int} (hg : 0 < g) (h : 0 ≤ g * z) : 0 ≤ z := by
  rcases Int.lt_or_le z 0 with hz | hz
  · have := Int.mul_neg_of_pos_of_neg hg hz
    omega
  · exact hz
theorem Cmb.nn {x a b u v : V3} (h : Cmb x a b) (h1 : 0 ≤ det a u v) (h2 : 0 ≤ det b u v) : 0 ≤ det x u v := by
  obtain ⟨g, p, q, hg, hp, hq, e1, e2, e3⟩ := h
  refine nn_of hg ?_
  rw [det_comb e1 e2 e3]
  exact Int.add_nonneg (Int.mul_nonneg (Int.le_of_lt hp) h1) (Int.mul_nonneg (Int.le_of_lt hq) h2)
def Tri : List V3 → Prop
  | [] => True
  | a :: r => r.Pairwise (fun b c => 0 ≤ det a b c) ∧ Tri r
theorem Tri.snoc {a : V3} : ∀ {l : List V3}, Tri (l ++ [a]) ↔ Tri l ∧ l.Pairwise (fun b c => 0 ≤ det b c a)
  | [] => ⟨fun _ => ⟨trivial, .nil⟩, fun _ => ⟨.nil, trivial⟩⟩
  | b :: l => by
    show (l ++ [a]).Pairwise _ ∧ Tri (l ++ [a]) ↔ (l.Pairwise _ ∧ Tri l) ∧ (b :: l).Pairwise _
    rw [Tri.snoc (l := l), List.pairwise_append, List.pairwise_cons (a := b) (l := l)]
    constructor
    · intro ⟨⟨h1, _, h2⟩, h3, h4⟩
      exact ⟨⟨h1, h3⟩, ⟨fun u hu => h2 u hu a (List.mem_singleton.mpr rfl), h4⟩⟩
    · intro ⟨⟨h1, h3⟩, ⟨h2, h4⟩⟩
      exact ⟨⟨h1, List.pairwise_singleton _ _, fun u hu v hv => by rw [List.mem_singleton.mp hv]; exact h2 u hu⟩, h3, h4⟩
theorem Tri.rot1 {a : V3} {l : List V3} : Tri (a :: l) ↔ Tri (l ++ [a]) := by
  rw [Tri.snoc]
  constructor
  · rintro ⟨h1, h2⟩
    exact ⟨h2, h1.imp fun {b c} h => by rw [← det_cyc]; exact h⟩
  · rintro ⟨h2, h1⟩
    exact ⟨h1.imp fun {b c} h => by rw [det_cyc]; exact h, h2⟩
theorem Tri.rot : ∀ {l m : List V3}, Tri (l ++ m) → Tri (m ++ l)
  | [], m, h => by rw [List.append_nil]; exact h
  | a :: l, m, h => by
    have h1 : Tri (l ++ (m ++ [a])) := by
      rw [← List.append_assoc]
      exact Tri.rot1.mp h
    have := Tri.rot h1
    rw [List.append_assoc] at this
    exact this
theorem Tri.ins0 {a b x : V3} {m : List V3} (h : Tri (a :: b :: m)) (c : Cmb x a b) : Tri (a :: x :: b :: m) := by
  obtain ⟨h1, h2, h3⟩ := h
  have h1' := List.pairwise_cons.mp h1
  have av : ∀ v ∈ m, 0 ≤ det a x v := fun v hv => by
    have : 0 ≤ det x v a := c.nn (by rw [← det_cyc, det_aab]; exact Int.le_refl _) (by rw [← det_cyc]; exact h1'.1 v hv)
    rw [det_cyc]
    exact this
  have ab : 0 ≤ det a x b := by
    have : 0 ≤ det x b a := c.nn (by rw [← det_cyc, det_aab]; exact Int.le_refl _) (by rw [det_aab]; exact Int.le_refl _)
    rw [det_cyc]
    exact this
  refine ⟨List.pairwise_cons.mpr ⟨fun v hv => ?_, h1⟩, List.pairwise_cons.mpr ⟨fun v hv => ?_, ?_⟩, h2, h3⟩
  · rcases List.mem_cons.mp hv with rfl | hv
    · exact ab
    · exact av v hv
  · exact c.nn (h1'.1 v hv) (by rw [det_aab]; exact Int.le_refl _)
  · refine (h1'.2.and h2).imp fun {u v} h => c.nn h.1 h.2
theorem Tri.ins {l m : List V3} {a b x : V3} (h : Tri (l ++ a :: b :: m)) (c : Cmb x a b) : Tri (l ++ a :: x :: b :: m) := by
  have h1 : Tri (a :: b :: (m ++ l)) := Tri.rot (l := l) (m := a :: b :: m) h
  have h2 : Tri ((a :: x :: b :: m) ++ l) := Tri.ins0 h1 c
  exact Tri.rot h2
def crossN (w a b : V3) : List V3 := if dot w a * dot w b < 0 then [mid w a b] else []
def zipF (F : V3 → V3 → List V3) : List V3 → List V3 → List V3
  | a :: r, b :: s => F a b ++ zipF F r s
  | _, _ => []
def pieceN (w a b : V3) : List V3 := (if 0 ≤ dot w a then [a] else []) ++ crossN w a b
theorem crossN_cmb {w a b : V3} (ha : Prc a) (hb : Prc b) (h : dot w a * dot w b < 0) : Cmb (mid w a b) a b := by
  have hs := mid_sum ha hb h
  have p1 : 0 < iabs (dot w b) := by
    rw [iabs_nat]
    have : dot w b ≠ 0 := fun z => by rw [z, Int.mul_zero] at h; exact absurd h (Int.lt_irrefl _)
    omega
  have p2 : 0 < iabs (dot w a) := by
    rw [iabs_nat]
    have : dot w a ≠ 0 := fun z => by rw [z, Int.zero_mul] at h; exact absurd h (Int.lt_irrefl _)
    omega
  unfold mid
  generalize iabs (dot w b) = p at *
  generalize iabs (dot w a) = q at *
  generalize hv : addV (mulV p a) (mulV q b) = v at *
  have v1 : v.1 = p * a.1 + q * b.1 := by rw [← hv]; rfl
  have v2 : v.2.1 = p * a.2.1 + q * b.2.1 := by rw [← hv]; rfl
  have v3 : v.2.2 = p * a.2.2 + q * b.2.2 := by rw [← hv]; rfl
  have hg : 0 < g3 v.1 v.2.1 v.2.2 := by
    refine gcdL_pos (.inr ?_)
    rcases hs.n with k | k | k
    · exact ⟨_, List.mem_cons_self, k⟩
    · exact ⟨_, List.mem_cons_of_mem _ List.mem_cons_self, k⟩
    · exact ⟨_, List.mem_cons_of_mem _ (List.mem_cons_of_mem _ List.mem_cons_self), k⟩
  have hd := (gcdL_dvd (l := [v.1, v.2.1, v.2.2]) (g := 0)).2
  have mulc : ∀ x : Int, ((g3 v.1 v.2.1 v.2.2 : Nat) : Int) ∣ x → ((g3 v.1 v.2.1 v.2.2 : Nat) : Int) * (x / (g3 v.1 v.2.1 v.2.2 : Nat)) = x := fun x hx => Int.mul_ediv_cancel' hx
  refine ⟨(g3 v.1 v.2.1 v.2.2 : Nat), p, q, by omega, p1, p2, ?_, ?_, ?_⟩
  · rw [← v1]
    exact mulc _ (hd _ List.mem_cons_self)
  · rw [← v2]
    exact mulc _ (hd _ (List.mem_cons_of_mem _ List.mem_cons_self))
  · rw [← v3]
    exact mulc _ (hd _ (List.mem_cons_of_mem _ (List.mem_cons_of_mem _ List.mem_cons_self)))
end PB
set_option Elab.async false
set_option linter.all false
set_option maxRecDepth 10000
set_option maxHeartbeats 4000000
set_option exponentiation.threshold 2000
namespace PB
def Beg : List V3 → Prop
  | [] => False
  | v :: r => ∀ x ∈ r, ltV x v = false
structure Shp (n k : Nat) (vs : List V3) : Prop where
  le : vs.length ≤ k
  pr : ∀ v ∈ vs, Prc v ∧ Lt3 n v
  tri : Tri vs
  beg : Beg vs
theorem Shp.up {n n' k k' : Nat} {vs : List V3} (h : Shp n k vs) (hn : n ≤ n') (hk : k ≤ k') : Shp n' k' vs := ⟨Nat.le_trans h.le hk, fun v hv => ⟨(h.pr v hv).1, (h.pr v hv).2.up hn⟩, h.tri, h.beg⟩
theorem Shp.ne {n k : Nat} {vs : List V3} (h : Shp n k vs) : 0 < vs.length := by
  cases vs with
  | nil => exact h.beg.elim
  | cons v r => exact Nat.succ_pos _
end PB
set_option Elab.async false
set_option linter.all false
set_option maxRecDepth 10000
set_option maxHeartbeats 4000000
set_option exponentiation.threshold 20000
namespace PB
end PB
set_option Elab.async false
set_option linter.all false
set_option maxRecDepth 10000
set_option maxHeartbeats 4000000
set_option exponentiation.threshold 2000
namespace PB
end PB
set_option Elab.async false
set_option linter.all false
set_option maxRecDepth 10000
set_option maxHeartbeats 4000000
set_option exponentiation.threshold 20000
namespace PB
end PB
set_option Elab.async false
set_option linter.all false
set_option maxRecDepth 10000
set_option maxHeartbeats 4000000
set_option exponentiation.threshold 20000
namespace PB
theorem pos_of {g z : Int} (hg : 0 < g) (h : 0 < g * z) : 0 < z := by
  rcases Int.lt_or_le 0 z with hz | hz
  · exact hz
  · have := Int.mul_nonpos_of_nonneg_of_nonpos (Int.le_of_lt hg) hz
    omega
theorem Cmb.pos {x a b u v : V3} (h : Cmb x a b) (h1 : 0 ≤ det a u v) (h2 : 0 ≤ det b u v) (h3 : 0 < det a u v ∨ 0 < det b u v) : 0 < det x u v := by
  obtain ⟨g, p, q, hg, hp, hq, e1, e2, e3⟩ := h
  refine pos_of hg ?_
  rw [det_comb e1 e2 e3]
  have m1 := Int.mul_nonneg (Int.le_of_lt hp) h1
  have m2 := Int.mul_nonneg (Int.le_of_lt hq) h2
  rcases h3 with h | h
  · have := Int.mul_pos hp h
    omega
  · have := Int.mul_pos hq h
    omega
theorem det_aba (a b : V3) : det a b a = 0 := by unfold det; grind
def STri : List V3 → Prop
  | [] => True
  | a :: r => r.Pairwise (fun b c => 0 < det a b c) ∧ STri r
theorem STri.weak : ∀ {L : List V3}, STri L → Tri L
  | [], _ => trivial
  | _ :: _, h => ⟨h.1.imp fun h => Int.le_of_lt h, STri.weak h.2⟩
theorem STri.sub : ∀ {L L' : List V3}, L.Sublist L' → STri L' → STri L
  | _, _, .slnil, h => h
  | _, _, .cons _ s, h => STri.sub s h.2
  | _, _, .cons₂ _ s, h => ⟨h.1.sublist s, STri.sub s h.2⟩
theorem STri.snoc {a : V3} : ∀ {l : List V3}, STri (l ++ [a]) ↔ STri l ∧ l.Pairwise (fun b c => 0 < det b c a)
  | [] => ⟨fun _ => ⟨trivial, .nil⟩, fun _ => ⟨.nil, trivial⟩⟩
  | b :: l => by
    show (l ++ [a]).Pairwise _ ∧ STri (l ++ [a]) ↔ (l.Pairwise _ ∧ STri l) ∧ (b :: l).Pairwise _
    rw [STri.snoc (l := l), List.pairwise_append, List.pairwise_cons (a := b) (l := l)]
    constructor
    · intro ⟨⟨h1, _, h2⟩, h3, h4⟩
      exact ⟨⟨h1, h3⟩, ⟨fun u hu => h2 u hu a (List.mem_singleton.mpr rfl), h4⟩⟩
    · intro ⟨⟨h1, h3⟩, ⟨h2, h4⟩⟩
      exact ⟨⟨h1, List.pairwise_singleton _ _, fun u hu v hv => by rw [List.mem_singleton.mp hv]; exact h2 u hu⟩, h3, h4⟩
theorem STri.rot1 {a : V3} {l : List V3} : STri (a :: l) ↔ STri (l ++ [a]) := by
  rw [STri.snoc]
  constructor
  · rintro ⟨h1, h2⟩
    exact ⟨h2, h1.imp fun {b c} h => by rw [← det_cyc]; exact h⟩
  · rintro ⟨h2, h1⟩
    exact ⟨h1.imp fun {b c} h => by rw [det_cyc]; exact h, h2⟩
theorem STri.rot : ∀ {l m : List V3}, STri (l ++ m) → STri (m ++ l)
  | [], m, h => by rw [List.append_nil]; exact h
  | a :: l, m, h => by
    have h1 : STri (l ++ (m ++ [a])) := by
      rw [← List.append_assoc]
      exact STri.rot1.mp h
    have := STri.rot h1
    rw [List.append_assoc] at this
    exact this
section
variable {a b c x y : V3} {l m : List V3}
theorem STri.op20 (h : STri (a :: b :: m)) (k : Cmb x a b) : STri (a :: x :: m) := by
  obtain ⟨h1, h2, h3⟩ := h
  have h1' := List.pairwise_cons.mp h1
  refine ⟨List.pairwise_cons.mpr ⟨fun v hv => ?_, h1'.2⟩, ?_, h3⟩
  · have p : 0 < det b v a := by
      rw [← det_cyc]
      exact h1'.1 v hv
    have : 0 < det x v a := k.pos (by rw [det_aba]; exact Int.le_refl _) (Int.le_of_lt p) (.inr p)
    rw [det_cyc]
    exact this
  · exact (h1'.2.and h2).imp fun {u v} h => k.pos (Int.le_of_lt h.1) (Int.le_of_lt h.2) (.inl h.1)
theorem STri.op30 (h : STri (b :: c :: m)) (k : Cmb x b c) : STri (x :: c :: m) := by
  obtain ⟨h1, h2, h3⟩ := h
  have h1' := List.pairwise_cons.mp h1
  refine ⟨List.pairwise_cons.mpr ⟨fun v hv => ?_, ?_⟩, h2, h3⟩
  · exact k.pos (Int.le_of_lt (h1'.1 v hv)) (by rw [det_aab]; exact Int.le_refl _) (.inl (h1'.1 v hv))
  · exact (h1'.2.and h2).imp fun {u v} h => k.pos (Int.le_of_lt h.1) (Int.le_of_lt h.2) (.inl h.1)
theorem STri.op2 (h : STri (l ++ a :: b :: m)) (k : Cmb x a b) : STri (l ++ a :: x :: m) := by
  have h1 : STri (a :: b :: (m ++ l)) := STri.rot (l := l) (m := a :: b :: m) h
  exact STri.rot (l := a :: x :: m) (STri.op20 h1 k)
theorem STri.op3 (h : STri (l ++ b :: c :: m)) (k : Cmb x b c) : STri (l ++ x :: c :: m) := by
  have h1 : STri (b :: c :: (m ++ l)) := STri.rot (l := l) (m := b :: c :: m) h
  exact STri.rot (l := x :: c :: m) (STri.op30 h1 k)
theorem STri.op40 (h : STri (a :: b :: c :: m)) (k : Cmb x a b) (k2 : Cmb y b c) : STri (a :: x :: y :: c :: m) := by
  have s1 : STri (a :: x :: c :: m) := STri.op20 h k
  have s2 : STri (a :: y :: c :: m) := STri.op3 (l := [a]) h k2
  obtain ⟨h1, h2, h3, h4⟩ := h
  have h1' := List.pairwise_cons.mp h1
  have h2' := List.pairwise_cons.mp h2
  have s1' := List.pairwise_cons.mp s1.1
  have s2' := List.pairwise_cons.mp s2.1
  have abc : 0 < det a b c := h1'.1 c List.mem_cons_self
  have bya : 0 < det b y a := by
    have : 0 < det y a b := k2.pos (by rw [det_aba]; exact Int.le_refl _) (by rw [det_cyc]; exact Int.le_of_lt abc) (.inr (by rw [det_cyc]; exact abc))
    rw [← det_cyc, ← det_cyc, det_cyc]
    have e : det y a b = det a b y := det_cyc y a b
    rw [← e]
    exact this
  have axy : 0 < det a x y := by
    have : 0 < det x y a := k.pos (by rw [det_aba]; exact Int.le_refl _) (Int.le_of_lt bya) (.inr bya)
    rw [det_cyc]
    exact this
  have byv : ∀ v ∈ m, 0 < det b y v := fun v hv => by
    have bcv : 0 < det b c v := h2'.1 v hv
    have : 0 < det y v b := k2.pos (by rw [det_aba]; exact Int.le_refl _) (by rw [← det_cyc]; exact Int.le_of_lt bcv) (.inr (by rw [← det_cyc]; exact bcv))
    rw [det_cyc]
    exact this
  have byc : 0 ≤ det b y c := by
    have : 0 ≤ det y c b := k2.nn (by rw [det_aba]; exact Int.le_refl _) (by rw [det_aab]; exact Int.le_refl _)
    rw [det_cyc]
    exact this
  refine ⟨List.pairwise_cons.mpr ⟨fun v hv => ?_, s2.1⟩, List.pairwise_cons.mpr ⟨fun v hv => ?_, s1.2.1⟩, s2.2.1, h3, h4⟩
  · rcases List.mem_cons.mp hv with rfl | hv
    · exact axy
    · exact s1'.1 v hv
  · rcases List.mem_cons.mp hv with rfl | hv
    · have p := s2'.1 v List.mem_cons_self
      exact k.pos (Int.le_of_lt p) byc (.inl p)
    · have p := s2'.1 v (List.mem_cons_of_mem _ hv)
      have p2 := byv v hv
      exact k.pos (Int.le_of_lt p) (Int.le_of_lt p2) (.inl p)
theorem STri.op4 (h : STri (l ++ a :: b :: c :: m)) (k : Cmb x a b) (k2 : Cmb y b c) : STri (l ++ a :: x :: y :: c :: m) := by
  have h1 : STri (a :: b :: c :: (m ++ l)) := STri.rot (l := l) (m := a :: b :: c :: m) h
  exact STri.rot (l := a :: x :: y :: c :: m) (STri.op40 h1 k k2)
end
/-- how far a ring is cut: what is kept, the corner that is looked at, those behind it -/
inductive CutSt (w h : V3) (l : List V3) (a : V3) (r : List V3) : Prop
  | norm (n0 : 0 ≤ dot w a) (s : STri (l ++ a :: r)) (hd : (l ++ [a]).head? = some h) (n : l = [] → 2 ≤ r.length)
  | pend1 (n0 : dot w a < 0) (s : STri (l ++ a :: r)) (hd : l.head? = some h)
  | pend2 (n0 : dot w a < 0) (l0 : List V3) (p x : V3) (e : l = l0 ++ [p, x]) (s : STri (l0 ++ p :: a :: r)) (k : Cmb x p a) (hd : (l0 ++ [p]).head? = some h) (n : l0 ≠ [] ∨ r ≠ [])
theorem cross_nn {w a b : V3} (h : 0 ≤ dot w a * dot w b) : crossN w a b = [] := if_neg (by omega)
theorem cross_lt {w a b : V3} (h : dot w a * dot w b < 0) : crossN w a b = [mid w a b] := if_pos h
theorem pieceN_nn {w a b : V3} (h : 0 ≤ dot w a) : pieceN w a b = a :: crossN w a b := by
  unfold pieceN
  rw [if_pos h]
  rfl
theorem pieceN_lt {w a b : V3} (h : dot w a < 0) : pieceN w a b = crossN w a b := by
  unfold pieceN
  rw [if_neg (by omega)]
  rfl
theorem head_app {α : Type} {l m : List α} {h : α} (e : l.head? = some h) : (l ++ m).head? = some h := by
  cases l with
  | nil => cases e
  | cons a l => exact e
theorem CutSt.all {w h : V3} (hh : 0 < dot w h) (ph : Prc h) : ∀ (r l : List V3) (a : V3), (∀ v ∈ a :: r, Prc v) → CutSt w h l a r → STri (l ++ zipF (pieceN w) (a :: r) (r ++ [h]))
  | [], l, a, hp, st => by
    have e0 : zipF (pieceN w) [a] ([] ++ [h]) = pieceN w a h := by
      show pieceN w a h ++ [] = _
      rw [List.append_nil]
    rw [e0]
    have pa : Prc a := hp a List.mem_cons_self
    cases st with
    | norm n0 s hd n =>
      rw [pieceN_nn n0, cross_nn (Int.mul_nonneg n0 (Int.le_of_lt hh))]
      exact s
    | pend1 n0 s hd =>
      have hc := Int.mul_neg_of_neg_of_pos n0 hh
      rw [pieceN_lt n0, cross_lt hc]
      cases l with
      | nil => cases hd
      | cons h' l =>
        cases hd
        have s1 : STri (a :: h :: l) := STri.rot1.mpr s
        exact STri.rot1.mp (STri.op30 s1 (crossN_cmb pa ph hc))
    | pend2 n0 l0 p x e s k hd n =>
      have hc := Int.mul_neg_of_neg_of_pos n0 hh
      rw [pieceN_lt n0, cross_lt hc, e]
      cases l0 with
      | nil => exact absurd rfl (n.elim id fun z => (z rfl).elim)
      | cons h' l1 =>
        cases hd
        have s1 : STri (p :: a :: h :: l1) := STri.rot (l := h :: l1) (m := [p, a]) s
        have s2 := STri.op40 s1 k (crossN_cmb pa ph hc)
        have s3 := STri.rot (l := [p, x, mid w a h]) (m := h :: l1) s2
        rw [List.append_assoc]
        exact s3
  | b :: r, l, a, hp, st => by
    have e0 : zipF (pieceN w) (a :: b :: r) (b :: r ++ [h]) = pieceN w a b ++ zipF (pieceN w) (b :: r) (r ++ [h]) := rfl
    have pa : Prc a := hp a List.mem_cons_self
    have pb : Prc b := hp b (List.mem_cons_of_mem _ List.mem_cons_self)
    have hp' : ∀ v ∈ b :: r, Prc v := fun v hv => hp v (List.mem_cons_of_mem _ hv)
    rw [e0, ← List.append_assoc]
    refine CutSt.all hh ph r _ b hp' ?_
    have sub1 : STri (l ++ a :: b :: r) → STri (l ++ b :: r) := fun s => STri.sub (List.Sublist.append_left (.cons _ (List.Sublist.refl _)) l) s
    cases st with
    | norm n0 s hd n =>
      rw [pieceN_nn n0]
      by_cases hc : dot w a * dot w b < 0
      · rw [cross_lt hc]
        have hb : dot w b < 0 := by
          rcases Int.lt_or_le (dot w b) 0 with z | z
          · exact z
          · have := Int.mul_nonneg n0 z
            omega
        refine .pend2 hb l a (mid w a b) rfl s (crossN_cmb pa pb hc) hd ?_
        by_cases hl : l = []
        · refine .inr fun hr => ?_
          have := n hl
          rw [hr] at this
          simp at this
        · exact .inl hl
      · rw [cross_nn (by omega)]
        have s' : STri ((l ++ [a]) ++ b :: r) := by
          rw [List.append_assoc]
          exact s
        rcases Int.lt_or_le (dot w b) 0 with hb | hb
        · exact .pend1 hb s' hd
        · exact .norm hb s' (head_app hd) fun z => by simp at z
    | pend1 n0 s hd =>
      rw [pieceN_lt n0]
      rcases Int.lt_or_le 0 (dot w b) with hb | hb
      · have hc := Int.mul_neg_of_neg_of_pos n0 hb
        rw [cross_lt hc]
        refine .norm (Int.le_of_lt hb) ?_ (head_app (head_app hd)) fun z => by simp at z
        rw [List.append_assoc]
        exact STri.op3 s (crossN_cmb pa pb hc)
      · rw [cross_nn (Int.mul_nonneg_of_nonpos_of_nonpos (Int.le_of_lt n0) hb), List.append_nil]
        rcases Int.lt_or_le (dot w b) 0 with hb2 | hb2
        · exact .pend1 hb2 (sub1 s) hd
        · refine .norm hb2 (sub1 s) (head_app hd) fun z => ?_
          rw [z] at hd
          cases hd
    | pend2 n0 l0 p x e s k hd n =>
      rw [pieceN_lt n0, e]
      have hd2 : (l0 ++ [p, x]).head? = some h := by
        have : l0 ++ [p, x] = (l0 ++ [p]) ++ [x] := by simp
        rw [this]
        exact head_app hd
      have ne : l0 ++ [p, x] ≠ [] := by simp
      rcases Int.lt_or_le 0 (dot w b) with hb | hb
      · have hc := Int.mul_neg_of_neg_of_pos n0 hb
        rw [cross_lt hc]
        refine .norm (Int.le_of_lt hb) ?_ (head_app (head_app hd2)) fun z => by simp at z
        rw [List.append_assoc, List.append_assoc]
        exact STri.op4 s k (crossN_cmb pa pb hc)
      · rw [cross_nn (Int.mul_nonneg_of_nonpos_of_nonpos (Int.le_of_lt n0) hb), List.append_nil]
        have s2 : STri ((l0 ++ [p, x]) ++ b :: r) := by
          rw [List.append_assoc]
          exact STri.op2 s k
        rcases Int.lt_or_le (dot w b) 0 with hb2 | hb2
        · exact .pend1 hb2 s2 hd2
        · exact .norm hb2 s2 (head_app hd2) fun z => absurd z ne
end PB
set_option Elab.async false
set_option linter.all false
set_option maxRecDepth 10000
set_option maxHeartbeats 4000000
set_option exponentiation.threshold 20000
namespace PB
structure ShpS (n k : Nat) (vs : List V3) : Prop where
  le : vs.length ≤ k
  ge : 3 ≤ vs.length
  pr : ∀ v ∈ vs, Prc v ∧ Lt3 n v
  low : ∀ v ∈ vs, lowV v = v
  tri : STri vs
  beg : Beg vs
theorem ShpS.up {n n' k k' : Nat} {vs : List V3} (h : ShpS n k vs) (hn : n ≤ n') (hk : k ≤ k') : ShpS n' k' vs := ⟨Nat.le_trans h.le hk, h.ge, fun v hv => ⟨(h.pr v hv).1, (h.pr v hv).2.up hn⟩, h.low, h.tri, h.beg⟩
end PB
set_option Elab.async false
set_option linter.all false
set_option maxRecDepth 10000
set_option maxHeartbeats 4000000
set_option exponentiation.threshold 20000
namespace PB
end PB
set_option Elab.async false
set_option linter.all false
set_option maxRecDepth 10000
set_option maxHeartbeats 4000000
set_option exponentiation.threshold 20000
namespace PB
end PB
set_option Elab.async false
set_option linter.all false
set_option maxRecDepth 10000
set_option maxHeartbeats 4000000
set_option exponentiation.threshold 20000
namespace PB
section
variable {s : LS} {Q : Rv → LS → Prop}
theorem kRngU {γ : Type} {QI : List D → γ → Prop} {g : γ} {n : Nat} (hn : n ≤ 1000) (q : QI ((List.range n).map fun k => D.int (k : Nat)) g) : kRng QI (.dat (.int (n : Nat))) g := by
  rw [kRng_]
  refine ⟨rng_ok hn, ?_⟩
  rw [Int.toNat_natCast, rng_map]
  simp only [Int.zero_add]
  exact q
end
end PB
set_option Elab.async false
set_option linter.all false
set_option maxRecDepth 10000
set_option maxHeartbeats 4000000
set_option exponentiation.threshold 2000
namespace PB
def l_rests2M : MS LS := (mSeq (mTgt (tgT [3, 4, 5]) (mVar 2))
    (mSeq (mSet 6 (mOp2 oAdd (mOp2 oMul (mC (.int 100)) (mOp2 oAdd (mOp2 oAdd (mVar 3) (mVar 4)) (mVar 5))) (mC (.int 1))))
    (mSeq (mSet 7 (mLc (mRange1 (mOp2 oAdd (mOpN oLen (mCons (mVar 0) mNil)) (mC (.int 1)))) (tgN 16) mYes (mLst mNil) [16]))
    (mSeq (mSet 8 (mLst mNil))
    (mSeq (mFor (mRangeA (mCons (mOpN oLen (mCons (mVar 0) mNil)) (mCons (mOp1 oNeg (mC (.int 1))) (mCons (mOp1 oNeg (mC (.int 1))) mNil)))) (tgN 9) (mSeq (mSet 10 (mOp2 oRep (mLst (mCons (mTup (mCons (mVar 6) (mCons (mVar 6) (mCons (mVar 6) mNil)))) mNil)) (mOp2 oAdd (mOpN oLen (mCons (mVar 1) mNil)) (mC (.int 1)))))
    (mSeq (mFor (mRangeA (mCons (mOpN oLen (mCons (mVar 1) mNil)) (mCons (mOp1 oNeg (mC (.int 1))) (mCons (mOp1 oNeg (mC (.int 1))) mNil)))) (tgN 11) (mSeq (mPar3 12 13 14 (mVar 6) (mVar 6) (mVar 6))
    (mSeq (mIfS (mAnd (mTest (mOp2 oLt (mVar 9) (mOpN oLen (mCons (mVar 0) mNil)))) (mTest (mOp2 oLt (mVar 11) (mOpN oLen (mCons (mVar 1) mNil))))) (mSeq (mSet 15 (mOp2 oMul (mVar 3) (mOpN oInt (mCons (mOp2 oNe (mOp2 oIx (mVar 0) (mVar 9)) (mOp2 oIx (mVar 1) (mVar 11))) mNil))))
    (mSet 12 (mOp2 oAdd (mOp2 oIx (mOp2 oIx (mVar 8) (mOp2 oAdd (mVar 11) (mC (.int 1)))) (mC (.int 0))) (mVar 15)))) mPass)
    (mSeq (mIfS (mTest (mOp2 oLt (mVar 9) (mOpN oLen (mCons (mVar 0) mNil)))) (mSet 13 (mOp2 oAdd (mOp2 oIx (mOp2 oIx (mVar 8) (mVar 11)) (mC (.int 1))) (mVar 4))) mPass)
    (mSeq (mIfS (mTest (mOp2 oLt (mVar 11) (mOpN oLen (mCons (mVar 1) mNil)))) (mSet 14 (mOp2 oAdd (mOp2 oIx (mOp2 oIx (mVar 10) (mOp2 oAdd (mVar 11) (mC (.int 1)))) (mC (.int 2))) (mVar 4))) mPass)
    (mSeq (mPut 10 (mVar 11) (mTup (mCons (mOpN oMin3 (mCons (mVar 12) (mCons (mOp2 oAdd (mVar 13) (mVar 5)) (mCons (mOp2 oAdd (mVar 14) (mVar 5)) mNil)))) (mCons (mOpN oMin3 (mCons (mVar 12) (mCons (mVar 13) (mCons (mOp2 oAdd (mVar 14) (mVar 5)) mNil)))) (mCons (mOpN oMin3 (mCons (mVar 12) (mCons (mOp2 oAdd (mVar 13) (mVar 5)) (mCons (mVar 14) mNil)))) mNil)))))
    (mIfS (mAnd (mTest (mOp2 oEq (mVar 9) (mOpN oLen (mCons (mVar 0) mNil)))) (mTest (mOp2 oEq (mVar 11) (mOpN oLen (mCons (mVar 1) mNil))))) (mPut 10 (mVar 11) (mTup (mCons (mC (.int 0)) (mCons (mC (.int 0)) (mCons (mC (.int 0)) mNil))))) mPass)))))))
    (mSeq (mFrz 10) (mSeq (mPut 7 (mVar 9) (mVar 10))
    (mSet 8 (mVar 10)))))))
    (mRet (mVar 7)))))))
def l_rests2F : MF LS := mDef 17 3 (l_rests2M)
def restR : MS LS := (mSeq (mPut 10 (mVar 11) (mTup (mCons (mOpN oMin3 (mCons (mVar 12) (mCons (mOp2 oAdd (mVar 13) (mVar 5)) (mCons (mOp2 oAdd (mVar 14) (mVar 5)) mNil)))) (mCons (mOpN oMin3 (mCons (mVar 12) (mCons (mVar 13) (mCons (mOp2 oAdd (mVar 14) (mVar 5)) mNil)))) (mCons (mOpN oMin3 (mCons (mVar 12) (mCons (mOp2 oAdd (mVar 13) (mVar 5)) (mCons (mVar 14) mNil)))) mNil)))))
    (mIfS (mAnd (mTest (mOp2 oEq (mVar 9) (mOpN oLen (mCons (mVar 0) mNil)))) (mTest (mOp2 oEq (mVar 11) (mOpN oLen (mCons (mVar 1) mNil))))) (mPut 10 (mVar 11) (mTup (mCons (mC (.int 0)) (mCons (mC (.int 0)) (mCons (mC (.int 0)) mNil))))) mPass))
def innerR : MS LS := (mSeq (mPar3 12 13 14 (mVar 6) (mVar 6) (mVar 6))
    (mSeq (mIfS (mAnd (mTest (mOp2 oLt (mVar 9) (mOpN oLen (mCons (mVar 0) mNil)))) (mTest (mOp2 oLt (mVar 11) (mOpN oLen (mCons (mVar 1) mNil))))) (mSeq (mSet 15 (mOp2 oMul (mVar 3) (mOpN oInt (mCons (mOp2 oNe (mOp2 oIx (mVar 0) (mVar 9)) (mOp2 oIx (mVar 1) (mVar 11))) mNil))))
    (mSet 12 (mOp2 oAdd (mOp2 oIx (mOp2 oIx (mVar 8) (mOp2 oAdd (mVar 11) (mC (.int 1)))) (mC (.int 0))) (mVar 15)))) mPass)
    (mSeq (mIfS (mTest (mOp2 oLt (mVar 9) (mOpN oLen (mCons (mVar 0) mNil)))) (mSet 13 (mOp2 oAdd (mOp2 oIx (mOp2 oIx (mVar 8) (mVar 11)) (mC (.int 1))) (mVar 4))) mPass)
    (mSeq (mIfS (mTest (mOp2 oLt (mVar 11) (mOpN oLen (mCons (mVar 1) mNil)))) (mSet 14 (mOp2 oAdd (mOp2 oIx (mOp2 oIx (mVar 10) (mOp2 oAdd (mVar 11) (mC (.int 1)))) (mC (.int 2))) (mVar 4))) mPass)
    restR))))
def far4 (p : V3) : Int := 100 * (p.1 + p.2.1 + p.2.2) + 1
def RTw (p : V3) (xs ys : List Nat) (i j : Nat) : V3 := LL p.1 p.2.1 p.2.2 (xs.drop i) (ys.drop j)
def rowU (m : Nat) (f : Nat → V3) : List D := (List.range (m + 1)).map fun j => vd (f j)
def rowsU (n m : Nat) (f : Nat → Nat → V3) : List D := (List.range (n + 1)).map fun i => .lst (rowU m (f i))
theorem rowU_len (m : Nat) (f : Nat → V3) : (rowU m f).length = m + 1 := by simp [rowU]
theorem rowU_at {m : Nat} {f : Nat → V3} {j : Nat} (hj : j ≤ m) : atI (rowU m f) ((j : Nat) : Int) = some (vd (f j)) := by
  rw [atIat (by rw [rowU_len]; omega)]
  simp [rowU]
theorem rowU_set {m : Nat} {f : Nat → V3} {j : Nat} {v : V3} : (rowU m f).set j (vd v) = rowU m fun i => if i = j then v else f i := by
  apply List.ext_getElem
  · simp [rowU]
  · intro a h1 h2
    rw [List.getElem_set]
    by_cases ha : j = a
    · subst ha
      simp [rowU]
    · rw [if_neg ha]
      simp [rowU]
      rw [if_neg (fun z => ha z.symm)]
theorem rowU_congr {m : Nat} {f g : Nat → V3} (h : ∀ j, j ≤ m → f j = g j) : rowU m f = rowU m g := by
  apply List.map_congr_left
  intro j hj
  have := List.mem_range.mp hj
  rw [h j (by omega)]
theorem LL_cn4 {o s t : Int} (h : Pos o s t) {far : Int} {x : Nat} {xs : List Nat} (hf : ((x :: xs).length : Int) * (s + t) ≤ far) : tri far (Lc o s t 1 xs [] + s) far t = LL o s t (x :: xs) [] := by
  have := (Lc_bd h 1 xs []).2
  have := h.s0
  have := h.t0
  unfold tri LL
  rw [Lc_cn, Lc_cn, Lc_cn, lmin3, lmin3, lmin3]
  rw [List.length_cons, Int.natCast_add, Int.add_mul] at hf
  simp only [List.length_nil] at *
  simp only [b01, b02, b11, b12, b21, b22, swT, swF, Prod.mk.injEq]
  omega
theorem LL_nc4 {o s t : Int} (h : Pos o s t) {far : Int} {y : Nat} {ys : List Nat} (hf : ((y :: ys).length : Int) * (s + t) ≤ far) : tri far far (Lc o s t 2 [] ys + s) t = LL o s t [] (y :: ys) := by
  have := (Lc_bd h 2 [] ys).2
  have := h.s0
  have := h.t0
  unfold tri LL
  rw [Lc_nc, Lc_nc, Lc_nc, lmin3, lmin3, lmin3]
  rw [List.length_cons, Int.natCast_add, Int.add_mul] at hf
  simp only [List.length_nil] at *
  simp only [b01, b02, b11, b12, b21, b22, swT, swF, Prod.mk.injEq]
  omega
def keptW (p : V3) (xs ys : List Nat) (i j : Nat) : Int := if h : i < xs.length ∧ j < ys.length then (RTw p xs ys (i + 1) (j + 1)).1 + ne1 p.1 (xs[i]'h.1) (ys[j]'h.2) else far4 p
def goneW (p : V3) (xs ys : List Nat) (i j : Nat) : Int := if i < xs.length then (RTw p xs ys (i + 1) j).2.1 + p.2.1 else far4 p
def putW (p : V3) (xs ys : List Nat) (i j : Nat) : Int := if j < ys.length then (RTw p xs ys i (j + 1)).2.2 + p.2.1 else far4 p
theorem RTw_step {p : V3} {xs ys : List Nat} {i j : Nat} (h : Pos p.1 p.2.1 p.2.2) (hx : xs.length ≤ 30) (hy : ys.length ≤ 30) (hi : i ≤ xs.length) (hj : j ≤ ys.length) (hn : i < xs.length ∨ j < ys.length) :
    tri (keptW p xs ys i j) (goneW p xs ys i j) (putW p xs ys i j) p.2.2 = RTw p xs ys i j := by
  have ho := h.o0
  have hs := h.s0
  have ht := h.t0
  have farle : ∀ k : Nat, k ≤ 60 → (k : Int) * (p.2.1 + p.2.2) ≤ far4 p := by
    intro k hk
    unfold far4
    have h1 : (k : Int) * (p.2.1 + p.2.2) ≤ 60 * (p.2.1 + p.2.2) := Int.mul_le_mul_of_nonneg_right (by omega) (by omega)
    omega
  unfold keptW goneW putW RTw
  by_cases c1 : i < xs.length
  · have d1 : xs.drop i = xs[i] :: xs.drop (i + 1) := List.drop_eq_getElem_cons c1
    rw [if_pos c1]
    by_cases c2 : j < ys.length
    · have d2 : ys.drop j = ys[j] :: ys.drop (j + 1) := List.drop_eq_getElem_cons c2
      rw [dif_pos ⟨c1, c2⟩, if_pos c2, d1, d2]
      exact LL_cc
    · have d2 : ys.drop j = [] := List.drop_of_length_le (by omega)
      rw [dif_neg (fun z => c2 z.2), if_neg c2, d1, d2]
      refine LL_cn4 h (farle _ ?_)
      rw [← d1, List.length_drop]
      omega
  · have c2 : j < ys.length := by omega
    have d1 : xs.drop i = [] := List.drop_of_length_le (by omega)
    have d2 : ys.drop j = ys[j] :: ys.drop (j + 1) := List.drop_eq_getElem_cons c2
    rw [if_neg c1, dif_neg (fun z => c1 z.1), if_pos c2, d1, d2]
    refine LL_nc4 h (farle _ ?_)
    rw [← d2, List.length_drop]
    omega
theorem RTw_end {p : V3} {xs ys : List Nat} : RTw p xs ys xs.length ys.length = (0, 0, 0) := by
  unfold RTw LL
  rw [List.drop_length, List.drop_length, Lc_nn, Lc_nn, Lc_nn]
section
variable {p : V3} {xs ys : List Nat} {s : LS}
def curU (p : V3) (xs ys : List Nat) (i b : Nat) (j : Nat) : V3 := if ys.length < j + b then RTw p xs ys i j else (far4 p, far4 p, far4 p)
theorem curU_put {i b j : Nat} (hj : ys.length = j + b) : (rowU ys.length (curU p xs ys i b)).set j (vd (RTw p xs ys i j)) = rowU ys.length (curU p xs ys i (b + 1)) := by
  rw [rowU_set]
  refine rowU_congr fun k hk => ?_
  unfold curU
  by_cases h : k = j
  · subst h
    rw [if_pos rfl, if_pos (by omega)]
  · rw [if_neg h]
    by_cases h2 : ys.length < k + b
    · rw [if_pos h2, if_pos (by omega)]
    · rw [if_neg h2, if_neg (by omega)]
/-- the last step at a place: the triple is put down -/
theorem S_restR {i b j : Nat} {K G P : Int} {x7 x8 x15 x16 : Sl} {Q : Fl → LS → Prop} (hp : Pos p.1 p.2.1 p.2.2) (hx : xs.length ≤ 30) (hy : ys.length ≤ 30) (hi : i ≤ xs.length) (hj : ys.length = j + b) (hK : K = keptW p xs ys i j) (hG : G = goneW p xs ys i j) (hP : P = putW p xs ys i j)
    (q : ∀ f g, g = s → f = .nx [.dat (.str xs), .dat (.str ys), .dat (vd p), .dat (.int p.1), .dat (.int p.2.1), .dat (.int p.2.2), .dat (.int (far4 p)), x7, x8, .dat (.int (i : Nat)), .own (rowU ys.length (curU p xs ys i (b + 1))), .dat (.int (j : Nat)), .dat (.int K), .dat (.int G), .dat (.int P), x15, x16] → Q f g) :
    Sat (restR [.dat (.str xs), .dat (.str ys), .dat (vd p), .dat (.int p.1), .dat (.int p.2.1), .dat (.int p.2.2), .dat (.int (far4 p)), x7, x8, .dat (.int (i : Nat)), .own (rowU ys.length (curU p xs ys i b)), .dat (.int (j : Nat)), .dat (.int K), .dat (.int G), .dat (.int P), x15, x16] s) Q := by
  have o3 : ∀ x y z : Int, oMin3 [.dat (.int x), .dat (.int y), .dat (.int z)] = some (.dat (.int (lmin x [y, z]))) := fun x y z => rfl
  unfold restR
  rw [S_seq, S_put rfl]
  simp only [S_var, S_C, S_op1, k1_, S_op2, k2_, k2b_, S_nil, S_cons, kc_, kcb_, S_opN, kN_, S_tup, S_lst, kT_u, kL_u, stoL_nil, stoL_dat, stoL_own, consO_some, SatO_some, S_call, kCall_u, S_if, S_ifS, kI_true, kI_false, S_andV, S_orV, kAndV_true, kAndV_false, kOrV_true, kOrV_false, S_test, kTest_, S_tru, kTru_, S_and, S_or, S_not, kAnd_true, kAnd_false, kOr_true, kOr_false, kNot_, S_seq, kS_nx, kS_rt, kS_bk, kS_ct, S_pass, S_set, kSet_dat, kSet_own, S_par, kP_, kPb_, S_ret', kR_, S_retN, S_break, S_cont, S_for, kF_, S_forNil, kFb_nx, kFb_ct, kFb_bk, kFb_rt, S_items, kItems_tup, kItems_lst, kItems_own, S_lc, kLc_, S_lcNil, S_yes, kD_rt, kD_nx, Rv.ret, gt, st, kVar_dat, kVar_own, o_add, o_sub, o_eq, o_ne, o_lt, o_le, o_gt, o_ge, o_eqB, o_neB, o_is2, o_isnot2, o_abs, o_ix, o_ixO, o_ixB, o_ixL, o_tupO, o_isBool, map_some', wp, tgN_, List.length_cons, List.length_nil, Nat.reduceAdd, Nat.reduceLeDiff, true_and, decide_true, decide_false, Bool.not_true, Bool.not_false, o_mul_u, o_div_u, o_mod_u, o_pow_u, o_eqS, o_neS, o_intB, o_lenS, o_lenO, o_lenB, o_iaddI, S_s1, kS1_, kS1b_, S_lm, kLm_bor, kLm_own, kLmb_, S_tab, o_ixT, o_ixS, S_put, kPut_, kPutK_, S_zip2, kZip_, kZipb_tup, o_sum, o_sumB, o_tupB, o_tupL, o_lenT, S_range1, kRng_3, S_tgtL, kTgtL_, List.nil_append, List.cons_append, Nat.reduceLT, SZ, forall_const, true_implies, o3]
  rw [ixNnat (by rw [rowU_len]; omega)]
  simp only [S_var, S_C, S_op1, k1_, S_op2, k2_, k2b_, S_nil, S_cons, kc_, kcb_, S_opN, kN_, S_tup, S_lst, kT_u, kL_u, stoL_nil, stoL_dat, stoL_own, consO_some, SatO_some, S_call, kCall_u, S_if, S_ifS, kI_true, kI_false, S_andV, S_orV, kAndV_true, kAndV_false, kOrV_true, kOrV_false, S_test, kTest_, S_tru, kTru_, S_and, S_or, S_not, kAnd_true, kAnd_false, kOr_true, kOr_false, kNot_, S_seq, kS_nx, kS_rt, kS_bk, kS_ct, S_pass, S_set, kSet_dat, kSet_own, S_par, kP_, kPb_, S_ret', kR_, S_retN, S_break, S_cont, S_for, kF_, S_forNil, kFb_nx, kFb_ct, kFb_bk, kFb_rt, S_items, kItems_tup, kItems_lst, kItems_own, S_lc, kLc_, S_lcNil, S_yes, kD_rt, kD_nx, Rv.ret, gt, st, kVar_dat, kVar_own, o_add, o_sub, o_eq, o_ne, o_lt, o_le, o_gt, o_ge, o_eqB, o_neB, o_is2, o_isnot2, o_abs, o_ix, o_ixO, o_ixB, o_ixL, o_tupO, o_isBool, map_some', wp, tgN_, List.length_cons, List.length_nil, Nat.reduceAdd, Nat.reduceLeDiff, true_and, decide_true, decide_false, Bool.not_true, Bool.not_false, o_mul_u, o_div_u, o_mod_u, o_pow_u, o_eqS, o_neS, o_intB, o_lenS, o_lenO, o_lenB, o_iaddI, S_s1, kS1_, kS1b_, S_lm, kLm_bor, kLm_own, kLmb_, S_tab, o_ixT, o_ixS, S_put, kPut_, kPutK_, S_zip2, kZip_, kZipb_tup, o_sum, o_sumB, o_tupB, o_tupL, o_lenT, S_range1, kRng_3, S_tgtL, kTgtL_, List.nil_append, List.cons_append, Nat.reduceLT, SZ, forall_const, true_implies]
  have et : D.tup [.int (lmin K [G + p.2.2, P + p.2.2]), .int (lmin K [G, P + p.2.2]), .int (lmin K [G + p.2.2, P])] = vd (tri K G P p.2.2) := rfl
  rw [et]
  by_cases hn : i < xs.length ∨ j < ys.length
  · have hst := RTw_step (p := p) (xs := xs) (ys := ys) hp hx hy hi (show j ≤ ys.length by omega) hn
    rw [← hK, ← hG, ← hP] at hst
    rw [hst, curU_put hj]
    by_cases c1 : i < xs.length
    · have e1 : decide (((i : Nat) : Int) = (xs.length : Nat)) = false := decide_eq_false (by omega)
      simp only [S_var, S_C, S_op1, k1_, S_op2, k2_, k2b_, S_nil, S_cons, kc_, kcb_, S_opN, kN_, S_tup, S_lst, kT_u, kL_u, stoL_nil, stoL_dat, stoL_own, consO_some, SatO_some, S_call, kCall_u, S_if, S_ifS, kI_true, kI_false, S_andV, S_orV, kAndV_true, kAndV_false, kOrV_true, kOrV_false, S_test, kTest_, S_tru, kTru_, S_and, S_or, S_not, kAnd_true, kAnd_false, kOr_true, kOr_false, kNot_, S_seq, kS_nx, kS_rt, kS_bk, kS_ct, S_pass, S_set, kSet_dat, kSet_own, S_par, kP_, kPb_, S_ret', kR_, S_retN, S_break, S_cont, S_for, kF_, S_forNil, kFb_nx, kFb_ct, kFb_bk, kFb_rt, S_items, kItems_tup, kItems_lst, kItems_own, S_lc, kLc_, S_lcNil, S_yes, kD_rt, kD_nx, Rv.ret, gt, st, kVar_dat, kVar_own, o_add, o_sub, o_eq, o_ne, o_lt, o_le, o_gt, o_ge, o_eqB, o_neB, o_is2, o_isnot2, o_abs, o_ix, o_ixO, o_ixB, o_ixL, o_tupO, o_isBool, map_some', wp, tgN_, List.length_cons, List.length_nil, Nat.reduceAdd, Nat.reduceLeDiff, true_and, decide_true, decide_false, Bool.not_true, Bool.not_false, o_mul_u, o_div_u, o_mod_u, o_pow_u, o_eqS, o_neS, o_intB, o_lenS, o_lenO, o_lenB, o_iaddI, S_s1, kS1_, kS1b_, S_lm, kLm_bor, kLm_own, kLmb_, S_tab, o_ixT, o_ixS, S_put, kPut_, kPutK_, S_zip2, kZip_, kZipb_tup, o_sum, o_sumB, o_tupB, o_tupL, o_lenT, S_range1, kRng_3, S_tgtL, kTgtL_, List.nil_append, List.cons_append, Nat.reduceLT, SZ, forall_const, true_implies, e1]
      exact q _ _ rfl rfl
    · have c2 : j < ys.length := by omega
      have e2 : decide (((j : Nat) : Int) = (ys.length : Nat)) = false := decide_eq_false (by omega)
      by_cases e1 : decide (((i : Nat) : Int) = (xs.length : Nat)) = true
      · simp only [S_var, S_C, S_op1, k1_, S_op2, k2_, k2b_, S_nil, S_cons, kc_, kcb_, S_opN, kN_, S_tup, S_lst, kT_u, kL_u, stoL_nil, stoL_dat, stoL_own, consO_some, SatO_some, S_call, kCall_u, S_if, S_ifS, kI_true, kI_false, S_andV, S_orV, kAndV_true, kAndV_false, kOrV_true, kOrV_false, S_test, kTest_, S_tru, kTru_, S_and, S_or, S_not, kAnd_true, kAnd_false, kOr_true, kOr_false, kNot_, S_seq, kS_nx, kS_rt, kS_bk, kS_ct, S_pass, S_set, kSet_dat, kSet_own, S_par, kP_, kPb_, S_ret', kR_, S_retN, S_break, S_cont, S_for, kF_, S_forNil, kFb_nx, kFb_ct, kFb_bk, kFb_rt, S_items, kItems_tup, kItems_lst, kItems_own, S_lc, kLc_, S_lcNil, S_yes, kD_rt, kD_nx, Rv.ret, gt, st, kVar_dat, kVar_own, o_add, o_sub, o_eq, o_ne, o_lt, o_le, o_gt, o_ge, o_eqB, o_neB, o_is2, o_isnot2, o_abs, o_ix, o_ixO, o_ixB, o_ixL, o_tupO, o_isBool, map_some', wp, tgN_, List.length_cons, List.length_nil, Nat.reduceAdd, Nat.reduceLeDiff, true_and, decide_true, decide_false, Bool.not_true, Bool.not_false, o_mul_u, o_div_u, o_mod_u, o_pow_u, o_eqS, o_neS, o_intB, o_lenS, o_lenO, o_lenB, o_iaddI, S_s1, kS1_, kS1b_, S_lm, kLm_bor, kLm_own, kLmb_, S_tab, o_ixT, o_ixS, S_put, kPut_, kPutK_, S_zip2, kZip_, kZipb_tup, o_sum, o_sumB, o_tupB, o_tupL, o_lenT, S_range1, kRng_3, S_tgtL, kTgtL_, List.nil_append, List.cons_append, Nat.reduceLT, SZ, forall_const, true_implies, e1, e2]
        exact q _ _ rfl rfl
      · have e1 : decide (((i : Nat) : Int) = (xs.length : Nat)) = false := by
          cases h : decide (((i : Nat) : Int) = (xs.length : Nat)) with
          | false => rfl
          | true => exact absurd h e1
        simp only [S_var, S_C, S_op1, k1_, S_op2, k2_, k2b_, S_nil, S_cons, kc_, kcb_, S_opN, kN_, S_tup, S_lst, kT_u, kL_u, stoL_nil, stoL_dat, stoL_own, consO_some, SatO_some, S_call, kCall_u, S_if, S_ifS, kI_true, kI_false, S_andV, S_orV, kAndV_true, kAndV_false, kOrV_true, kOrV_false, S_test, kTest_, S_tru, kTru_, S_and, S_or, S_not, kAnd_true, kAnd_false, kOr_true, kOr_false, kNot_, S_seq, kS_nx, kS_rt, kS_bk, kS_ct, S_pass, S_set, kSet_dat, kSet_own, S_par, kP_, kPb_, S_ret', kR_, S_retN, S_break, S_cont, S_for, kF_, S_forNil, kFb_nx, kFb_ct, kFb_bk, kFb_rt, S_items, kItems_tup, kItems_lst, kItems_own, S_lc, kLc_, S_lcNil, S_yes, kD_rt, kD_nx, Rv.ret, gt, st, kVar_dat, kVar_own, o_add, o_sub, o_eq, o_ne, o_lt, o_le, o_gt, o_ge, o_eqB, o_neB, o_is2, o_isnot2, o_abs, o_ix, o_ixO, o_ixB, o_ixL, o_tupO, o_isBool, map_some', wp, tgN_, List.length_cons, List.length_nil, Nat.reduceAdd, Nat.reduceLeDiff, true_and, decide_true, decide_false, Bool.not_true, Bool.not_false, o_mul_u, o_div_u, o_mod_u, o_pow_u, o_eqS, o_neS, o_intB, o_lenS, o_lenO, o_lenB, o_iaddI, S_s1, kS1_, kS1b_, S_lm, kLm_bor, kLm_own, kLmb_, S_tab, o_ixT, o_ixS, S_put, kPut_, kPutK_, S_zip2, kZip_, kZipb_tup, o_sum, o_sumB, o_tupB, o_tupL, o_lenT, S_range1, kRng_3, S_tgtL, kTgtL_, List.nil_append, List.cons_append, Nat.reduceLT, SZ, forall_const, true_implies, e1]
        exact q _ _ rfl rfl
  · have ei : i = xs.length := by omega
    have ej : j = ys.length := by omega
    have e1 : decide (((i : Nat) : Int) = (xs.length : Nat)) = true := decide_eq_true (by omega)
    have e2 : decide (((j : Nat) : Int) = (ys.length : Nat)) = true := decide_eq_true (by omega)
    simp only [S_var, S_C, S_op1, k1_, S_op2, k2_, k2b_, S_nil, S_cons, kc_, kcb_, S_opN, kN_, S_tup, S_lst, kT_u, kL_u, stoL_nil, stoL_dat, stoL_own, consO_some, SatO_some, S_call, kCall_u, S_if, S_ifS, kI_true, kI_false, S_andV, S_orV, kAndV_true, kAndV_false, kOrV_true, kOrV_false, S_test, kTest_, S_tru, kTru_, S_and, S_or, S_not, kAnd_true, kAnd_false, kOr_true, kOr_false, kNot_, S_seq, kS_nx, kS_rt, kS_bk, kS_ct, S_pass, S_set, kSet_dat, kSet_own, S_par, kP_, kPb_, S_ret', kR_, S_retN, S_break, S_cont, S_for, kF_, S_forNil, kFb_nx, kFb_ct, kFb_bk, kFb_rt, S_items, kItems_tup, kItems_lst, kItems_own, S_lc, kLc_, S_lcNil, S_yes, kD_rt, kD_nx, Rv.ret, gt, st, kVar_dat, kVar_own, o_add, o_sub, o_eq, o_ne, o_lt, o_le, o_gt, o_ge, o_eqB, o_neB, o_is2, o_isnot2, o_abs, o_ix, o_ixO, o_ixB, o_ixL, o_tupO, o_isBool, map_some', wp, tgN_, List.length_cons, List.length_nil, Nat.reduceAdd, Nat.reduceLeDiff, true_and, decide_true, decide_false, Bool.not_true, Bool.not_false, o_mul_u, o_div_u, o_mod_u, o_pow_u, o_eqS, o_neS, o_intB, o_lenS, o_lenO, o_lenB, o_iaddI, S_s1, kS1_, kS1b_, S_lm, kLm_bor, kLm_own, kLmb_, S_tab, o_ixT, o_ixS, S_put, kPut_, kPutK_, S_zip2, kZip_, kZipb_tup, o_sum, o_sumB, o_tupB, o_tupL, o_lenT, S_range1, kRng_3, S_tgtL, kTgtL_, List.nil_append, List.cons_append, Nat.reduceLT, SZ, forall_const, true_implies, e1, e2]
    rw [S_put rfl]
    simp only [S_var, S_C, S_op1, k1_, S_op2, k2_, k2b_, S_nil, S_cons, kc_, kcb_, S_opN, kN_, S_tup, S_lst, kT_u, kL_u, stoL_nil, stoL_dat, stoL_own, consO_some, SatO_some, S_call, kCall_u, S_if, S_ifS, kI_true, kI_false, S_andV, S_orV, kAndV_true, kAndV_false, kOrV_true, kOrV_false, S_test, kTest_, S_tru, kTru_, S_and, S_or, S_not, kAnd_true, kAnd_false, kOr_true, kOr_false, kNot_, S_seq, kS_nx, kS_rt, kS_bk, kS_ct, S_pass, S_set, kSet_dat, kSet_own, S_par, kP_, kPb_, S_ret', kR_, S_retN, S_break, S_cont, S_for, kF_, S_forNil, kFb_nx, kFb_ct, kFb_bk, kFb_rt, S_items, kItems_tup, kItems_lst, kItems_own, S_lc, kLc_, S_lcNil, S_yes, kD_rt, kD_nx, Rv.ret, gt, st, kVar_dat, kVar_own, o_add, o_sub, o_eq, o_ne, o_lt, o_le, o_gt, o_ge, o_eqB, o_neB, o_is2, o_isnot2, o_abs, o_ix, o_ixO, o_ixB, o_ixL, o_tupO, o_isBool, map_some', wp, tgN_, List.length_cons, List.length_nil, Nat.reduceAdd, Nat.reduceLeDiff, true_and, decide_true, decide_false, Bool.not_true, Bool.not_false, o_mul_u, o_div_u, o_mod_u, o_pow_u, o_eqS, o_neS, o_intB, o_lenS, o_lenO, o_lenB, o_iaddI, S_s1, kS1_, kS1b_, S_lm, kLm_bor, kLm_own, kLmb_, S_tab, o_ixT, o_ixS, S_put, kPut_, kPutK_, S_zip2, kZip_, kZipb_tup, o_sum, o_sumB, o_tupB, o_tupL, o_lenT, S_range1, kRng_3, S_tgtL, kTgtL_, List.nil_append, List.cons_append, Nat.reduceLT, SZ, forall_const, true_implies]
    rw [ixNnat (by rw [List.length_set, rowU_len]; omega)]
    simp only [S_var, S_C, S_op1, k1_, S_op2, k2_, k2b_, S_nil, S_cons, kc_, kcb_, S_opN, kN_, S_tup, S_lst, kT_u, kL_u, stoL_nil, stoL_dat, stoL_own, consO_some, SatO_some, S_call, kCall_u, S_if, S_ifS, kI_true, kI_false, S_andV, S_orV, kAndV_true, kAndV_false, kOrV_true, kOrV_false, S_test, kTest_, S_tru, kTru_, S_and, S_or, S_not, kAnd_true, kAnd_false, kOr_true, kOr_false, kNot_, S_seq, kS_nx, kS_rt, kS_bk, kS_ct, S_pass, S_set, kSet_dat, kSet_own, S_par, kP_, kPb_, S_ret', kR_, S_retN, S_break, S_cont, S_for, kF_, S_forNil, kFb_nx, kFb_ct, kFb_bk, kFb_rt, S_items, kItems_tup, kItems_lst, kItems_own, S_lc, kLc_, S_lcNil, S_yes, kD_rt, kD_nx, Rv.ret, gt, st, kVar_dat, kVar_own, o_add, o_sub, o_eq, o_ne, o_lt, o_le, o_gt, o_ge, o_eqB, o_neB, o_is2, o_isnot2, o_abs, o_ix, o_ixO, o_ixB, o_ixL, o_tupO, o_isBool, map_some', wp, tgN_, List.length_cons, List.length_nil, Nat.reduceAdd, Nat.reduceLeDiff, true_and, decide_true, decide_false, Bool.not_true, Bool.not_false, o_mul_u, o_div_u, o_mod_u, o_pow_u, o_eqS, o_neS, o_intB, o_lenS, o_lenO, o_lenB, o_iaddI, S_s1, kS1_, kS1b_, S_lm, kLm_bor, kLm_own, kLmb_, S_tab, o_ixT, o_ixS, S_put, kPut_, kPutK_, S_zip2, kZip_, kZipb_tup, o_sum, o_sumB, o_tupB, o_tupL, o_lenT, S_range1, kRng_3, S_tgtL, kTgtL_, List.nil_append, List.cons_append, Nat.reduceLT, SZ, forall_const, true_implies]
    refine q _ _ rfl ?_
    rw [List.set_set]
    have e0 : D.tup [.int 0, .int 0, .int 0] = vd (RTw p xs ys i j) := by rw [ei, ej, RTw_end]; rfl
    rw [e0, curU_put hj]
theorem S_innerR {b0 : Nat} {i b j : Nat} {x7 x8 x12 x13 x14 x15 x16 : Sl} {Q : Fl → LS → Prop} (hp : Pos p.1 p.2.1 p.2.2) (hl : Lt3 b0 p) (hb : b0 ≤ 1000) (hx : xs.length ≤ 30) (hy : ys.length ≤ 30) (hi : i ≤ xs.length) (hj : ys.length = j + b) (h8 : i < xs.length → x8 = .dat (.lst (rowU ys.length (RTw p xs ys (i + 1)))))
    (q : ∀ f g, g = s → (∃ x12 x13 x14 x15 : Sl, f = .nx [.dat (.str xs), .dat (.str ys), .dat (vd p), .dat (.int p.1), .dat (.int p.2.1), .dat (.int p.2.2), .dat (.int (far4 p)), x7, x8, .dat (.int (i : Nat)), .own (rowU ys.length (curU p xs ys i (b + 1))), .dat (.int (j : Nat)), x12, x13, x14, x15, x16]) → Q f g) :
    Sat (innerR [.dat (.str xs), .dat (.str ys), .dat (vd p), .dat (.int p.1), .dat (.int p.2.1), .dat (.int p.2.2), .dat (.int (far4 p)), x7, x8, .dat (.int (i : Nat)), .own (rowU ys.length (curU p xs ys i b)), .dat (.int (j : Nat)), x12, x13, x14, x15, x16] s) Q := by
  have lp := hl.x
  have hbp : p.1.natAbs < 2 ^ 1000 := ltUp lp hb
  unfold innerR
  have par3 : ∀ (e : Env) (g : LS) (d : D), gt e 6 = .dat d → mPar3 12 13 14 (mVar 6) (mVar 6) (mVar 6) e g = .ok (.nx (st (st (st e 12 (.dat d)) 13 (.dat d)) 14 (.dat d))) g := fun e g d h => by
    unfold mPar3 mVar
    rw [h]
    rfl
  rw [S_seq, par3 _ _ _ rfl, Sat_ok, kS_nx]
  simp only [st]
  have jn1 : ((j : Nat) : Int) + 1 = ((j + 1 : Nat) : Int) := by omega
  -- the third stage
  have stage3 : ∀ (K G : Int) (x15 : Sl), K = keptW p xs ys i j → G = goneW p xs ys i j → Sat (mSeq (mIfS (mTest (mOp2 oLt (mVar 11) (mOpN oLen (mCons (mVar 1) mNil)))) (mSet 14 (mOp2 oAdd (mOp2 oIx (mOp2 oIx (mVar 10) (mOp2 oAdd (mVar 11) (mC (.int 1)))) (mC (.int 2))) (mVar 4))) mPass) restR [.dat (.str xs), .dat (.str ys), .dat (vd p), .dat (.int p.1), .dat (.int p.2.1), .dat (.int p.2.2), .dat (.int (far4 p)), x7, x8, .dat (.int (i : Nat)), .own (rowU ys.length (curU p xs ys i b)), .dat (.int (j : Nat)), .dat (.int K), .dat (.int G), .dat (.int (far4 p)), x15, x16] s) Q := by
    intro K G x15 hK hG
    rw [S_seq, S_ifS, S_test]
    simp only [S_op2, S_var, gt, kVar_dat, k2_, S_opN, S_cons, kc_, S_nil, kcb_, kN_, o_lenS, SatO_some, k2b_, o_lt, kTest_]
    by_cases c2 : j < ys.length
    · rw [decide_eq_true (show ((j : Nat) : Int) < ys.length by omega), kI_true]
      have e10 : oIx (.bor (rowU ys.length (curU p xs ys i b))) (.dat (.int ((j + 1 : Nat) : Int))) = some (.dat (vd (RTw p xs ys i (j + 1)))) := by
        show (atI (rowU ys.length (curU p xs ys i b)) ((j + 1 : Nat) : Int)).map Rv.dat = _
        rw [rowU_at (by omega)]
        unfold curU
        rw [if_pos (by omega)]
        rfl
      simp only [S_set, S_op2, S_var, gt, kVar_dat, kVar_own, k2_, S_C, k2b_, o_add, SatO_some, jn1, e10, oIx_vd, kSet_dat, kS_nx, st]
      refine S_restR hp hx hy hi hj hK hG (by unfold putW; rw [if_pos c2]) fun f g hg hf => q f g hg ?_
      exact ⟨_, _, _, _, hf⟩
    · rw [decide_eq_false (show ¬ ((j : Nat) : Int) < ys.length by omega), kI_false, S_pass, kS_nx]
      refine S_restR hp hx hy hi hj hK hG (by unfold putW; rw [if_neg c2]) fun f g hg hf => q f g hg ?_
      exact ⟨_, _, _, _, hf⟩
  have stage2 : ∀ (K : Int) (x15 : Sl), K = keptW p xs ys i j → Sat (mSeq (mIfS (mTest (mOp2 oLt (mVar 9) (mOpN oLen (mCons (mVar 0) mNil)))) (mSet 13 (mOp2 oAdd (mOp2 oIx (mOp2 oIx (mVar 8) (mVar 11)) (mC (.int 1))) (mVar 4))) mPass) (mSeq (mIfS (mTest (mOp2 oLt (mVar 11) (mOpN oLen (mCons (mVar 1) mNil)))) (mSet 14 (mOp2 oAdd (mOp2 oIx (mOp2 oIx (mVar 10) (mOp2 oAdd (mVar 11) (mC (.int 1)))) (mC (.int 2))) (mVar 4))) mPass) restR) [.dat (.str xs), .dat (.str ys), .dat (vd p), .dat (.int p.1), .dat (.int p.2.1), .dat (.int p.2.2), .dat (.int (far4 p)), x7, x8, .dat (.int (i : Nat)), .own (rowU ys.length (curU p xs ys i b)), .dat (.int (j : Nat)), .dat (.int K), .dat (.int (far4 p)), .dat (.int (far4 p)), x15, x16] s) Q := by
    intro K x15 hK
    rw [S_seq, S_ifS, S_test]
    simp only [S_op2, S_var, gt, kVar_dat, k2_, S_opN, S_cons, kc_, S_nil, kcb_, kN_, o_lenS, SatO_some, k2b_, o_lt, kTest_]
    by_cases c1 : i < xs.length
    · rw [decide_eq_true (show ((i : Nat) : Int) < xs.length by omega), kI_true]
      have e8 : oIx (.dat (.lst (rowU ys.length (RTw p xs ys (i + 1))))) (.dat (.int (j : Nat))) = some (.dat (vd (RTw p xs ys (i + 1) j))) := by
        show (atI (rowU ys.length (RTw p xs ys (i + 1))) ((j : Nat) : Int)).map Rv.dat = _
        rw [rowU_at (by omega)]
        rfl
      have h8 := h8 c1
      subst h8
      simp only [S_set, S_op2, S_var, gt, kVar_dat, kVar_own, k2_, S_C, k2b_, o_add, SatO_some, e8, oIx_vd, kSet_dat, kS_nx, st]
      exact stage3 K _ x15 hK (by unfold goneW; rw [if_pos c1])
    · rw [decide_eq_false (show ¬ ((i : Nat) : Int) < xs.length by omega), kI_false, S_pass, kS_nx]
      exact stage3 K _ x15 hK (by unfold goneW; rw [if_neg c1])
  rw [S_seq, S_ifS, S_and]
  simp only [S_test, S_op2, S_var, gt, kVar_dat, k2_, S_opN, S_cons, kc_, S_nil, kcb_, kN_, o_lenS, SatO_some, k2b_, o_lt, kTest_]
  by_cases c1 : i < xs.length
  · rw [decide_eq_true (show ((i : Nat) : Int) < xs.length by omega), kAnd_true]
    simp only [S_test, S_op2, S_var, gt, kVar_dat, k2_, S_opN, S_cons, kc_, S_nil, kcb_, kN_, o_lenS, SatO_some, k2b_, o_lt, kTest_]
    by_cases c2 : j < ys.length
    · rw [decide_eq_true (show ((j : Nat) : Int) < ys.length by omega), kI_true]
      have e8 : oIx (.dat (.lst (rowU ys.length (RTw p xs ys (i + 1))))) (.dat (.int ((j + 1 : Nat) : Int))) = some (.dat (vd (RTw p xs ys (i + 1) (j + 1)))) := by
        show (atI (rowU ys.length (RTw p xs ys (i + 1))) ((j + 1 : Nat) : Int)).map Rv.dat = _
        rw [rowU_at (by omega)]
        rfl
      have ne1E : p.1 * (if (!([xs[i]] == [ys[j]])) = true then 1 else 0) = ne1 p.1 xs[i] ys[j] := by
        unfold ne1
        by_cases hq : xs[i] = ys[j]
        · rw [if_pos hq, hq]
          simp
        · rw [if_neg hq]
          simp [hq]
      have h8' := h8 c1
      subst h8'
      simp only [S_seq, S_set, S_op2, S_var, gt, kVar_dat, k2_, S_opN, S_cons, kc_, S_nil, kcb_, kN_, SatO_some, k2b_, S_C, o_ixS, atIat c1, atIat c2, map_some', o_neS, o_intB, o_mul_u]
      rw [ne1E]
      refine ⟨mulOk (a := 1000) (b := 2) (by omega) (by split <;> decide) (by decide) (by decide) (by decide), ?_⟩
      simp only [kSet_dat, kS_nx, st, S_set, S_op2, S_var, gt, kVar_dat, k2_, S_C, k2b_, o_add, SatO_some, jn1, e8, oIx_vd]
      exact stage2 _ _ (by unfold keptW; rw [dif_pos ⟨c1, c2⟩])
    · rw [decide_eq_false (show ¬ ((j : Nat) : Int) < ys.length by omega), kI_false, S_pass, kS_nx]
      exact stage2 _ _ (by unfold keptW; rw [dif_neg (fun z => c2 z.2)])
  · rw [decide_eq_false (show ¬ ((i : Nat) : Int) < xs.length by omega), kAnd_false, kI_false, S_pass, kS_nx]
    exact stage2 _ _ (by unfold keptW; rw [dif_neg (fun z => c1 z.1)])
def rowsC (p : V3) (xs ys : List Nat) (a : Nat) : List D := (List.range (xs.length + 1)).map fun i => if xs.length < i + a then .lst (rowU ys.length (RTw p xs ys i)) else .lst []
theorem rowsC_set {a i : Nat} (hi : xs.length = i + a) : (rowsC p xs ys a).set i (.lst (rowU ys.length (RTw p xs ys i))) = rowsC p xs ys (a + 1) := by
  apply List.ext_getElem
  · simp [rowsC]
  · intro k h1 h2
    rw [List.getElem_set]
    by_cases hk : i = k
    · subst hk
      simp only [rowsC, List.getElem_map, List.getElem_range, if_true]
      rw [if_pos (by omega)]
    · rw [if_neg hk]
      simp only [rowsC, List.getElem_map, List.getElem_range]
      by_cases h : xs.length < k + a
      · rw [if_pos h, if_pos (by omega)]
      · rw [if_neg h, if_neg (by omega)]
theorem S_lrests2 {b0 : Nat} {Q : Rv → LS → Prop} (hp : Pos p.1 p.2.1 p.2.2) (hl : Lt3 b0 p) (hb : b0 ≤ 1000) (hx : xs.length ≤ 30) (hy : ys.length ≤ 30) (q : Q (.own (rowsU xs.length ys.length (RTw p xs ys))) s) : Sat (l_rests2F [.str xs, .str ys, vd p] s) Q := by
  have o1 : ∀ z : Int, oNeg (.dat (.int z)) = some (.dat (.int (-z))) := fun z => rfl
  unfold l_rests2F
  rw [S_def (k := 3) (ds := [.str xs, .str ys, vd p]) rfl]
  show Sat (l_rests2M [.dat (.str xs), .dat (.str ys), .dat (vd p), .un, .un, .un, .un, .un, .un, .un, .un, .un, .un, .un, .un, .un, .un] s) _
  have hM : l_rests2M = mSeq (mTgt (tgT [3, 4, 5]) (mVar 2))
    (mSeq (mSet 6 (mOp2 oAdd (mOp2 oMul (mC (.int 100)) (mOp2 oAdd (mOp2 oAdd (mVar 3) (mVar 4)) (mVar 5))) (mC (.int 1))))
    (mSeq (mSet 7 (mLc (mRange1 (mOp2 oAdd (mOpN oLen (mCons (mVar 0) mNil)) (mC (.int 1)))) (tgN 16) mYes (mLst mNil) [16]))
    (mSeq (mSet 8 (mLst mNil))
    (mSeq (mFor (mRangeA (mCons (mOpN oLen (mCons (mVar 0) mNil)) (mCons (mOp1 oNeg (mC (.int 1))) (mCons (mOp1 oNeg (mC (.int 1))) mNil)))) (tgN 9) (mSeq (mSet 10 (mOp2 oRep (mLst (mCons (mTup (mCons (mVar 6) (mCons (mVar 6) (mCons (mVar 6) mNil)))) mNil)) (mOp2 oAdd (mOpN oLen (mCons (mVar 1) mNil)) (mC (.int 1)))))
    (mSeq (mFor (mRangeA (mCons (mOpN oLen (mCons (mVar 1) mNil)) (mCons (mOp1 oNeg (mC (.int 1))) (mCons (mOp1 oNeg (mC (.int 1))) mNil)))) (tgN 11) innerR)
    (mSeq (mFrz 10) (mSeq (mPut 7 (mVar 9) (mVar 10))
    (mSet 8 (mVar 10)))))))
    (mRet (mVar 7)))))) := rfl
  rw [hM]
  have hs3 : (p.1 + p.2.1 + p.2.2).natAbs < 2 ^ 1003 := by
    have h1 := ltUp hl.x hb
    have h2 := ltUp hl.y hb
    have h3 := ltUp hl.z hb
    have : (2 : Nat) ^ 1003 = 8 * 2 ^ 1000 := by decide
    omega
  rw [S_seq, S_tgt, S_var]
  simp only [gt, kVar_dat]
  rw [kTgt_ (d := vd p) (e1 := _) rfl, kS_nx]
  simp only [st]
  rw [S_seq, S_set]
  simp only [S_op2, S_C, S_var, gt, kVar_dat, k2_, k2b_, o_add, SatO_some, o_mul_u]
  refine ⟨mulOk (a := 100) (b := 1003) (by decide) hs3 (by decide) (by decide) (by decide), ?_⟩
  have ef : (100 * (p.1 + p.2.1 + p.2.2) + 1 : Int) = far4 p := rfl
  rw [ef]
  rw [kSet_dat, kS_nx]
  simp only [st]
  rw [S_seq, S_set, S_lc]
  simp only [S_range1, S_op2, S_opN, S_cons, S_var, gt, kVar_dat, kc_, S_nil, kcb_, kN_, o_lenS, SatO_some, k2_, S_C, k2b_, o_add]
  rw [show ((xs.length : Nat) : Int) + 1 = ((xs.length + 1 : Nat) : Int) by omega]
  refine kRngU (by omega) ?_
  rw [kLc_]
  refine S_lcA (List.range (xs.length + 1)) (fun k => D.int (k : Nat)) (fun _ => .lst []) (by rw [List.length_range]; show _ ≤ 16777216; omega) (fun k hk => ⟨_, rfl, ?_⟩) ?_
  · simp only [S_yes]
    refine ⟨trivial, trivial, ?_⟩
    simp only [S_lst, S_nil, kL_u, stoL_nil, SatO_some, List.length_nil]
    first
      | exact ⟨by show 0 ≤ 16777216; omega, rfl, rfl⟩
      | exact ⟨by show 0 ≤ 16777216; omega, trivial, rfl⟩
      | exact ⟨by show 0 ≤ 16777216; omega, rfl, trivial⟩
  have e0 : (List.range (xs.length + 1)).map (fun _ => D.lst []) = rowsC p xs ys 0 := by
    apply List.map_congr_left
    intro k hk
    have := List.mem_range.mp hk
    rw [if_neg (by omega)]
  rw [e0, kSet_own, kS_nx]
  simp only [st]
  rw [S_seq, S_set]
  simp only [S_lst, S_nil, kL_u, stoL_nil, SatO_some, List.length_nil, SZ]
  refine ⟨by omega, ?_⟩
  rw [kSet_own, kS_nx]
  simp only [st]
  rw [S_seq, S_for, S_rangeA]
  simp only [S_cons, S_opN, S_op1, k1_, o1, S_C, S_var, gt, kVar_dat, kc_, S_nil, kcb_, kN_, o_lenS, SatO_some]
  refine kRA_down (by omega) ?_
  rw [kF_]
  refine S_forA (List.range (xs.length + 1)) (fun k => D.int ((xs.length : Int) - (k : Nat))) (fun pre _ e g => g = s ∧ ∃ x8 x9 x10 x11 x12 x13 x14 x15 x16 : Sl, (0 < pre.length → x8 = .dat (.lst (rowU ys.length (RTw p xs ys (xs.length + 1 - pre.length))))) ∧ e = [.dat (.str xs), .dat (.str ys), .dat (vd p), .dat (.int p.1), .dat (.int p.2.1), .dat (.int p.2.2), .dat (.int (far4 p)), .own (rowsC p xs ys pre.length), x8, x9, x10, x11, x12, x13, x14, x15, x16]) ⟨rfl, _, _, _, _, _, _, _, _, _, (fun h => absurd h (by decide)), rfl⟩ ?_ ?_
  · rintro pre k post e g hr ⟨rfl, x8, x9, x10, x11, x12, x13, x14, x15, x16, h8, rfl⟩
    refine ⟨_, rfl, ?_⟩
    obtain ⟨hk, hk2⟩ := range_pre hr
    obtain ⟨i, hi⟩ : ∃ i : Nat, xs.length = i + pre.length := ⟨xs.length - k, by omega⟩
    have ei : (xs.length : Int) - (k : Nat) = (i : Nat) := by omega
    rw [ei]
    simp only [st]
    have h8' : i < xs.length → x8 = .dat (.lst (rowU ys.length (RTw p xs ys (i + 1)))) := fun h => by
      rw [h8 (by omega), show xs.length + 1 - pre.length = i + 1 by omega]
    rw [S_seq, S_set]
    simp only [S_op2, S_lst, S_tup, S_opN, S_cons, S_C, S_var, gt, kVar_dat, kc_, S_nil, kcb_, kT_u, kL_u, kN_, o_lenS, SatO_some, stoL_dat, stoL_nil, consO_some, List.length_cons, List.length_nil, k2_, k2b_, o_add]
    refine ⟨by decide, by decide, ?_⟩
    have erep : oRep (.own [.tup [.int (far4 p), .int (far4 p), .int (far4 p)]]) (.dat (.int ((ys.length : Nat) + 1))) = some (.own (rowU ys.length (curU p xs ys i 0))) := by
      have h1 : oRep (.own [.tup [.int (far4 p), .int (far4 p), .int (far4 p)]]) (.dat (.int ((ys.length : Nat) + 1))) = some (.own (List.replicate ((ys.length : Int) + 1).toNat [.tup [.int (far4 p), .int (far4 p), .int (far4 p)]]).flatten) := if_pos ⟨by show 1 * _ ≤ 16777216; omega, by
        rw [show ((ys.length : Nat) : Int) + 1 = ((ys.length + 1 : Nat) : Int) by omega]
        exact rng_ok (by omega)⟩
      rw [h1, show ((ys.length : Int) + 1).toNat = ys.length + 1 by omega]
      congr 2
      have e2 : rowU ys.length (curU p xs ys i 0) = List.replicate (ys.length + 1) (.tup [.int (far4 p), .int (far4 p), .int (far4 p)]) := by
        rw [List.eq_replicate_iff]
        refine ⟨rowU_len _ _, fun d hd => ?_⟩
        obtain ⟨j, hj, rfl⟩ := List.mem_map.mp hd
        have := List.mem_range.mp hj
        unfold curU
        rw [if_neg (by omega)]
        rfl
      rw [e2]
      generalize ys.length + 1 = n
      generalize D.tup [.int (far4 p), .int (far4 p), .int (far4 p)] = d
      induction n with
      | zero => rfl
      | succ n ih => rw [List.replicate_succ, List.flatten_cons, ih, List.replicate_succ]; rfl
    rw [erep, SatO_some, kSet_own, kS_nx]
    simp only [st]
    rw [S_seq, S_for, S_rangeA]
    simp only [S_cons, S_opN, S_op1, k1_, o1, S_C, S_var, gt, kVar_dat, kc_, S_nil, kcb_, kN_, o_lenS, SatO_some]
    refine kRA_down (by omega) ?_
    rw [kF_]
    refine S_forA (List.range (ys.length + 1)) (fun k => D.int ((ys.length : Int) - (k : Nat))) (fun pr _ e g2 => g2 = g ∧ ∃ x11 x12 x13 x14 x15 : Sl, e = [.dat (.str xs), .dat (.str ys), .dat (vd p), .dat (.int p.1), .dat (.int p.2.1), .dat (.int p.2.2), .dat (.int (far4 p)), .own (rowsC p xs ys pre.length), x8, .dat (.int (i : Nat)), .own (rowU ys.length (curU p xs ys i pr.length)), x11, x12, x13, x14, x15, x16]) ⟨rfl, _, _, _, _, _, rfl⟩ ?_ ?_
    · rintro pr k2 post2 e g2 hr2 ⟨rfl, y11, y12, y13, y14, y15, rfl⟩
      refine ⟨_, rfl, ?_⟩
      obtain ⟨hk3, hk4⟩ := range_pre hr2
      obtain ⟨j, hj⟩ : ∃ j : Nat, ys.length = j + pr.length := ⟨ys.length - k2, by omega⟩
      have ej : (ys.length : Int) - (k2 : Nat) = (j : Nat) := by omega
      rw [ej]
      have hlen : (pr ++ [k2]).length = pr.length + 1 := by simp
      rw [hlen]
      simp only [st]
      refine S_innerR hp hl hb hx hy (by omega) hj h8' fun f g3 hg hf => ?_
      obtain ⟨z12, z13, z14, z15, rfl⟩ := hf
      exact ⟨hg, _, _, _, _, _, rfl⟩
    · rintro e g2 ⟨rfl, y11, y12, y13, y14, y15, rfl⟩
      rw [kS_nx, List.length_range]
      have er : rowU ys.length (curU p xs ys i (ys.length + 1)) = rowU ys.length (RTw p xs ys i) := rowU_congr fun j hj => by
        unfold curU
        rw [if_pos (by omega)]
      rw [er, S_seq, S_frz_own rfl, kS_nx]
      simp only [st]
      rw [S_seq, S_put rfl]
      simp only [S_var, gt, kVar_dat, kPut_, kPutK_]
      rw [ixNnat (by simp [rowsC]; omega)]
      simp only [SatO_some, kS_nx, st]
      rw [rowsC_set hi, S_set, S_var]
      simp only [gt, kVar_dat, kSet_dat, st]
      have hlen : (pre ++ [k]).length = pre.length + 1 := by simp
      rw [hlen]
      refine ⟨trivial, _, _, _, _, _, _, _, _, _, fun _ => ?_, rfl⟩
      rw [show xs.length + 1 - (pre.length + 1) = i by omega]
  · rintro e g ⟨rfl, x8, x9, x10, x11, x12, x13, x14, x15, x16, h8, rfl⟩
    rw [kS_nx, List.length_range]
    have er : rowsC p xs ys (xs.length + 1) = rowsU xs.length ys.length (RTw p xs ys) := by
      apply List.map_congr_left
      intro i hi
      have := List.mem_range.mp hi
      rw [if_pos (by omega)]
    rw [er]
    simp only [S_ret', S_var, gt, kVar_own, kR_, kD_rt, Rv.ret]
    exact q
end
end PB
set_option Elab.async false
set_option linter.all false
set_option maxRecDepth 10000
set_option maxHeartbeats 4000000
set_option exponentiation.threshold 2000
namespace PB
def l_go_onM : MS LS := (mSeq (mTgt (tgT [5, 6, 7]) (mVar 2))
    (mSeq (mTgt (tgT [8, 9, 10]) (mVar 4))
    (mSeq (mSet 11 (mOp2 oIx (mOp2 oIx (mOp2 oIx (mVar 3) (mVar 8)) (mVar 9)) (mVar 10)))
    (mSeq (mSet 12 (mLst mNil))
    (mSeq (mIfS (mAnd (mTest (mOp2 oLt (mVar 8) (mOpN oLen (mCons (mVar 0) mNil)))) (mTest (mOp2 oLt (mVar 9) (mOpN oLen (mCons (mVar 1) mNil))))) (mSeq (mSet 13 (mOp2 oMul (mVar 5) (mOpN oInt (mCons (mOp2 oNe (mOp2 oIx (mVar 0) (mVar 8)) (mOp2 oIx (mVar 1) (mVar 9))) mNil))))
    (mIfS (mTest (mOp2 oEq (mOp2 oAdd (mOp2 oIx (mOp2 oIx (mOp2 oIx (mVar 3) (mOp2 oAdd (mVar 8) (mC (.int 1)))) (mOp2 oAdd (mVar 9) (mC (.int 1)))) (mC (.int 0))) (mVar 13)) (mVar 11))) (mApp 12 (mTup (mCons (mC (.int 0)) (mCons (mTup (mCons (mOp2 oAdd (mVar 8) (mC (.int 1))) (mCons (mOp2 oAdd (mVar 9) (mC (.int 1))) (mCons (mC (.int 0)) mNil)))) mNil)))) mPass)) mPass)
    (mSeq (mIfS (mAnd (mTest (mOp2 oLt (mVar 8) (mOpN oLen (mCons (mVar 0) mNil)))) (mTest (mOp2 oEq (mOp2 oAdd (mOp2 oAdd (mOp2 oIx (mOp2 oIx (mOp2 oIx (mVar 3) (mOp2 oAdd (mVar 8) (mC (.int 1)))) (mVar 9)) (mC (.int 1))) (mVar 6)) (mOp2 oMul (mVar 7) (mOpN oInt (mCons (mOp2 oNe (mVar 10) (mC (.int 1))) mNil)))) (mVar 11)))) (mApp 12 (mTup (mCons (mC (.int 1)) (mCons (mTup (mCons (mOp2 oAdd (mVar 8) (mC (.int 1))) (mCons (mVar 9) (mCons (mC (.int 1)) mNil)))) mNil)))) mPass)
    (mSeq (mIfS (mAnd (mTest (mOp2 oLt (mVar 9) (mOpN oLen (mCons (mVar 1) mNil)))) (mTest (mOp2 oEq (mOp2 oAdd (mOp2 oAdd (mOp2 oIx (mOp2 oIx (mOp2 oIx (mVar 3) (mVar 8)) (mOp2 oAdd (mVar 9) (mC (.int 1)))) (mC (.int 2))) (mVar 6)) (mOp2 oMul (mVar 7) (mOpN oInt (mCons (mOp2 oNe (mVar 10) (mC (.int 2))) mNil)))) (mVar 11)))) (mApp 12 (mTup (mCons (mC (.int 2)) (mCons (mTup (mCons (mVar 8) (mCons (mOp2 oAdd (mVar 9) (mC (.int 1))) (mCons (mC (.int 2)) mNil)))) mNil)))) mPass)
    (mRet (mVar 12)))))))))
def l_go_onF : MF LS := mDef 14 5 (l_go_onM)
def l_waysM : MS LS := (mSeq (mSet 3 (mCall l_rests2F (mCons (mVar 0) (mCons (mVar 1) (mCons (mVar 2) mNil)))))
    (mSeq (mDNew true 4)
    (mSeq (mFor (mRangeA (mCons (mOpN oLen (mCons (mVar 0) mNil)) (mCons (mOp1 oNeg (mC (.int 1))) (mCons (mOp1 oNeg (mC (.int 1))) mNil)))) (tgN 5) (mFor (mRangeA (mCons (mOpN oLen (mCons (mVar 1) mNil)) (mCons (mOp1 oNeg (mC (.int 1))) (mCons (mOp1 oNeg (mC (.int 1))) mNil)))) (tgN 6) (mFor (mRange1 (mC (.int 3))) (tgN 7) (mSeq (mFrz 3) (mSeq (mSet 8 (mCall l_go_onF (mCons (mVar 0) (mCons (mVar 1) (mCons (mVar 2) (mCons (mVar 3) (mCons (mTup (mCons (mVar 5) (mCons (mVar 6) (mCons (mVar 7) mNil)))) mNil)))))))
    (mSeq (mFrz 8) (mSeq (mDPut 4 (mTup (mCons (mVar 5) (mCons (mVar 6) (mCons (mVar 7) mNil)))) (mOpN oSum (mCons (mLc (mItems (mVar 8)) (tgT [9, 10]) mYes (mDGet 4 (mVar 10)) [9, 10]) mNil)))
    (mIfS (mAnd (mTest (mOp2 oEq (mVar 5) (mOpN oLen (mCons (mVar 0) mNil)))) (mTest (mOp2 oEq (mVar 6) (mOpN oLen (mCons (mVar 1) mNil))))) (mDPut 4 (mTup (mCons (mVar 5) (mCons (mVar 6) (mCons (mVar 7) mNil)))) (mC (.int 1))) mPass))))))))
    (mSeq (mFrz 4) (mRet (mVar 4))))))
def l_waysF : MF LS := mDef 11 3 (l_waysM)
def l_unlikeM : MS LS := (mSeq (mSet 2 (mOpN oListS (mCons (mC (.str [97, 98, 99, 100, 101, 102, 103, 104, 105, 106, 107, 108, 109, 110, 111, 112, 113, 114, 115, 116, 117, 118, 119, 120, 121, 122])) mNil)))
    (mRetPop 2 (mRange1 (mVar 1)) (tgN 3) (mCons (mCall drawF (mCons (mVar 0) (mCons (mOpN oLen (mCons (mVar 2) mNil)) mNil))) mNil) [3]))
def l_unlikeF : MF LS := mDef 4 2 (l_unlikeM)
def l_chosenM : MS LS := (mSeq (mSet 2 (mC (.int 1)))
    (mSeq (mFor (mRange1 (mVar 1)) (tgN 3) (mSet 2 (mOp2 oDiv (mOp2 oMul (mVar 2) (mOp2 oSub (mVar 0) (mVar 3))) (mOp2 oAdd (mVar 3) (mC (.int 1))))))
    (mRet (mVar 2))))
def l_chosenF : MF LS := mDef 4 2 (l_chosenM)
section
variable {b : Nat} {p : V3} {xs ys : List Nat}
theorem o_lrow {n m i : Nat} {f : Nat → Nat → V3} (h : i ≤ n) : oIx (.dat (.lst (rowsU n m f))) (.dat (.int (i : Nat))) = some (.dat (.lst (rowU m (f i)))) := by
  show (atI (rowsU n m f) ((i : Nat) : Int)).map Rv.dat = _
  have hl : i < (rowsU n m f).length := by
    unfold rowsU
    rw [List.length_map, List.length_range]
    omega
  rw [atIat hl]
  have : (rowsU n m f)[i] = .lst (rowU m (f i)) := by simp [rowsU]
  rw [this]
  rfl
theorem o_lrowC {m j : Nat} {f : Nat → V3} (h : j ≤ m) : oIx (.dat (.lst (rowU m f))) (.dat (.int (j : Nat))) = some (.dat (vd (f j))) := by
  show (atI (rowU m f) ((j : Nat) : Int)).map Rv.dat = _
  rw [rowU_at h]
  rfl
theorem lrowsIx {γ : Type} {e : Env} {g : γ} {n m i j : Nat} {f : Nat → Nat → V3} {ma mb : ME γ} (h : gt e 3 = .dat (.lst (rowsU n m f))) (ha : ma e g = .ok (.dat (.int (i : Nat))) g) (hb : mb e g = .ok (.dat (.int (j : Nat))) g) (hi : i ≤ n) (hj : j ≤ m) :
    mOp2 oIx (mOp2 oIx (mVar 3) ma) mb e g = .ok (.dat (vd (f i j))) g := Sat.eq fun Q q => by
  rw [S_op2, S_op2, S_var, h, kVar_dat]
  rw [k2_, ha, Sat_ok, k2b_, o_lrow hi, SatO_some, k2_, hb, Sat_ok, k2b_, o_lrowC hj, SatO_some]
  exact q
theorem RTw_c {i j k : Nat} (hk : k ≤ 2) : oIx (.dat (vd (RTw p xs ys i j))) (.dat (.int (k : Nat))) = some (.dat (.int (LcP p xs ys i j k))) := by
  match k, hk with
  | 0, _ => rfl
  | 1, _ => rfl
  | 2, _ => rfl
theorem S_lgoOn {i j k : Nat} {g : LS} {Q : Rv → LS → Prop} (hl : Lt3 b p) (hb : b ≤ 1000) (hi : i ≤ xs.length) (hj : j ≤ ys.length) (hk : k ≤ 2)
    (q : Q (.own ((nextL p xs ys i j k).map nxD)) g) : Sat (l_go_onF [.str xs, .str ys, vd p, .lst (rowsU xs.length ys.length (RTw p xs ys)), pl i j k] g) Q := by
  have hb2 : ∀ x : Int, x.natAbs < 2 ^ b → x.natAbs < 2 ^ 1000 := fun x h => ltUp h hb
  have lo := hb2 _ hl.x
  have lt := hb2 _ hl.z
  rw [← good_next, goodI_st] at q
  unfold l_go_onF
  rw [S_def (k := 5) (ds := [.str xs, .str ys, vd p, .lst (rowsU xs.length ys.length (RTw p xs ys)), pl i j k]) rfl]
  show Sat (l_go_onM [.dat (.str xs), .dat (.str ys), .dat (vd p), .dat (.lst (rowsU xs.length ys.length (RTw p xs ys))), .dat (pl i j k), .un, .un, .un, .un, .un, .un, .un, .un, .un] g) _
  unfold l_go_onM
  rw [S_seq, S_tgt, S_var]
  dsimp only [gt]
  rw [kVar_dat, kTgt_ (show tgT [5, 6, 7] (vd p) _ = some _ from tgT3), kS_nx, S_seq, S_tgt, S_var]
  simp only [st, gt]
  rw [kVar_dat, kTgt_ (tgTpl), kS_nx, S_seq, S_set]
  simp only [st]
  have envR : ∀ (x11 x12 x13 : Sl) (ma mb : ME LS) (i' j' : Nat), ma [.dat (.str xs), .dat (.str ys), .dat (vd p), .dat (.lst (rowsU xs.length ys.length (RTw p xs ys))), .dat (pl i j k), .dat (.int p.1), .dat (.int p.2.1), .dat (.int p.2.2), .dat (.int (i : Nat)), .dat (.int (j : Nat)), .dat (.int (k : Nat)), x11, x12, x13] g = .ok (.dat (.int (i' : Nat))) g → mb [.dat (.str xs), .dat (.str ys), .dat (vd p), .dat (.lst (rowsU xs.length ys.length (RTw p xs ys))), .dat (pl i j k), .dat (.int p.1), .dat (.int p.2.1), .dat (.int p.2.2), .dat (.int (i : Nat)), .dat (.int (j : Nat)), .dat (.int (k : Nat)), x11, x12, x13] g = .ok (.dat (.int (j' : Nat))) g → i' ≤ xs.length → j' ≤ ys.length →
      mOp2 oIx (mOp2 oIx (mVar 3) ma) mb [.dat (.str xs), .dat (.str ys), .dat (vd p), .dat (.lst (rowsU xs.length ys.length (RTw p xs ys))), .dat (pl i j k), .dat (.int p.1), .dat (.int p.2.1), .dat (.int p.2.2), .dat (.int (i : Nat)), .dat (.int (j : Nat)), .dat (.int (k : Nat)), x11, x12, x13] g = .ok (.dat (vd (RTw p xs ys i' j'))) g := fun x11 x12 x13 ma mb i' j' h1 h2 h3 h4 => lrowsIx rfl h1 h2 h3 h4
  have hleft : mOp2 oIx (mOp2 oIx (mOp2 oIx (mVar 3) (mVar 8)) (mVar 9)) (mVar 10) [.dat (.str xs), .dat (.str ys), .dat (vd p), .dat (.lst (rowsU xs.length ys.length (RTw p xs ys))), .dat (pl i j k), .dat (.int p.1), .dat (.int p.2.1), .dat (.int p.2.2), .dat (.int (i : Nat)), .dat (.int (j : Nat)), .dat (.int (k : Nat)), .un, .un, .un] g = .ok (.dat (.int (LcP p xs ys i j k))) g := Sat.eq fun Q q => by
    rw [S_op2, envR _ _ _ _ _ i j rfl rfl hi hj, Sat_ok]
    show Sat (mVar 10 _ g) _
    rw [S_var]
    simp only [gt, kVar_dat, k2b_, RTw_c hk, SatO_some]
    exact q
  rw [hleft, Sat_ok, kSet_dat, kS_nx, S_seq, S_set, S_lst, S_nil, kL_u]
  simp only [stoL_nil, SatO_some, List.length_nil, SZ, st]
  refine ⟨by decide, ?_⟩
  rw [kSet_own, kS_nx]
  simp only [st]
  have neS : ∀ (a b : Nat) (o : Int), o * (if (!([a] == [b])) = true then 1 else 0) = ne1 o a b := by
    intro a b o
    unfold ne1
    by_cases hq : a = b
    · rw [if_pos hq, hq]
      simp
    · rw [if_neg hq]
      simp [hq]
  have swI : ∀ (t : Int) (c : Int) (d : Nat), c = (d : Int) → t * (if (!decide (((k : Nat) : Int) = c)) = true then 1 else 0) = sw t (k == d) := by
    intro t c d hc
    subst hc
    unfold sw
    by_cases hq : k = d
    · subst hq
      simp
    · rw [decide_eq_false (by omega), beq_eq_false_iff_ne.mpr hq]
      simp
  have sw1 := swI p.2.2 1 1 rfl
  have sw2 := swI p.2.2 2 2 rfl
  have m01 : ∀ (o : Int) (c : Bool), o.natAbs < 2 ^ 1000 → MulOk o (if c = true then 1 else 0) := fun o c h => mulOk (a := 1000) (b := 2) h (by split <;> decide) (by decide) (by decide) (by decide)
  have pi1 : ∀ (x11 x12 x13 : Sl), mOp2 oAdd (mVar 8) (mC (.int 1)) [.dat (.str xs), .dat (.str ys), .dat (vd p), .dat (.lst (rowsU xs.length ys.length (RTw p xs ys))), .dat (pl i j k), .dat (.int p.1), .dat (.int p.2.1), .dat (.int p.2.2), .dat (.int (i : Nat)), .dat (.int (j : Nat)), .dat (.int (k : Nat)), x11, x12, x13] g = .ok (.dat (.int ((i + 1 : Nat) : Int))) g := fun _ _ _ => rfl
  have pj1 : ∀ (x11 x12 x13 : Sl), mOp2 oAdd (mVar 9) (mC (.int 1)) [.dat (.str xs), .dat (.str ys), .dat (vd p), .dat (.lst (rowsU xs.length ys.length (RTw p xs ys))), .dat (pl i j k), .dat (.int p.1), .dat (.int p.2.1), .dat (.int p.2.2), .dat (.int (i : Nat)), .dat (.int (j : Nat)), .dat (.int (k : Nat)), x11, x12, x13] g = .ok (.dat (.int ((j + 1 : Nat) : Int))) g := fun _ _ _ => rfl
  have rc0 : ∀ i j, oIx (.dat (vd (RTw p xs ys i j))) (.dat (.int 0)) = some (.dat (.int (LcP p xs ys i j 0))) := fun i j => RTw_c (k := 0) (by omega)
  have rc1 : ∀ i j, oIx (.dat (vd (RTw p xs ys i j))) (.dat (.int 1)) = some (.dat (.int (LcP p xs ys i j 1))) := fun i j => RTw_c (k := 1) (by omega)
  have rc2 : ∀ i j, oIx (.dat (vd (RTw p xs ys i j))) (.dat (.int 2)) = some (.dat (.int (LcP p xs ys i j 2))) := fun i j => RTw_c (k := 2) (by omega)
  rw [S_seq]
  have tail : ∀ x13 : Sl, Sat ((mSeq (mIfS (mAnd (mTest (mOp2 oLt (mVar 8) (mOpN oLen (mCons (mVar 0) mNil)))) (mTest (mOp2 oEq (mOp2 oAdd (mOp2 oAdd (mOp2 oIx (mOp2 oIx (mOp2 oIx (mVar 3) (mOp2 oAdd (mVar 8) (mC (.int 1)))) (mVar 9)) (mC (.int 1))) (mVar 6)) (mOp2 oMul (mVar 7) (mOpN oInt (mCons (mOp2 oNe (mVar 10) (mC (.int 1))) mNil)))) (mVar 11)))) (mApp 12 (mTup (mCons (mC (.int 1)) (mCons (mTup (mCons (mOp2 oAdd (mVar 8) (mC (.int 1))) (mCons (mVar 9) (mCons (mC (.int 1)) mNil)))) mNil)))) mPass)
    (mSeq (mIfS (mAnd (mTest (mOp2 oLt (mVar 9) (mOpN oLen (mCons (mVar 1) mNil)))) (mTest (mOp2 oEq (mOp2 oAdd (mOp2 oAdd (mOp2 oIx (mOp2 oIx (mOp2 oIx (mVar 3) (mVar 8)) (mOp2 oAdd (mVar 9) (mC (.int 1)))) (mC (.int 2))) (mVar 6)) (mOp2 oMul (mVar 7) (mOpN oInt (mCons (mOp2 oNe (mVar 10) (mC (.int 2))) mNil)))) (mVar 11)))) (mApp 12 (mTup (mCons (mC (.int 2)) (mCons (mTup (mCons (mVar 8) (mCons (mOp2 oAdd (mVar 9) (mC (.int 1))) (mCons (mC (.int 2)) mNil)))) mNil)))) mPass)
    (mRet (mVar 12)))) [.dat (.str xs), .dat (.str ys), .dat (vd p), .dat (.lst (rowsU xs.length ys.length (RTw p xs ys))), .dat (pl i j k), .dat (.int p.1), .dat (.int p.2.1), .dat (.int p.2.2), .dat (.int (i : Nat)), .dat (.int (j : Nat)), .dat (.int (k : Nat)), .dat (.int (LcP p xs ys i j k)), .own ([] ++ if T0 p xs ys i j k = true then [.tup [.int 0, pl (i + 1) (j + 1) 0]] else []), x13] g) (kD Q) := fun x13 => by
    rw [S_seq]
    refine S_appIf (c := T1 p xs ys i j k) (x := .tup [.int 1, pl (i + 1) j 1]) (Sat.eq fun Q q => ?_) (fun _ => rfl) rfl (by split <;> (show _ < 16777216; simp)) ?_
    · unfold T1 at q
      rw [S_and]
      simp only [S_test, S_op2, S_var, gt, kVar_dat, k2_, S_opN, S_cons, kc_, S_nil, kcb_, kN_, o_lenS, SatO_some, k2b_, o_lt, kTest_]
      by_cases c1 : i < xs.length
      · rw [if_pos c1] at q
        rw [decide_eq_true (show ((i : Nat) : Int) < xs.length by omega), kAnd_true, S_test, S_op2, S_op2, S_op2, S_op2, envR _ _ _ _ _ (i + 1) j (pi1 _ _ _) rfl c1 hj, Sat_ok]
        simp only [S_op2, S_var, S_C, gt, kVar_dat, k2_, S_opN, S_cons, kc_, S_nil, kcb_, kN_, SatO_some, k2b_, rc1, o_ne, o_intB, o_mul_u, o_add, sw1, o_eq, kTest_]
        refine ⟨m01 _ _ lt, ?_⟩
        have e : p.2.1 + sw p.2.2 (k == 1) + LcP p xs ys (i + 1) j 1 = LcP p xs ys (i + 1) j 1 + p.2.1 + sw p.2.2 (k == 1) := by omega
        rw [e] at q
        exact q
      · rw [if_neg c1] at q
        rw [decide_eq_false (show ¬ ((i : Nat) : Int) < xs.length by omega), kAnd_false]
        exact q
    simp only [st]
    rw [kS_nx, S_seq]
    refine S_appIf (c := T2 p xs ys i j k) (x := .tup [.int 2, pl i (j + 1) 2]) (Sat.eq fun Q q => ?_) (fun _ => rfl) rfl (by split <;> split <;> (show _ < 16777216; simp)) ?_
    · unfold T2 at q
      rw [S_and]
      simp only [S_test, S_op2, S_var, gt, kVar_dat, k2_, S_opN, S_cons, kc_, S_nil, kcb_, kN_, o_lenS, SatO_some, k2b_, o_lt, kTest_]
      by_cases c1 : j < ys.length
      · rw [if_pos c1] at q
        rw [decide_eq_true (show ((j : Nat) : Int) < ys.length by omega), kAnd_true, S_test, S_op2, S_op2, S_op2, S_op2, envR _ _ _ _ _ i (j + 1) rfl (pj1 _ _ _) hi c1, Sat_ok]
        simp only [S_op2, S_var, S_C, gt, kVar_dat, k2_, S_opN, S_cons, kc_, S_nil, kcb_, kN_, SatO_some, k2b_, rc2, o_ne, o_intB, o_mul_u, o_add, sw2, o_eq, kTest_]
        refine ⟨m01 _ _ lt, ?_⟩
        have e : p.2.1 + sw p.2.2 (k == 2) + LcP p xs ys i (j + 1) 2 = LcP p xs ys i (j + 1) 2 + p.2.1 + sw p.2.2 (k == 2) := by omega
        rw [e] at q
        exact q
      · rw [if_neg c1] at q
        rw [decide_eq_false (show ¬ ((j : Nat) : Int) < ys.length by omega), kAnd_false]
        exact q
    simp only [st]
    rw [kS_nx, S_ret', S_var]
    simp only [gt]
    rw [kVar_own, kR_, kD_rt]
    exact q
  rw [S_ifS, S_and]
  simp only [S_test, S_op2, S_var, gt, kVar_dat, k2_, S_opN, S_cons, kc_, S_nil, kcb_, kN_, o_lenS, SatO_some, k2b_, o_lt, kTest_]
  have tno : T0 p xs ys i j k = false → Sat ((mPass : MS LS) [.dat (.str xs), .dat (.str ys), .dat (vd p), .dat (.lst (rowsU xs.length ys.length (RTw p xs ys))), .dat (pl i j k), .dat (.int p.1), .dat (.int p.2.1), .dat (.int p.2.2), .dat (.int (i : Nat)), .dat (.int (j : Nat)), .dat (.int (k : Nat)), .dat (.int (LcP p xs ys i j k)), .own [], .un] g) (kS _ (kD Q)) := fun h => by
    rw [S_pass, kS_nx]
    have := tail .un
    rw [h, if_neg Bool.false_ne_true, List.append_nil] at this
    exact this
  by_cases c1 : i < xs.length
  · rw [decide_eq_true (show ((i : Nat) : Int) < xs.length by omega), kAnd_true]
    simp only [S_test, S_op2, S_var, gt, kVar_dat, k2_, S_opN, S_cons, kc_, S_nil, kcb_, kN_, o_lenS, SatO_some, k2b_, o_lt, kTest_]
    by_cases c2 : j < ys.length
    · have e0 : T0 p xs ys i j k = decide (ne1 p.1 xs[i] ys[j] + LcP p xs ys (i + 1) (j + 1) 0 = LcP p xs ys i j k) := dif_pos ⟨c1, c2⟩
      rw [decide_eq_true (show ((j : Nat) : Int) < ys.length by omega), kI_true, S_seq, S_set]
      simp only [S_op2, S_var, S_C, gt, kVar_dat, k2_, S_opN, S_cons, kc_, S_nil, kcb_, kN_, SatO_some, k2b_, o_ixS, atIat c1, atIat c2, map_some', o_neS, o_intB, o_mul_u, neS]
      refine ⟨m01 _ _ lo, ?_⟩
      rw [kSet_dat, kS_nx]
      simp only [st]
      have h := S_appIf (γ := LS) (i := 12) (c := T0 p xs ys i j k) (x := .tup [.int 0, pl (i + 1) (j + 1) 0]) (ds := []) (t := mTest (mOp2 oEq (mOp2 oAdd (mOp2 oIx (mOp2 oIx (mOp2 oIx (mVar 3) (mOp2 oAdd (mVar 8) (mC (.int 1)))) (mOp2 oAdd (mVar 9) (mC (.int 1)))) (mC (.int 0))) (mVar 13)) (mVar 11)))
        (a := mTup (mCons (mC (.int 0)) (mCons (mTup (mCons (mOp2 oAdd (mVar 8) (mC (.int 1))) (mCons (mOp2 oAdd (mVar 9) (mC (.int 1))) (mCons (mC (.int 0)) mNil)))) mNil)))
        (e := [.dat (.str xs), .dat (.str ys), .dat (vd p), .dat (.lst (rowsU xs.length ys.length (RTw p xs ys))), .dat (pl i j k), .dat (.int p.1), .dat (.int p.2.1), .dat (.int p.2.2), .dat (.int (i : Nat)), .dat (.int (j : Nat)), .dat (.int (k : Nat)), .dat (.int (LcP p xs ys i j k)), .own [], .dat (.int (ne1 p.1 xs[i] ys[j]))])
        (g := g) (QS := kS _ (kD Q)) (Sat.eq fun Q q => by
          rw [S_test, S_op2, S_op2, S_op2, envR _ _ _ _ _ (i + 1) (j + 1) (pi1 _ _ _) (pj1 _ _ _) c1 c2, Sat_ok]
          simp only [S_op2, S_var, S_C, gt, kVar_dat, k2_, SatO_some, k2b_, rc0, o_add, o_eq, kTest_]
          rw [Int.add_comm, ← e0]
          exact q) (fun _ => rfl) rfl (by decide) (by
          simp only [st]
          rw [kS_nx]
          exact tail _)
      exact h
    · rw [decide_eq_false (show ¬ ((j : Nat) : Int) < ys.length by omega), kI_false]
      exact tno (dif_neg fun z => c2 z.2)
  · rw [decide_eq_false (show ¬ ((i : Nat) : Int) < xs.length by omega), kAnd_false, kI_false]
    exact tno (dif_neg fun z => c1 z.1)
end
end PB
set_option Elab.async false
set_option linter.all false
set_option maxRecDepth 10000
set_option maxHeartbeats 4000000
set_option exponentiation.threshold 2000
namespace PB
abbrev kM (M : List EnD) : List D := M.map fun q => kqD q.1
abbrev vM (M : List EnD) : List D := M.map (·.2)
section
variable {γ : Type} {e : Env} {g : γ} {x : Nat} {ke ae : ME γ} {M : List EnD} {q : PlQ} {d : D} {QS : Fl → γ → Prop}
theorem dGetQ (h : dctOf (gt e x) = some (true, kM M, vM M)) (hk : ke e g = .ok (.dat (kqD q)) g) (hl : lkD M q = some d) : mDGet x ke e g = .ok (.dat d) g := by
  unfold mDGet mDOp
  rw [h]
  dsimp only
  rw [hk, Rs.bind_ok]
  show ofO ((dGet (kM M) (vM M) (kqD q)).map Rv.dat) g = _
  rw [dGet_lk, hl]
  rfl
theorem S_dPutQ (h : gt e x = .owd true (kM M) (vM M)) (ha : ae e g = .ok (.dat d) g) (hk : ke e g = .ok (.dat (kqD q)) g) (hl : M.length < SZ) (hq : QS (.nx (st e x (.owd true (kM (ptD M q d)) (vM (ptD M q d))))) g) : Sat (mDPut x ke ae e g) QS := by
  unfold mDPut
  rw [ha, Rs.bind_ok, h]
  dsimp only
  rw [hk, Rs.bind_ok]
  dsimp only [Rv.sto]
  rw [if_pos ⟨kqD_key q, by unfold kM; rw [List.length_map]; exact hl⟩, Sat_ok]
  have := dPut_lk M q d
  rw [show dPut (kM M) (vM M) (kqD q) d = _ from this]
  exact hq
end
section
variable {b : Nat} {p : V3} {xs ys : List Nat}
abbrev rwD (p : V3) (xs ys : List Nat) : List D := rowsU xs.length ys.length (RTw p xs ys)
def lwE (p : V3) (xs ys : List Nat) (x3 : Sl) (M : List EnD) (x5 x6 x7 x8 x9 x10 : Sl) : Env := [.dat (.str xs), .dat (.str ys), .dat (vd p), x3, .owd true (kM M) (vM M), x5, x6, x7, x8, x9, x10]
def lwR (p : V3) (xs ys : List Nat) (x3 : Sl) : Prop := x3 = .own (rwD p xs ys) ∨ x3 = .dat (.lst (rwD p xs ys))
structure LwM (p : V3) (xs ys : List Nat) (dn : PlQ → Prop) (m : Nat) (M : List EnD) : Prop where
  len : M.length ≤ m
  at' : ∀ q, plIn xs ys q → dn q → lkD M q = some (cwD p xs ys q)
theorem LwM.weak {dn dn' : PlQ → Prop} {m m' : Nat} {M : List EnD} (h : LwM p xs ys dn m M) (k : ∀ q, plIn xs ys q → dn' q → dn q) (hm : m ≤ m') : LwM p xs ys dn' m' M := ⟨Nat.le_trans h.len hm, fun q hq hd => h.at' q hq (k q hq hd)⟩
def lwB : MS LS := (mSeq (mFrz 3) (mSeq (mSet 8 (mCall l_go_onF (mCons (mVar 0) (mCons (mVar 1) (mCons (mVar 2) (mCons (mVar 3) (mCons (mTup (mCons (mVar 5) (mCons (mVar 6) (mCons (mVar 7) mNil)))) mNil)))))))
    (mSeq (mFrz 8) (mSeq (mDPut 4 (mTup (mCons (mVar 5) (mCons (mVar 6) (mCons (mVar 7) mNil)))) (mOpN oSum (mCons (mLc (mItems (mVar 8)) (tgT [9, 10]) mYes (mDGet 4 (mVar 10)) [9, 10]) mNil)))
    (mIfS (mAnd (mTest (mOp2 oEq (mVar 5) (mOpN oLen (mCons (mVar 0) mNil)))) (mTest (mOp2 oEq (mVar 6) (mOpN oLen (mCons (mVar 1) mNil))))) (mDPut 4 (mTup (mCons (mVar 5) (mCons (mVar 6) (mCons (mVar 7) mNil)))) (mC (.int 1))) mPass)))))
theorem S_lwB {i j k m : Nat} {x3 x8 x9 x10 : Sl} {M : List EnD} {g : LS} {QS : Fl → LS → Prop} (hp : Pos p.1 p.2.1 p.2.2) (hl : Lt3 b p) (hb : b ≤ 1000) (hi : i ≤ xs.length) (hj : j ≤ ys.length) (hk : k ≤ 2) (hm : m ≤ 10000) (h3 : lwR p xs ys x3) (hM : LwM p xs ys (wdn i j k) m M)
    (h : ∀ M' x8, LwM p xs ys (wdn i j (k + 1)) (m + 2) M' → QS (.nx (lwE p xs ys (.dat (.lst (rwD p xs ys))) M' (.dat (.int (i : Nat))) (.dat (.int (j : Nat))) (.dat (.int (k : Nat))) x8 x9 x10)) g) :
    Sat (lwB (lwE p xs ys x3 M (.dat (.int (i : Nat))) (.dat (.int (j : Nat))) (.dat (.int (k : Nat))) x8 x9 x10) g) QS := by
  unfold lwB
  rw [S_seq]
  have hf : Sat (mFrz 3 (lwE p xs ys x3 M (.dat (.int (i : Nat))) (.dat (.int (j : Nat))) (.dat (.int (k : Nat))) x8 x9 x10) g) = fun (Q : Fl → LS → Prop) => Q (.nx (lwE p xs ys (.dat (.lst (rwD p xs ys))) M (.dat (.int (i : Nat))) (.dat (.int (j : Nat))) (.dat (.int (k : Nat))) x8 x9 x10)) g := by
    funext Q
    rcases h3 with h3 | h3
    · subst h3
      rw [S_frz_own rfl]
      rfl
    · subst h3
      rw [S_frz_dat rfl]
  rw [hf]
  dsimp only
  rw [kS_nx, S_seq, S_set]
  have hq : plIn xs ys (i, j, k) := ⟨hi, hj, hk⟩
  unfold lwE
  simp only [S_call, S_cons, S_tup, S_nil, S_var, gt, kVar_dat, kc_, kcb_, kT_u, stoL_dat, stoL_nil, consO_some, SatO_some, List.length_cons, List.length_nil, Nat.reduceAdd, SZ, Nat.reduceLeDiff, true_and, kCall_u]
  refine S_lgoOn hl hb hi hj hk ?_
  rw [kSet_own, kS_nx]
  simp only [st]
  rw [S_seq, S_frz_own rfl, kS_nx, S_seq]
  simp only [st]
  have hsum : ∀ M' : List EnD, LwM p xs ys (wdn i j k) m M' → mOpN oSum (mCons (mLc (mItems (mVar 8)) (tgT [9, 10]) mYes (mDGet 4 (mVar 10)) [9, 10]) mNil) [.dat (.str xs), .dat (.str ys), .dat (vd p), .dat (.lst (rwD p xs ys)), .owd true (kM M') (vM M'), .dat (.int (i : Nat)), .dat (.int (j : Nat)), .dat (.int (k : Nat)), .dat (.lst ((nextL p xs ys i j k).map nxD)), x9, x10] g = .ok (.dat (.int (((nextL p xs ys i j k).map fun z => CwP p xs ys z.1 z.2.1 z.2.2).sum : Nat))) g := fun M' hM' => Sat.eq fun Q h => by
    rw [S_opN, S_cons, S_lc, S_items, S_var]
    simp only [gt, kVar_dat, kItems_lst]
    rw [kLc_]
    simp only [wp, st]
    refine S_lcA (nextL p xs ys i j k) nxD (fun z => .int (CwP p xs ys z.1 z.2.1 z.2.2 : Nat)) (by have := nextL_len (p := p) (xs := xs) (ys := ys) i j k; show _ ≤ 16777216; omega) (fun z hz => ⟨_, rfl, ?_⟩) ?_
    · rw [S_yes]
      refine ⟨rfl, rfl, ?_⟩
      simp only [st]
      have hin := nextL_in hi hj z hz
      have hd : wdn i j k z := by
        unfold wdn
        omega
      rw [dGetQ (M := M') (q := z) rfl rfl (hM'.at' z ⟨hin.1, hin.2.1, hin.2.2.1⟩ hd), Sat_ok]
      exact ⟨rfl, rfl⟩
    · rw [kc_, S_nil, kcb_, kN_, o_sum]
      have e1 : (nextL p xs ys i j k).map (fun z => D.int (CwP p xs ys z.1 z.2.1 z.2.2 : Nat)) = (((nextL p xs ys i j k).map fun z => CwP p xs ys z.1 z.2.1 z.2.2).map fun n : Nat => (n : Int)).map D.int := by
        rw [List.map_map, List.map_map]
        rfl
      rw [e1, dInts_map, map_some', SatO_some, ← sum_cast]
      exact h
  have hML := hM.len
  refine S_dPutQ (M := M) (q := (i, j, k)) rfl (hsum M hM) rfl (by show _ < 16777216; omega) ?_
  rw [kS_nx]
  simp only [st]
  have hlen1 := ptD_len M (i, j, k) (.int (((nextL p xs ys i j k).map fun z => CwP p xs ys z.1 z.2.1 z.2.2).sum : Nat))
  have hSZ : SZ = 16777216 := rfl
  have hz1 : (ptD M (i, j, k) (.int (((nextL p xs ys i j k).map fun z => CwP p xs ys z.1 z.2.1 z.2.2).sum : Nat))).length < SZ := by
    rw [hSZ]
    omega
  have hlk : ∀ z, lkD (ptD M (i, j, k) (.int (((nextL p xs ys i j k).map fun z => CwP p xs ys z.1 z.2.1 z.2.2).sum : Nat))) z = if (i, j, k) = z then some (.int (((nextL p xs ys i j k).map fun z => CwP p xs ys z.1 z.2.1 z.2.2).sum : Nat)) else lkD M z := fun z => lk_put _ _ _ _
  generalize ptD M (i, j, k) (.int (((nextL p xs ys i j k).map fun z => CwP p xs ys z.1 z.2.1 z.2.2).sum : Nat)) = M2 at hlen1 hz1 hlk ⊢
  have hold : ∀ z, plIn xs ys z → wdn i j (k + 1) z → z ≠ (i, j, k) → wdn i j k z := fun z _ hz hn => by
    unfold wdn at hz ⊢
    obtain ⟨z1, z2, z3⟩ := z
    dsimp only at hz ⊢
    by_cases e : z3 = k ∧ z2 = j ∧ z1 = i
    · exact absurd (by rw [e.1, e.2.1, e.2.2]) hn
    · omega
  rw [S_ifS, S_and]
  simp only [S_test, S_op2, S_var, gt, kVar_dat, k2_, S_opN, S_cons, kc_, S_nil, kcb_, kN_, o_lenS, SatO_some, k2b_, o_eq, kTest_]
  have no : ¬ (i = xs.length ∧ j = ys.length) → QS (.nx (lwE p xs ys (.dat (.lst (rwD p xs ys))) M2 (.dat (.int (i : Nat))) (.dat (.int (j : Nat))) (.dat (.int (k : Nat))) (.dat (.lst ((nextL p xs ys i j k).map nxD))) x9 x10)) g := fun hend => by
    have hn : i < xs.length ∨ j < ys.length := by omega
    refine h _ _ ⟨by omega, fun z hz hd => ?_⟩
    by_cases e : z = (i, j, k)
    · subst e
      rw [hlk, if_pos rfl]
      unfold cwD
      rw [CwP_next hp hn]
    · rw [hlk, if_neg (fun y => e y.symm)]
      exact hM.at' z hz (hold z hz hd e)
  by_cases c1 : i = xs.length
  · rw [decide_eq_true (show ((i : Nat) : Int) = xs.length by omega), kAnd_true]
    simp only [S_test, S_op2, S_var, gt, kVar_dat, k2_, S_opN, S_cons, kc_, S_nil, kcb_, kN_, o_lenS, SatO_some, k2b_, o_eq, kTest_]
    by_cases c2 : j = ys.length
    · rw [decide_eq_true (show ((j : Nat) : Int) = ys.length by omega), kI_true]
      refine S_dPutQ (M := M2) (d := .int 1) (q := (i, j, k)) rfl rfl rfl hz1 ?_
      simp only [st]
      have hlen2 := ptD_len M2 (i, j, k) (.int 1)
      refine h _ _ ⟨by omega, fun z hz hd => ?_⟩
      by_cases e : z = (i, j, k)
      · subst e
        rw [lk_put, if_pos rfl]
        show _ = some (D.int (CwP p xs ys i j k : Nat))
        rw [CwP_end (p := p) (xs := xs) (ys := ys) (i := i) (j := j) (k := k) (by omega) (by omega)]
        rfl
      · rw [lk_put, if_neg (fun y => e y.symm), hlk, if_neg (fun y => e y.symm)]
        exact hM.at' z hz (hold z hz hd e)
    · rw [decide_eq_false (show ¬ ((j : Nat) : Int) = ys.length by omega), kI_false, S_pass]
      exact no fun z => c2 z.2
  · rw [decide_eq_false (show ¬ ((i : Nat) : Int) = xs.length by omega), kAnd_false, kI_false, S_pass]
    exact no fun z => c1 z.1
theorem S_lwLast {i j m : Nat} {g : LS} {x3 x7 x8 x9 x10 : Sl} {M : List EnD} {QS : Fl → LS → Prop} (hp : Pos p.1 p.2.1 p.2.2) (hl : Lt3 b p) (hb : b ≤ 1000) (hi : i ≤ xs.length) (hj : j ≤ ys.length) (hm : m ≤ 9000) (h3 : lwR p xs ys x3) (hM : LwM p xs ys (wdn i j 0) m M)
    (h : ∀ M' x3 x7 x8, lwR p xs ys x3 → LwM p xs ys (wdn i j 3) (m + 6) M' → QS (.nx (lwE p xs ys x3 M' (.dat (.int (i : Nat))) (.dat (.int (j : Nat))) x7 x8 x9 x10)) g) :
    Sat (mFor (mRange1 (mC (.int 3))) (tgN 7) lwB (lwE p xs ys x3 M (.dat (.int (i : Nat))) (.dat (.int (j : Nat))) x7 x8 x9 x10) g) QS := by
  rw [S_for, S_range1, S_C, kRng_3, kF_]
  show Sat (forL _ _ ([0, 1, 2].map fun k : Nat => D.int (k : Nat)) _ g) QS
  refine S_forA [0, 1, 2] (fun k : Nat => D.int (k : Nat)) (fun pre _ e g' => g' = g ∧ ∃ M x3 x7 x8, lwR p xs ys x3 ∧ LwM p xs ys (wdn i j pre.length) (m + 2 * pre.length) M ∧ e = lwE p xs ys x3 M (.dat (.int (i : Nat))) (.dat (.int (j : Nat))) x7 x8 x9 x10) ⟨rfl, _, _, _, _, h3, hM, rfl⟩ ?_ ?_
  · rintro pre k post e g' hsp ⟨rfl, M, x3, x7, x8, h3, h4, rfl⟩
    have hk : k = pre.length ∧ pre.length ≤ 2 := by
      match pre, hsp with
      | [], hsp => exact ⟨(List.cons.inj hsp).1.symm, by decide⟩
      | [_], hsp => exact ⟨(List.cons.inj (List.cons.inj hsp).2).1.symm, by show 1 ≤ 2; omega⟩
      | [_, _], hsp => exact ⟨(List.cons.inj (List.cons.inj (List.cons.inj hsp).2).2).1.symm, by show 2 ≤ 2; omega⟩
      | _ :: _ :: _ :: _, hsp =>
        have := (List.cons.inj (List.cons.inj (List.cons.inj hsp).2).2).2
        simp at this
    obtain ⟨hk, hk2⟩ := hk
    subst hk
    refine ⟨_, rfl, ?_⟩
    refine S_lwB (m := m + 2 * pre.length) hp hl hb hi hj hk2 (by omega) h3 h4 fun M' x8 hM' => ⟨rfl, M', .dat (.lst (rwD p xs ys)), .dat (.int (pre.length : Nat)), x8, .inr rfl, ?_, rfl⟩
    rw [List.length_append]
    exact hM'.weak (fun _ _ z => z) (by show _ ≤ m + 2 * (pre.length + 1); omega)
  · rintro e g' ⟨rfl, M, x3, x7, x8, h3, h4, rfl⟩
    exact h M x3 x7 x8 h3 h4
theorem S_lways {g : LS} {Q : Rv → LS → Prop} (hp : Pos p.1 p.2.1 p.2.2) (hl : Lt3 b p) (hb : b ≤ 1000) (hx : xs.length ≤ 30) (hy : ys.length ≤ 30)
    (h : ∀ M : List EnD, (∀ q, plIn xs ys q → lkD M q = some (cwD p xs ys q)) → Q (.dat (.dct true (kM M) (vM M))) g) : Sat (l_waysF [.str xs, .str ys, vd p] g) Q := by
  have o1 : ∀ z : Int, oNeg (.dat (.int z)) = some (.dat (.int (-z))) := fun z => rfl
  unfold l_waysF
  rw [S_def (k := 3) (ds := [.str xs, .str ys, vd p]) rfl]
  show Sat (l_waysM [.dat (.str xs), .dat (.str ys), .dat (vd p), .un, .un, .un, .un, .un, .un, .un, .un] g) _
  have hM : l_waysM = mSeq (mSet 3 (mCall l_rests2F (mCons (mVar 0) (mCons (mVar 1) (mCons (mVar 2) mNil)))))
    (mSeq (mDNew true 4)
    (mSeq (mFor (mRangeA (mCons (mOpN oLen (mCons (mVar 0) mNil)) (mCons (mOp1 oNeg (mC (.int 1))) (mCons (mOp1 oNeg (mC (.int 1))) mNil)))) (tgN 5) (mFor (mRangeA (mCons (mOpN oLen (mCons (mVar 1) mNil)) (mCons (mOp1 oNeg (mC (.int 1))) (mCons (mOp1 oNeg (mC (.int 1))) mNil)))) (tgN 6) (mFor (mRange1 (mC (.int 3))) (tgN 7) lwB)))
    (mSeq (mFrz 4) (mRet (mVar 4))))) := rfl
  rw [hM, S_seq, S_set]
  simp only [S_call, S_cons, S_nil, S_var, gt, kVar_dat, kc_, kcb_, kCall_u, stoL_dat, stoL_nil, consO_some, SatO_some]
  refine S_lrests2 hp hl hb hx hy ?_
  rw [kSet_own, kS_nx, S_seq]
  simp only [st]
  have hnew : ∀ e : Env, (mDNew true 4 : MS LS) e g = .ok (.nx (st e 4 (.owd true [] []))) g := fun _ => rfl
  rw [hnew, Sat_ok, kS_nx]
  simp only [st]
  show Sat (mSeq _ _ (lwE p xs ys (.own (rwD p xs ys)) [] .un .un .un .un .un .un) g) _
  rw [S_seq]
  have l1 : ∀ x3 M x5 x6 x7 x8 x9 x10, gt (lwE p xs ys x3 M x5 x6 x7 x8 x9 x10) 0 = .dat (.str xs) := fun _ _ _ _ _ _ _ _ => rfl
  have l2 : ∀ x3 M x5 x6 x7 x8 x9 x10, gt (lwE p xs ys x3 M x5 x6 x7 x8 x9 x10) 1 = .dat (.str ys) := fun _ _ _ _ _ _ _ _ => rfl
  rw [S_for, S_rangeA]
  simp only [S_cons, S_opN, S_op1, k1_, o1, S_C, S_var, l1, kVar_dat, kc_, S_nil, kcb_, kN_, o_lenS, SatO_some]
  refine kRA_down (by omega) ?_
  rw [kF_, down_list]
  refine S_forA ((List.range (xs.length + 1)).map fun k => xs.length - k) (fun i : Nat => D.int (i : Nat)) (fun pre _ e g' => g' = g ∧ ∃ M x3 x5 x6 x7 x8 x9 x10, lwR p xs ys x3 ∧ LwM p xs ys (fun q => xs.length < q.1 + pre.length) (200 * pre.length) M ∧ e = lwE p xs ys x3 M x5 x6 x7 x8 x9 x10)
    ⟨rfl, [], .own (rwD p xs ys), _, _, _, _, _, _, .inl rfl, ⟨Nat.zero_le _, fun q hq hd => by have h1 := hq.1; simp only [List.length_nil] at hd; omega⟩, rfl⟩ ?_ ?_
  · rintro pre i post e g' hsp ⟨rfl, M, x3, x5, x6, x7, x8, x9, x10, h3, h4, rfl⟩
    obtain ⟨hi, hpl⟩ := down_split hsp
    refine ⟨_, rfl, ?_⟩
    show Sat (mFor _ _ _ (lwE p xs ys x3 M (.dat (.int (i : Nat))) x6 x7 x8 x9 x10) g') _
    rw [S_for, S_rangeA]
    simp only [S_cons, S_opN, S_op1, k1_, o1, S_C, S_var, l2, kVar_dat, kc_, S_nil, kcb_, kN_, o_lenS, SatO_some]
    refine kRA_down (by omega) ?_
    rw [kF_, down_list]
    refine S_forA ((List.range (ys.length + 1)).map fun k => ys.length - k) (fun i : Nat => D.int (i : Nat)) (fun pre2 _ e g2 => g2 = g' ∧ ∃ M x3 x6 x7 x8 x9 x10, lwR p xs ys x3 ∧ LwM p xs ys (fun q => i < q.1 ∨ (q.1 = i ∧ ys.length < q.2.1 + pre2.length)) (200 * pre.length + 6 * pre2.length) M ∧ e = lwE p xs ys x3 M (.dat (.int (i : Nat))) x6 x7 x8 x9 x10)
      ⟨rfl, M, x3, _, _, _, _, _, h3, h4.weak (fun q hq hd => by have h1 := hq.2.1; simp only [List.length_nil] at hd; omega) (by omega), rfl⟩ ?_ ?_
    · rintro pre2 j post2 e g2 hsp2 ⟨rfl, M, x3, x6, x7, x8, x9, x10, k3, k4, rfl⟩
      obtain ⟨hj, hpl2⟩ := down_split hsp2
      refine ⟨_, rfl, ?_⟩
      show Sat (mFor _ _ _ (lwE p xs ys x3 M (.dat (.int (i : Nat))) (.dat (.int (j : Nat))) x7 x8 x9 x10) g2) _
      refine S_lwLast (m := 200 * pre.length + 6 * pre2.length) hp hl hb (by omega) (by omega) (by omega) k3 (k4.weak (fun q hq hd => by unfold wdn at hd; have := hq.2.1; omega) (Nat.le_refl _)) fun M' x3 x7 x8 k5 hs => ?_
      refine ⟨rfl, M', x3, .dat (.int (j : Nat)), x7, x8, x9, x10, k5, hs.weak (fun q hq hd => ?_) (by rw [List.length_append, List.length_singleton]; omega), rfl⟩
      rw [List.length_append, List.length_singleton] at hd
      unfold wdn
      have := hq.2.2
      omega
    · rintro e g2 ⟨rfl, M, x3, x6, x7, x8, x9, x10, k3, k4, rfl⟩
      refine ⟨rfl, M, x3, _, _, _, _, _, _, k3, k4.weak (fun q hq hd => ?_) ?_, rfl⟩
      · rw [List.length_append, List.length_singleton] at hd
        have := hq.2.1
        rw [List.length_map, List.length_range]
        omega
      · rw [List.length_append, List.length_singleton, List.length_map, List.length_range]
        omega
  · rintro e g' ⟨rfl, M, x3, x5, x6, x7, x8, x9, x10, h3, h4, rfl⟩
    rw [kS_nx, S_seq, S_frz_owd (t := true) (ks := kM M) (vs := vM M) rfl, kS_nx, S_ret', S_var]
    simp only [lwE, st, gt]
    rw [kVar_dat, kR_, kD_rt]
    refine h M fun q hq => h4.at' q hq ?_
    rw [List.length_map, List.length_range]
    have := hq.1
    omega
end
end PB
set_option Elab.async false
set_option linter.all false
set_option maxRecDepth 10000
set_option maxHeartbeats 4000000
set_option exponentiation.threshold 2000
namespace PB
def cho : Nat → Nat → Nat
  | _, 0 => 1
  | 0, _ + 1 => 0
  | n + 1, k + 1 => cho n k + cho n (k + 1)
theorem cho_0 (n : Nat) : cho n 0 = 1 := by cases n <;> rfl
theorem cho_big : ∀ (n k : Nat), n < k → cho n k = 0
  | 0, k + 1, _ => rfl
  | n + 1, k + 1, h => by
    show cho n k + cho n (k + 1) = 0
    rw [cho_big n k (by omega), cho_big n (k + 1) (by omega)]
theorem cho_self : ∀ n : Nat, cho n n = 1
  | 0 => rfl
  | n + 1 => by
    show cho n n + cho n (n + 1) = 1
    rw [cho_self n, cho_big n (n + 1) (by omega)]
theorem cho_up : ∀ n k : Nat, (k + 1) * cho n (k + 1) = cho n k * (n - k)
  | 0, k => by
    rw [Nat.zero_sub, Nat.mul_zero]
    rfl
  | n + 1, 0 => by
    have h : (0 + 1) * cho n 1 = cho n 0 * (n - 0) := cho_up n 0
    rw [cho_0] at h
    show (0 + 1) * (cho n 0 + cho n 1) = cho (n + 1) 0 * (n + 1 - 0)
    rw [cho_0, cho_0]
    omega
  | n + 1, j + 1 => by
    have h1 := cho_up n (j + 1)
    have h2 := cho_up n j
    show (j + 1 + 1) * (cho n (j + 1) + cho n (j + 1 + 1)) = (cho n j + cho n (j + 1)) * (n + 1 - (j + 1))
    rw [Nat.mul_add, h1, Nat.add_mul (cho n j), show n + 1 - (j + 1) = n - j by omega, ← h2]
    by_cases c : j < n
    · have e1 : n - j = (n - (j + 1)) + 1 := by omega
      rw [e1, Nat.mul_add (cho n (j + 1)), Nat.mul_one, Nat.add_mul (j + 1) 1, Nat.one_mul]
      omega
    · rw [cho_big n (j + 1) (by omega)]
      omega
theorem cho_le : ∀ n k : Nat, cho n k ≤ 2 ^ n
  | 0, 0 => Nat.le_refl _
  | 0, k + 1 => Nat.zero_le _
  | n + 1, 0 => by
    rw [cho_0]
    exact Nat.one_le_two_pow
  | n + 1, k + 1 => by
    have h1 := cho_le n k
    have h2 := cho_le n (k + 1)
    have : 2 ^ (n + 1) = 2 ^ n + 2 ^ n := by rw [Nat.pow_succ]; omega
    show cho n k + cho n (k + 1) ≤ _
    omega
/-- how many scripts of least cost -/
def Cn (o s t : Int) (k : Nat) (xs ys : List Nat) : Nat := ((allS xs ys).filter fun l => decide (cst o s t k l = Lc o s t k xs ys)).length
theorem CwP_Cn {p : V3} {xs ys : List Nat} : CwP p xs ys 0 0 0 = Cn p.1 p.2.1 p.2.2 0 xs ys := rfl
section
variable {o s t : Int}
theorem Cn_nn {k : Nat} : Cn o s t k [] [] = 1 := by
  unfold Cn
  rw [allS_nn, Lc_nn, List.filter_cons, if_pos (decide_eq_true cst_nil)]
  rfl
theorem len_if {c : Bool} {A : List (List Mv)} {f : List Mv → List Mv} : (if c = true then A.map f else []).length = if c = true then A.length else 0 := by
  cases c with
  | true => rw [if_pos rfl, if_pos rfl, List.length_map]
  | false => rfl
theorem Cn_cn (h : Pos o s t) {k x : Nat} {xs : List Nat} : Cn o s t k (x :: xs) [] = Cn o s t 1 xs [] := by
  unfold Cn
  rw [allS_cn, fil_map (d := Lc o s t 1 xs []) (fun r => cst_out) (allS_ge h 1 _ _) (Int.le_of_eq Lc_cn), len_if, if_pos (decide_eq_true Lc_cn.symm)]
theorem Cn_nc (h : Pos o s t) {k y : Nat} {ys : List Nat} : Cn o s t k [] (y :: ys) = Cn o s t 2 [] ys := by
  unfold Cn
  rw [allS_nc, fil_map (d := Lc o s t 2 [] ys) (fun r => cst_inn) (allS_ge h 2 _ _) (Int.le_of_eq Lc_nc), len_if, if_pos (decide_eq_true Lc_nc.symm)]
theorem Cn_cc (h : Pos o s t) {k x y : Nat} {xs ys : List Nat} : Cn o s t k (x :: xs) (y :: ys) = ((if decide (ne1 o x y + Lc o s t 0 xs ys = Lc o s t k (x :: xs) (y :: ys)) = true then Cn o s t 0 xs ys else 0) + if decide (s + sw t (k == 1) + Lc o s t 1 xs (y :: ys) = Lc o s t k (x :: xs) (y :: ys)) = true then Cn o s t 1 xs (y :: ys) else 0) + if decide (s + sw t (k == 2) + Lc o s t 2 (x :: xs) ys = Lc o s t k (x :: xs) (y :: ys)) = true then Cn o s t 2 (x :: xs) ys else 0 := by
  have hL := Lc_cc (o := o) (s := s) (t := t) (k := k) (x := x) (y := y) (xs := xs) (ys := ys)
  unfold Cn
  rw [allS_cc, List.filter_append, List.filter_append, fil_map (d := Lc o s t 0 xs ys) (fun r => cst_ko) (allS_ge h 0 _ _) (by omega), fil_map (d := Lc o s t 1 xs (y :: ys)) (fun r => cst_out) (allS_ge h 1 _ _) (by omega), fil_map (d := Lc o s t 2 (x :: xs) ys) (fun r => cst_inn) (allS_ge h 2 _ _) (by omega), List.length_append, List.length_append, len_if, len_if, len_if]
end
section
variable {w : Int} {a b : Nat}
theorem sw0 (b : Bool) : sw 0 b = 0 := by cases b <;> rfl
/-- others alone dear -/
theorem Lc_oth (hw : 0 < w) (hab : a ≠ b) : ∀ n m k : Nat, Lc w 0 0 k (List.replicate n a) (List.replicate m b) = 0
  | 0, 0, k => Lc_nn
  | n + 1, 0, k => by
    have h := Lc_oth hw hab n 0 1
    rw [List.replicate_succ, List.replicate_zero, Lc_cn, sw0]
    rw [List.replicate_zero] at h
    omega
  | 0, m + 1, k => by
    have h := Lc_oth hw hab 0 m 2
    rw [List.replicate_succ, List.replicate_zero, Lc_nc, sw0]
    rw [List.replicate_zero] at h
    omega
  | n + 1, m + 1, k => by
    have h0 := Lc_oth hw hab n m 0
    have h1 := Lc_oth hw hab n (m + 1) 1
    have h2 := Lc_oth hw hab (n + 1) m 2
    rw [List.replicate_succ, List.replicate_succ, Lc_cc, sw0, sw0]
    rw [List.replicate_succ] at h1 h2
    rw [h0, h1, h2]
    unfold ne1
    rw [if_neg hab]
    omega
termination_by n m => n + m
theorem Cn_oth (hw : 0 < w) (hab : a ≠ b) : ∀ n m k : Nat, Cn w 0 0 k (List.replicate n a) (List.replicate m b) = cho (n + m) n
  | 0, 0, k => Cn_nn
  | n + 1, 0, k => by
    have h := Cn_oth hw hab n 0 1
    rw [List.replicate_succ, List.replicate_zero, Cn_cn ⟨by omega, by omega, by omega⟩]
    rw [List.replicate_zero, Nat.add_zero, cho_self] at h
    rw [h, Nat.add_zero, cho_self]
  | 0, m + 1, k => by
    have h := Cn_oth hw hab 0 m 2
    rw [List.replicate_succ, List.replicate_zero, Cn_nc ⟨by omega, by omega, by omega⟩]
    rw [List.replicate_zero, cho_0] at h
    rw [h, cho_0]
  | n + 1, m + 1, k => by
    have l := Lc_oth hw hab (n + 1) (m + 1) k
    have l0 := Lc_oth hw hab n m 0
    have l1 := Lc_oth hw hab n (m + 1) 1
    have l2 := Lc_oth hw hab (n + 1) m 2
    have h1 := Cn_oth hw hab n (m + 1) 1
    have h2 := Cn_oth hw hab (n + 1) m 2
    rw [List.replicate_succ] at l1 l2 h1 h2
    rw [List.replicate_succ, List.replicate_succ] at l
    rw [List.replicate_succ, List.replicate_succ, Cn_cc ⟨by omega, by omega, by omega⟩, l, l0, l1, l2, h1, h2, sw0, sw0]
    unfold ne1
    rw [if_neg hab, if_neg (by rw [decide_eq_false (by omega)]; exact Bool.false_ne_true), if_pos (by decide), if_pos (by decide), show n + 1 + (m + 1) = (n + (m + 1)) + 1 by omega, show n + 1 + m = n + (m + 1) by omega]
    show _ = cho (n + (m + 1)) n + cho (n + (m + 1)) (n + 1)
    omega
termination_by n m => n + m
/-- letters alone dear -/
theorem ne1_0 (x y : Nat) : ne1 0 x y = 0 := by
  unfold ne1
  split <;> rfl
theorem Lc_let (hw : 0 < w) : ∀ n m k : Nat, Lc 0 w 0 k (List.replicate n a) (List.replicate m b) = w * (((n - m) + (m - n) : Nat) : Int)
  | 0, 0, k => by
    rw [List.replicate_zero, List.replicate_zero, Lc_nn]
    simp
  | n + 1, 0, k => by
    have h := Lc_let hw n 0 1
    rw [List.replicate_succ, List.replicate_zero, Lc_cn, sw0]
    rw [List.replicate_zero] at h
    rw [h, show n + 1 - 0 + (0 - (n + 1)) = n - 0 + (0 - n) + 1 by omega, Int.natCast_add (n - 0 + (0 - n)) 1, Int.mul_add]
    simp
    omega
  | 0, m + 1, k => by
    have h := Lc_let hw 0 m 2
    rw [List.replicate_succ, List.replicate_zero, Lc_nc, sw0]
    rw [List.replicate_zero] at h
    rw [h, show 0 - (m + 1) + (m + 1 - 0) = 0 - m + (m - 0) + 1 by omega, Int.natCast_add (0 - m + (m - 0)) 1, Int.mul_add]
    simp
    omega
  | n + 1, m + 1, k => by
    have h0 := Lc_let hw n m 0
    have h1 := Lc_let hw n (m + 1) 1
    have h2 := Lc_let hw (n + 1) m 2
    rw [List.replicate_succ, List.replicate_succ, Lc_cc, sw0, sw0]
    rw [List.replicate_succ] at h1 h2
    rw [h0, h1, h2, ne1_0]
    have z0 : 0 ≤ w * ((n + 1 - (m + 1) + (m + 1 - (n + 1)) : Nat) : Int) := Int.mul_nonneg (by omega) (by omega)
    rcases (by omega : n = m ∨ n < m ∨ m < n) with c | c | c
    · subst c
      have e0 : n - n + (n - n) = 0 := by omega
      have e1 : n + 1 - (n + 1) + (n + 1 - (n + 1)) = 0 := by omega
      have e2 : n - (n + 1) + (n + 1 - n) = 1 := by omega
      have e3 : n + 1 - n + (n - (n + 1)) = 1 := by omega
      rw [e0, e1, e2, e3]
      simp
      omega
    · obtain ⟨d, rfl⟩ : ∃ d, m = n + d + 1 := ⟨m - n - 1, by omega⟩
      have e0 : n - (n + d + 1) + (n + d + 1 - n) = d + 1 := by omega
      have e1 : n + 1 - (n + d + 1 + 1) + (n + d + 1 + 1 - (n + 1)) = d + 1 := by omega
      have e2 : n - (n + d + 1 + 1) + (n + d + 1 + 1 - n) = d + 2 := by omega
      have e3 : n + 1 - (n + d + 1) + (n + d + 1 - (n + 1)) = d := by omega
      rw [e0, e1, e2, e3, Int.natCast_add d 2, Int.natCast_add d 1, Int.mul_add, Int.mul_add]
      simp
      omega
    · obtain ⟨d, rfl⟩ : ∃ d, n = m + d + 1 := ⟨n - m - 1, by omega⟩
      have e0 : m + d + 1 - m + (m - (m + d + 1)) = d + 1 := by omega
      have e1 : m + d + 1 + 1 - (m + 1) + (m + 1 - (m + d + 1 + 1)) = d + 1 := by omega
      have e2 : m + d + 1 - (m + 1) + (m + 1 - (m + d + 1)) = d := by omega
      have e3 : m + d + 1 + 1 - m + (m - (m + d + 1 + 1)) = d + 2 := by omega
      rw [e0, e1, e2, e3, Int.natCast_add d 2, Int.natCast_add d 1, Int.mul_add, Int.mul_add]
      simp
      omega
termination_by n m => n + m
def chM (n m : Nat) : Nat := if n < m then cho m n else cho n m
theorem chM_le {n m : Nat} (h : n ≤ m) : chM n m = cho m n := by
  unfold chM
  split
  · rfl
  · obtain rfl : n = m := by omega
    rfl
theorem chM_ge {n m : Nat} (h : m ≤ n) : chM n m = cho n m := if_neg (by omega)
theorem Cn_let (hw : 0 < w) : ∀ n m k : Nat, Cn 0 w 0 k (List.replicate n a) (List.replicate m b) = chM n m
  | 0, 0, k => Cn_nn
  | n + 1, 0, k => by
    have h := Cn_let hw n 0 1
    rw [List.replicate_succ, List.replicate_zero, Cn_cn ⟨by omega, by omega, by omega⟩]
    rw [List.replicate_zero] at h
    rw [h, chM_ge (by omega), chM_ge (by omega), cho_0, cho_0]
  | 0, m + 1, k => by
    have h := Cn_let hw 0 m 2
    rw [List.replicate_succ, List.replicate_zero, Cn_nc ⟨by omega, by omega, by omega⟩]
    rw [List.replicate_zero] at h
    rw [h, chM_le (by omega), chM_le (by omega), cho_0, cho_0]
  | n + 1, m + 1, k => by
    have l := Lc_let (a := a) (b := b) hw (n + 1) (m + 1) k
    have l0 := Lc_let (a := a) (b := b) hw n m 0
    have l1 := Lc_let (a := a) (b := b) hw n (m + 1) 1
    have l2 := Lc_let (a := a) (b := b) hw (n + 1) m 2
    have h0 := Cn_let hw n m 0
    have h1 := Cn_let hw n (m + 1) 1
    have h2 := Cn_let hw (n + 1) m 2
    rw [List.replicate_succ] at l1 l2 h1 h2
    rw [List.replicate_succ, List.replicate_succ] at l
    rw [List.replicate_succ, List.replicate_succ, Cn_cc ⟨by omega, by omega, by omega⟩, l, l0, l1, l2, h0, h1, h2, sw0, sw0, ne1_0]
    rcases (by omega : n = m ∨ n < m ∨ m < n) with c | c | c
    · subst c
      have e0 : n - n + (n - n) = 0 := by omega
      have e1 : n + 1 - (n + 1) + (n + 1 - (n + 1)) = 0 := by omega
      have e2 : n - (n + 1) + (n + 1 - n) = 1 := by omega
      have e3 : n + 1 - n + (n - (n + 1)) = 1 := by omega
      rw [e0, e1, e2, e3, if_pos (decide_eq_true (by simp)), if_neg (by rw [decide_eq_false (by simp; omega)]; exact Bool.false_ne_true), if_neg (by rw [decide_eq_false (by simp; omega)]; exact Bool.false_ne_true), chM_le (by omega), chM_le (by omega), cho_self, cho_self]
    · obtain ⟨d, rfl⟩ : ∃ d, m = n + d + 1 := ⟨m - n - 1, by omega⟩
      have e0 : n - (n + d + 1) + (n + d + 1 - n) = d + 1 := by omega
      have e1 : n + 1 - (n + d + 1 + 1) + (n + d + 1 + 1 - (n + 1)) = d + 1 := by omega
      have e2 : n - (n + d + 1 + 1) + (n + d + 1 + 1 - n) = d + 2 := by omega
      have e3 : n + 1 - (n + d + 1) + (n + d + 1 - (n + 1)) = d := by omega
      have m1 : w * ((d + 1 : Nat) : Int) = w * (d : Int) + w := by rw [Int.natCast_add d 1, Int.mul_add]; simp
      have m2 : w * ((d + 2 : Nat) : Int) = w * (d : Int) + w + w := by
        rw [Int.natCast_add d 2, Int.mul_add]
        show w * (d : Int) + w * 2 = _
        omega
      rw [e0, e1, e2, e3, m1, m2, if_pos (decide_eq_true (by omega)), if_neg (by rw [decide_eq_false (by omega)]; exact Bool.false_ne_true), if_pos (decide_eq_true (by omega)), chM_le (by omega), chM_le (by omega), chM_le (by omega)]
      show _ = cho (n + d + 1) n + cho (n + d + 1) (n + 1)
      omega
    · obtain ⟨d, rfl⟩ : ∃ d, n = m + d + 1 := ⟨n - m - 1, by omega⟩
      have e0 : m + d + 1 - m + (m - (m + d + 1)) = d + 1 := by omega
      have e1 : m + d + 1 + 1 - (m + 1) + (m + 1 - (m + d + 1 + 1)) = d + 1 := by omega
      have e2 : m + d + 1 - (m + 1) + (m + 1 - (m + d + 1)) = d := by omega
      have e3 : m + d + 1 + 1 - m + (m - (m + d + 1 + 1)) = d + 2 := by omega
      have m1 : w * ((d + 1 : Nat) : Int) = w * (d : Int) + w := by rw [Int.natCast_add d 1, Int.mul_add]; simp
      have m2 : w * ((d + 2 : Nat) : Int) = w * (d : Int) + w + w := by
        rw [Int.natCast_add d 2, Int.mul_add]
        show w * (d : Int) + w * 2 = _
        omega
      rw [e0, e1, e2, e3, m1, m2, if_pos (decide_eq_true (by omega)), if_pos (decide_eq_true (by omega)), if_neg (by rw [decide_eq_false (by omega)]; exact Bool.false_ne_true), chM_ge (by omega), chM_ge (by omega), chM_ge (by omega)]
      show _ = cho (m + d + 1) m + cho (m + d + 1) (m + 1)
      omega
termination_by n m => n + m
end
end PB
set_option Elab.async false
set_option linter.all false
set_option maxRecDepth 100000
set_option maxHeartbeats 0
namespace G_k65
open PB
noncomputable section
def m__law_mix : MS LS := (mSeq (mIncC 0)
    (mSeq (mSet 1 (mCnt 0))
    (mSeq (mSet 2 (mC (.int 5)))
    (mSeq (mIfS (mHasC 0) (mSet 2 (mAtC 0 (mOp2 oMod (mVar 1) (mLenC 0)))) mPass)
    (mSeq (mSet 3 (mOp2 oMod (mOp2 oPow (mOp2 oAdd (mOp2 oAdd (mOp2 oAdd (mVar 2) (mOp2 oMul (mOp2 oMul (mC (.int 1009)) (mVar 1)) (mVar 1))) (mOp2 oMul (mC (.int 48611)) (mVar 1))) (mC (.int 17))) (mC (.int 5))) (mC (.int 2147483647))))
    (mRet (mOp2 oMod (mOp2 oAdd (mOp2 oMul (mVar 3) (mC (.int 39373))) (mOp2 oMul (mC (.int 7919)) (mVar 1))) (mC (.int 1000000007)))))))))
def F__law_mix : MF LS := mDef 4 1 (m__law_mix)
def m__law_draw : MS LS := (mSeq (mIfS (mAnd (mTest (mOp2 oEq (mTold 0) (mC (.int 0)))) (mHasG 0)) (mPopG 0) mPass)
    (mSeq (mIfS (mTest (mOp2 oGt (mTold 0) (mC (.int 0)))) (mSeq (mSet 2 (mOp2 oMod (mTold 0) (mVar 1)))
    (mSeq (mSetTold 0 (mOp2 oDiv (mTold 0) (mVar 1)))
    (mRet (mVar 2)))) mPass)
    (mSeq (mSet 2 (mC (.int 0)))
    (mSeq (mSet 3 (mC (.int 1)))
    (mSeq (mWhile (mTest (mOp2 oLt (mVar 3) (mVar 1))) (mSeq (mSet 2 (mOp2 oAdd (mOp2 oMul (mVar 2) (mC (.int 1000000007))) (mCall F__law_mix (mCons (mVar 0) mNil))))
    (mSet 3 (mOp2 oMul (mVar 3) (mC (.int 1000000007))))) 100)
    (mRet (mOp2 oMod (mVar 2) (mVar 1))))))))
def F__law_draw : MF LS := mDef 4 2 (m__law_draw)
def m__law_letters : MS LS := (mSeq (mSet 1 (mC (.str [97, 98, 99, 100, 101, 102, 103, 104, 105, 106, 107, 108, 109, 110, 111, 112, 113, 114, 115, 116, 117, 118, 119, 120, 121, 122])))
    (mSeq (mSet 2 (mCall F__law_draw (mCons (mVar 0) (mCons (mC (.int 4)) mNil))))
    (mSeq (mSet 3 (mCall F__law_draw (mCons (mVar 0) (mCons (mC (.int 26)) mNil))))
    (mSeq (mSet 4 (mCall F__law_draw (mCons (mVar 0) (mCons (mC (.int 25)) mNil))))
    (mSeq (mSet 4 (mOp2 oMod (mOp2 oAdd (mOp2 oAdd (mVar 3) (mC (.int 1))) (mVar 4)) (mC (.int 26))))
    (mSeq (mIfS (mTest (mOp2 oEq (mVar 2) (mC (.int 3)))) (mRet (mVar 1)) mPass)
    (mRet (mOp2 oIx (mLst (mCons (mOp2 oAdd (mOp2 oIx (mVar 1) (mVar 3)) (mOp2 oIx (mVar 1) (mVar 4))) (mCons (mOp2 oAdd (mOp2 oAdd (mOp2 oIx (mVar 1) (mVar 3)) (mOp2 oIx (mVar 1) (mVar 4))) (mOp2 oIx (mC (.str [97, 113, 122])) (mCall F__law_draw (mCons (mVar 0) (mCons (mC (.int 3)) mNil))))) mNil))) (mOp2 oMod (mVar 2) (mC (.int 2)))))))))))
def F__law_letters : MF LS := mDef 5 1 (m__law_letters)
def m__law_word : MS LS := (mRet (mS1 oJoin (mC (.str [])) (mLc (mRange1 (mCall F__law_draw (mCons (mVar 0) (mCons (mOp2 oAdd (mVar 1) (mC (.int 1))) mNil)))) (tgN 3) mYes (mOp2 oIx (mVar 2) (mCall F__law_draw (mCons (mVar 0) (mCons (mOpN oLen (mCons (mVar 2) mNil)) mNil)))) [3])))
def F__law_word : MF LS := mDef 4 3 (m__law_word)
def m__law_near : MS LS := (mSeq (mSet 4 (mOpN oListS (mCons (mVar 1) mNil)))
    (mSeq (mFor (mRange1 (mCall F__law_draw (mCons (mVar 0) (mCons (mC (.int 5)) mNil)))) (tgN 5) (mSeq (mSet 6 (mCall F__law_draw (mCons (mVar 0) (mCons (mC (.int 3)) mNil))))
    (mSeq (mSet 7 (mCall F__law_draw (mCons (mVar 0) (mCons (mOp2 oAdd (mOpN oLen (mCons (mVar 4) mNil)) (mC (.int 1))) mNil))))
    (mSeq (mSet 8 (mOp2 oIx (mVar 3) (mCall F__law_draw (mCons (mVar 0) (mCons (mOpN oLen (mCons (mVar 3) mNil)) mNil)))))
    (mSeq (mIfS (mAnd (mTest (mOp2 oEq (mVar 6) (mC (.int 0)))) (mTest (mOp2 oLt (mOpN oLen (mCons (mVar 4) mNil)) (mVar 2)))) (mIns 4 (mCons (mVar 7) (mCons (mVar 8) mNil))) mPass)
    (mSeq (mIfS (mAnd (mTest (mOp2 oEq (mVar 6) (mC (.int 1)))) (mTest (mOp2 oLt (mVar 7) (mOpN oLen (mCons (mVar 4) mNil))))) (mPopAt 4 (mCons (mVar 7) mNil)) mPass)
    (mIfS (mAnd (mTest (mOp2 oEq (mVar 6) (mC (.int 2)))) (mTest (mOp2 oLt (mVar 7) (mOpN oLen (mCons (mVar 4) mNil))))) (mPut 4 (mVar 7) (mVar 8)) mPass)))))))
    (mRet (mS1 oJoin (mC (.str [])) (mVar 4)))))
def F__law_near : MF LS := mDef 9 4 (m__law_near)
def m__law_two_words : MS LS := (mSeq (mSet 2 (mCall F__law_letters (mCons (mVar 0) mNil)))
    (mSeq (mSet 3 (mCall F__law_draw (mCons (mVar 0) (mCons (mC (.int 5)) mNil))))
    (mSeq (mFrz 2) (mSeq (mSet 4 (mCall F__law_word (mCons (mVar 0) (mCons (mVar 1) (mCons (mVar 2) mNil)))))
    (mSeq (mFrz 2) (mSeq (mSet 5 (mCall F__law_word (mCons (mVar 0) (mCons (mVar 1) (mCons (mVar 2) mNil)))))
    (mSeq (mIfS (mTest (mOp2 oEq (mVar 3) (mC (.int 3)))) (mSeq (mFrz 2) (mSeq (mFrz 4) (mSet 5 (mCall F__law_near (mCons (mVar 0) (mCons (mVar 4) (mCons (mVar 1) (mCons (mVar 2) mNil)))))))) mPass)
    (mSeq (mIfS (mTest (mOp2 oEq (mVar 3) (mC (.int 4)))) (mSeq (mFrz 2) (mSeq (mFrz 4) (mSet 5 (mOp1 oRev (mCall F__law_near (mCons (mVar 0) (mCons (mVar 4) (mCons (mVar 1) (mCons (mVar 2) mNil))))))))) mPass)
    (mRet (mTup (mCons (mVar 4) (mCons (mVar 5) mNil))))))))))))
def F__law_two_words : MF LS := mDef 6 2 (m__law_two_words)
def m__law_price : MS LS := (mSeq (mSet 1 (mOp2 oIx (mLst (mCons (mC (.int 4)) (mCons (mC (.int 13)) (mCons (mC (.int 100)) (mCons (mOp2 oPow (mC (.int 10)) (mC (.int 39))) mNil))))) (mCall F__law_draw (mCons (mVar 0) (mCons (mC (.int 4)) mNil)))))
    (mSeq (mSet 2 (mLc (mRange1 (mC (.int 3))) (tgN 3) mYes (mCall F__law_draw (mCons (mVar 0) (mCons (mVar 1) mNil))) [3]))
    (mSeq (mIfS (mTest (mOp2 oEq (mCall F__law_draw (mCons (mVar 0) (mCons (mC (.int 4)) mNil))) (mC (.int 0)))) (mPut 2 (mCall F__law_draw (mCons (mVar 0) (mCons (mC (.int 3)) mNil))) (mC (.int 0))) mPass)
    (mSeq (mIfS (mTest (mOp2 oEq (mOpN oSum (mCons (mVar 2) mNil)) (mC (.int 0)))) (mPut 2 (mCall F__law_draw (mCons (mVar 0) (mCons (mC (.int 3)) mNil))) (mOp2 oAdd (mC (.int 1)) (mCall F__law_draw (mCons (mVar 0) (mCons (mC (.int 9)) mNil))))) mPass)
    (mRet (mOpN oTuple (mCons (mVar 2) mNil)))))))
def F__law_price : MF LS := mDef 4 1 (m__law_price)
def m__law_whole : MS LS := (mRet (mAndV (mOp1 (oIs .int) (mVar 0)) (mNotV (mOp1 (oIs .bool) (mVar 0)))))
def F__law_whole : MF LS := mDef 1 1 (m__law_whole)
def m__law_same (F : MF LS) : MS LS := (mSeq (mIfS (mTest (mOp1 (oIs .tuple) (mVar 1))) (mSeq (mIfS (mOr (mNot (mTest (mOp1 (oIs .tuple) (mVar 0)))) (mTest (mOp2 oNe (mOpN oLen (mCons (mVar 0) mNil)) (mOpN oLen (mCons (mVar 1) mNil))))) (mRet (mC (.bl false))) mPass)
    (mRet (mOpN oAll (mCons (mLc (mZip2 (mVar 0) (mVar 1)) (tgT [2, 3]) mYes (mCall F (mCons (mVar 2) (mCons (mVar 3) mNil))) [2, 3]) mNil)))) mPass)
    (mSeq (mIfS (mTest (mOp1 oIsN (mVar 1))) (mRet (mOp1 oIsN (mVar 0))) mPass)
    (mSeq (mIfS (mTest (mOp1 (oIs .bool) (mVar 1))) (mRet (mAndV (mOp1 (oIs .bool) (mVar 0)) (mOp2 oEq (mVar 0) (mVar 1)))) mPass)
    (mSeq (mIfS (mTest (mOp1 (oIs .int) (mVar 1))) (mRet (mAndV (mCall F__law_whole (mCons (mVar 0) mNil)) (mOp2 oEq (mVar 0) (mVar 1)))) mPass)
    (mRet (mAndV (mOp1 (oIs .str) (mVar 0)) (mOp2 oEq (mVar 0) (mVar 1))))))))
def F__law_same : Nat → MF LS
  | 0 => fun _ _ => .no
  | n + 1 => mDef 4 2 (m__law_same (F__law_same n))
def m_triple_of : MS LS := (mRet (mTup (mCons (mOpN oMin3 (mCons (mVar 0) (mCons (mOp2 oAdd (mVar 1) (mVar 3)) (mCons (mOp2 oAdd (mVar 2) (mVar 3)) mNil)))) (mCons (mOpN oMin3 (mCons (mVar 0) (mCons (mVar 1) (mCons (mOp2 oAdd (mVar 2) (mVar 3)) mNil)))) (mCons (mOpN oMin3 (mCons (mVar 0) (mCons (mOp2 oAdd (mVar 1) (mVar 3)) (mCons (mVar 2) mNil)))) mNil)))))
def F_triple_of : MF LS := mDef 4 4 (m_triple_of)
def mb_rests_of : MS (LS × NL) := (mSeq (mNlPut 7 (mOpN oLen (mCons (mVar 0) mNil)) (mOpN oLen (mCons (mVar 1) mNil)) (mTup (mCons (mC (.int 0)) (mCons (mC (.int 0)) (mCons (mC (.int 0)) mNil)))))
    (mSeq (mFor (mRangeA (mCons (mOpN oLen (mCons (mVar 0) mNil)) (mCons (mOp1 oNeg (mC (.int 1))) (mCons (mOp1 oNeg (mC (.int 1))) mNil)))) (tgN 8) (mFor (mRangeA (mCons (mOpN oLen (mCons (mVar 1) mNil)) (mCons (mOp1 oNeg (mC (.int 1))) (mCons (mOp1 oNeg (mC (.int 1))) mNil)))) (tgN 9) (mIfS (mOr (mTest (mOp2 oLt (mVar 8) (mOpN oLen (mCons (mVar 0) mNil)))) (mTest (mOp2 oLt (mVar 9) (mOpN oLen (mCons (mVar 1) mNil))))) (mSeq (mSet 10 (mVar 6))
    (mSeq (mIfS (mAnd (mTest (mOp2 oLt (mVar 8) (mOpN oLen (mCons (mVar 0) mNil)))) (mTest (mOp2 oLt (mVar 9) (mOpN oLen (mCons (mVar 1) mNil))))) (mSet 10 (mOp2 oAdd (mOp2 oIx (mNlGet 7 (mOp2 oAdd (mVar 8) (mC (.int 1))) (mOp2 oAdd (mVar 9) (mC (.int 1)))) (mC (.int 0))) (mOp2 oMul (mVar 3) (mOpN oInt (mCons (mOp2 oNe (mOp2 oIx (mVar 0) (mVar 8)) (mOp2 oIx (mVar 1) (mVar 9))) mNil))))) mPass)
    (mSeq (mFrz 10) (mNlPut 7 (mVar 8) (mVar 9) (mCall (liftF F_triple_of) (mCons (mVar 10) (mCons (mOp2 oAdd (mOp2 oIx (mNlGet 7 (mOp2 oAdd (mVar 8) (mC (.int 1))) (mVar 9)) (mC (.int 1))) (mVar 4)) (mCons (mOp2 oAdd (mOp2 oIx (mNlGet 7 (mVar 8) (mOp2 oAdd (mVar 9) (mC (.int 1)))) (mC (.int 2))) (mVar 4)) (mCons (mVar 5) mNil))))))))) mPass)))
    mPass))
def m_rests_of : MS LS := (mSeq (mTgt (tgT [3, 4, 5]) (mVar 2))
    (mSeq (mSet 6 (mOp2 oMul (mOp2 oAdd (mOp2 oAdd (mOpN oLen (mCons (mVar 0) mNil)) (mOpN oLen (mCons (mVar 1) mNil))) (mC (.int 1))) (mOp2 oAdd (mOp2 oAdd (mVar 3) (mVar 4)) (mVar 5))))
    (mNest 7 (mRange1 (mOp2 oAdd (mOpN oLen (mCons (mVar 0) mNil)) (mC (.int 2)))) (tgN 11) (mOp2 oRep (mLst (mCons (mTup (mCons (mVar 6) (mCons (mVar 6) (mCons (mVar 6) mNil)))) mNil)) (mOp2 oAdd (mOpN oLen (mCons (mVar 1) mNil)) (mC (.int 2)))) [11] mb_rests_of)))
def F_rests_of : MF LS := mDef 12 3 (m_rests_of)
def m_Ways_tight : MS (GW LS) := (mSeq (mTgt (tgT [2, 3, 4]) (mVar 1))
    (mSeq (mTgt (tgT [5, 6]) (mWyF WS.words (mVar 0)))
    (mSeq (mTgt (tgT [7, 8, 9]) (mWyF WS.price (mVar 0)))
    (mSeq (mSet 10 (mOp2 oIx (mWyRest (mVar 0) (mVar 2) (mVar 3)) (mVar 4)))
    (mSeq (mSet 11 (mLst mNil))
    (mSeq (mIfS (mAnd (mTest (mOp2 oLt (mVar 2) (mOpN oLen (mCons (mVar 5) mNil)))) (mAnd (mTest (mOp2 oLt (mVar 3) (mOpN oLen (mCons (mVar 6) mNil)))) (mTest (mOp2 oEq (mOp2 oAdd (mOp2 oIx (mWyRest (mVar 0) (mOp2 oAdd (mVar 2) (mC (.int 1))) (mOp2 oAdd (mVar 3) (mC (.int 1)))) (mC (.int 0))) (mOp2 oMul (mVar 7) (mOpN oInt (mCons (mOp2 oNe (mOp2 oIx (mVar 5) (mVar 2)) (mOp2 oIx (mVar 6) (mVar 3))) mNil)))) (mVar 10))))) (mApp 11 (mTup (mCons (mC (.int 0)) (mCons (mTup (mCons (mOp2 oAdd (mVar 2) (mC (.int 1))) (mCons (mOp2 oAdd (mVar 3) (mC (.int 1))) (mCons (mC (.int 0)) mNil)))) mNil)))) mPass)
    (mSeq (mIfS (mAnd (mTest (mOp2 oLt (mVar 2) (mOpN oLen (mCons (mVar 5) mNil)))) (mTest (mOp2 oEq (mOp2 oAdd (mOp2 oAdd (mOp2 oIx (mWyRest (mVar 0) (mOp2 oAdd (mVar 2) (mC (.int 1))) (mVar 3)) (mC (.int 1))) (mVar 8)) (mOp2 oMul (mVar 9) (mOpN oInt (mCons (mOp2 oNe (mVar 4) (mC (.int 1))) mNil)))) (mVar 10)))) (mApp 11 (mTup (mCons (mC (.int 1)) (mCons (mTup (mCons (mOp2 oAdd (mVar 2) (mC (.int 1))) (mCons (mVar 3) (mCons (mC (.int 1)) mNil)))) mNil)))) mPass)
    (mSeq (mIfS (mAnd (mTest (mOp2 oLt (mVar 3) (mOpN oLen (mCons (mVar 6) mNil)))) (mTest (mOp2 oEq (mOp2 oAdd (mOp2 oAdd (mOp2 oIx (mWyRest (mVar 0) (mVar 2) (mOp2 oAdd (mVar 3) (mC (.int 1)))) (mC (.int 2))) (mVar 8)) (mOp2 oMul (mVar 9) (mOpN oInt (mCons (mOp2 oNe (mVar 4) (mC (.int 2))) mNil)))) (mVar 10)))) (mApp 11 (mTup (mCons (mC (.int 2)) (mCons (mTup (mCons (mVar 2) (mCons (mOp2 oAdd (mVar 3) (mC (.int 1))) (mCons (mC (.int 2)) mNil)))) mNil)))) mPass)
    (mRet (mVar 11))))))))))
def F_Ways_tight : MF (GW LS) := mDef 12 2 m_Ways_tight
def m_Ways_is_end : MS (GW LS) := (mRet (mAndV (mOp2 oEq (mOp2 oIx (mVar 1) (mC (.int 0))) (mOpN oLen (mCons (mOp2 oIx (mWyF WS.words (mVar 0)) (mC (.int 0))) mNil))) (mOp2 oEq (mOp2 oIx (mVar 1) (mC (.int 1))) (mOpN oLen (mCons (mOp2 oIx (mWyF WS.words (mVar 0)) (mC (.int 1))) mNil)))))
def F_Ways_is_end : MF (GW LS) := mDef 2 2 m_Ways_is_end
def m_Ways_lead_on : MS (GW LS) := (mSeq (mWyPutS (mVar 0) (mVar 1) (mMeth slW F_Ways_tight (mVar 0) (mCons (mVar 1) mNil)))
    (mSeq (mWyPutM (mVar 0) (mVar 1) (mOpN oSum (mCons (mLc (mItems (mWyD true (mVar 0) (mVar 1))) (tgT [2, 3]) mYes (mWyD false (mVar 0) (mVar 3)) [2, 3]) mNil)))
    (mIfS (mTru (mMeth slW F_Ways_is_end (mVar 0) (mCons (mVar 1) mNil))) (mWyPutM (mVar 0) (mVar 1) (mC (.int 1))) mPass)))
def F_Ways_lead_on : MF (GW LS) := mDef 4 2 m_Ways_lead_on
def mL_Ways : MS (GW LS) := (mFor (mRangeA (mCons (mOpN oLen (mCons (mVar 1) mNil)) (mCons (mOp1 oNeg (mC (.int 1))) (mCons (mOp1 oNeg (mC (.int 1))) mNil)))) (tgN 4) (mFor (mRangeA (mCons (mOpN oLen (mCons (mVar 2) mNil)) (mCons (mOp1 oNeg (mC (.int 1))) (mCons (mOp1 oNeg (mC (.int 1))) mNil)))) (tgN 5) (mFor (mRange1 (mC (.int 3))) (tgN 6) (mDrop (mMeth slW F_Ways_lead_on (mVar 0) (mCons (mTup (mCons (mVar 4) (mCons (mVar 5) (mCons (mVar 6) mNil)))) mNil))))))
abbrev M_Ways : List D → Nat → LS → Rs LS WS := mkWy F_rests_of mL_Ways 3
def m_how_many : MS LS := (mRet (mWy1 M_Ways (mCons (mVar 0) (mCons (mVar 1) (mCons (mVar 2) mNil))) (mC (.tup [(.int 0), (.int 0), (.int 0)]))))
def F_how_many : MF LS := mDef 3 3 (m_how_many)
def m__law_rests : MS LS := (mSeq (mTgt (tgT [3, 4, 5]) (mVar 2))
    (mSeq (mSet 6 (mOp2 oAdd (mOp2 oMul (mC (.int 100)) (mOp2 oAdd (mOp2 oAdd (mVar 3) (mVar 4)) (mVar 5))) (mC (.int 1))))
    (mSeq (mSet 7 (mLc (mRange1 (mOp2 oAdd (mOpN oLen (mCons (mVar 0) mNil)) (mC (.int 1)))) (tgN 16) mYes (mLst mNil) [16]))
    (mSeq (mSet 8 (mLst mNil))
    (mSeq (mFor (mRangeA (mCons (mOpN oLen (mCons (mVar 0) mNil)) (mCons (mOp1 oNeg (mC (.int 1))) (mCons (mOp1 oNeg (mC (.int 1))) mNil)))) (tgN 9) (mSeq (mSet 10 (mOp2 oRep (mLst (mCons (mTup (mCons (mVar 6) (mCons (mVar 6) (mCons (mVar 6) mNil)))) mNil)) (mOp2 oAdd (mOpN oLen (mCons (mVar 1) mNil)) (mC (.int 1)))))
    (mSeq (mFor (mRangeA (mCons (mOpN oLen (mCons (mVar 1) mNil)) (mCons (mOp1 oNeg (mC (.int 1))) (mCons (mOp1 oNeg (mC (.int 1))) mNil)))) (tgN 11) (mSeq (mPar3 12 13 14 (mVar 6) (mVar 6) (mVar 6))
    (mSeq (mIfS (mAnd (mTest (mOp2 oLt (mVar 9) (mOpN oLen (mCons (mVar 0) mNil)))) (mTest (mOp2 oLt (mVar 11) (mOpN oLen (mCons (mVar 1) mNil))))) (mSeq (mSet 15 (mOp2 oMul (mVar 3) (mOpN oInt (mCons (mOp2 oNe (mOp2 oIx (mVar 0) (mVar 9)) (mOp2 oIx (mVar 1) (mVar 11))) mNil))))
    (mSet 12 (mOp2 oAdd (mOp2 oIx (mOp2 oIx (mVar 8) (mOp2 oAdd (mVar 11) (mC (.int 1)))) (mC (.int 0))) (mVar 15)))) mPass)
    (mSeq (mIfS (mTest (mOp2 oLt (mVar 9) (mOpN oLen (mCons (mVar 0) mNil)))) (mSet 13 (mOp2 oAdd (mOp2 oIx (mOp2 oIx (mVar 8) (mVar 11)) (mC (.int 1))) (mVar 4))) mPass)
    (mSeq (mIfS (mTest (mOp2 oLt (mVar 11) (mOpN oLen (mCons (mVar 1) mNil)))) (mSet 14 (mOp2 oAdd (mOp2 oIx (mOp2 oIx (mVar 10) (mOp2 oAdd (mVar 11) (mC (.int 1)))) (mC (.int 2))) (mVar 4))) mPass)
    (mSeq (mPut 10 (mVar 11) (mTup (mCons (mOpN oMin3 (mCons (mVar 12) (mCons (mOp2 oAdd (mVar 13) (mVar 5)) (mCons (mOp2 oAdd (mVar 14) (mVar 5)) mNil)))) (mCons (mOpN oMin3 (mCons (mVar 12) (mCons (mVar 13) (mCons (mOp2 oAdd (mVar 14) (mVar 5)) mNil)))) (mCons (mOpN oMin3 (mCons (mVar 12) (mCons (mOp2 oAdd (mVar 13) (mVar 5)) (mCons (mVar 14) mNil)))) mNil)))))
    (mIfS (mAnd (mTest (mOp2 oEq (mVar 9) (mOpN oLen (mCons (mVar 0) mNil)))) (mTest (mOp2 oEq (mVar 11) (mOpN oLen (mCons (mVar 1) mNil))))) (mPut 10 (mVar 11) (mTup (mCons (mC (.int 0)) (mCons (mC (.int 0)) (mCons (mC (.int 0)) mNil))))) mPass)))))))
    (mSeq (mFrz 10) (mSeq (mPut 7 (mVar 9) (mVar 10))
    (mSet 8 (mVar 10)))))))
    (mRet (mVar 7)))))))
def F__law_rests : MF LS := mDef 17 3 (m__law_rests)
def m__law_go_on : MS LS := (mSeq (mTgt (tgT [5, 6, 7]) (mVar 2))
    (mSeq (mTgt (tgT [8, 9, 10]) (mVar 4))
    (mSeq (mSet 11 (mOp2 oIx (mOp2 oIx (mOp2 oIx (mVar 3) (mVar 8)) (mVar 9)) (mVar 10)))
    (mSeq (mSet 12 (mLst mNil))
    (mSeq (mIfS (mAnd (mTest (mOp2 oLt (mVar 8) (mOpN oLen (mCons (mVar 0) mNil)))) (mTest (mOp2 oLt (mVar 9) (mOpN oLen (mCons (mVar 1) mNil))))) (mSeq (mSet 13 (mOp2 oMul (mVar 5) (mOpN oInt (mCons (mOp2 oNe (mOp2 oIx (mVar 0) (mVar 8)) (mOp2 oIx (mVar 1) (mVar 9))) mNil))))
    (mIfS (mTest (mOp2 oEq (mOp2 oAdd (mOp2 oIx (mOp2 oIx (mOp2 oIx (mVar 3) (mOp2 oAdd (mVar 8) (mC (.int 1)))) (mOp2 oAdd (mVar 9) (mC (.int 1)))) (mC (.int 0))) (mVar 13)) (mVar 11))) (mApp 12 (mTup (mCons (mC (.int 0)) (mCons (mTup (mCons (mOp2 oAdd (mVar 8) (mC (.int 1))) (mCons (mOp2 oAdd (mVar 9) (mC (.int 1))) (mCons (mC (.int 0)) mNil)))) mNil)))) mPass)) mPass)
    (mSeq (mIfS (mAnd (mTest (mOp2 oLt (mVar 8) (mOpN oLen (mCons (mVar 0) mNil)))) (mTest (mOp2 oEq (mOp2 oAdd (mOp2 oAdd (mOp2 oIx (mOp2 oIx (mOp2 oIx (mVar 3) (mOp2 oAdd (mVar 8) (mC (.int 1)))) (mVar 9)) (mC (.int 1))) (mVar 6)) (mOp2 oMul (mVar 7) (mOpN oInt (mCons (mOp2 oNe (mVar 10) (mC (.int 1))) mNil)))) (mVar 11)))) (mApp 12 (mTup (mCons (mC (.int 1)) (mCons (mTup (mCons (mOp2 oAdd (mVar 8) (mC (.int 1))) (mCons (mVar 9) (mCons (mC (.int 1)) mNil)))) mNil)))) mPass)
    (mSeq (mIfS (mAnd (mTest (mOp2 oLt (mVar 9) (mOpN oLen (mCons (mVar 1) mNil)))) (mTest (mOp2 oEq (mOp2 oAdd (mOp2 oAdd (mOp2 oIx (mOp2 oIx (mOp2 oIx (mVar 3) (mVar 8)) (mOp2 oAdd (mVar 9) (mC (.int 1)))) (mC (.int 2))) (mVar 6)) (mOp2 oMul (mVar 7) (mOpN oInt (mCons (mOp2 oNe (mVar 10) (mC (.int 2))) mNil)))) (mVar 11)))) (mApp 12 (mTup (mCons (mC (.int 2)) (mCons (mTup (mCons (mVar 8) (mCons (mOp2 oAdd (mVar 9) (mC (.int 1))) (mCons (mC (.int 2)) mNil)))) mNil)))) mPass)
    (mRet (mVar 12)))))))))
def F__law_go_on : MF LS := mDef 14 5 (m__law_go_on)
def m__law_ways : MS LS := (mSeq (mSet 3 (mCall F__law_rests (mCons (mVar 0) (mCons (mVar 1) (mCons (mVar 2) mNil)))))
    (mSeq (mDNew true 4)
    (mSeq (mFor (mRangeA (mCons (mOpN oLen (mCons (mVar 0) mNil)) (mCons (mOp1 oNeg (mC (.int 1))) (mCons (mOp1 oNeg (mC (.int 1))) mNil)))) (tgN 5) (mFor (mRangeA (mCons (mOpN oLen (mCons (mVar 1) mNil)) (mCons (mOp1 oNeg (mC (.int 1))) (mCons (mOp1 oNeg (mC (.int 1))) mNil)))) (tgN 6) (mFor (mRange1 (mC (.int 3))) (tgN 7) (mSeq (mFrz 3) (mSeq (mSet 8 (mCall F__law_go_on (mCons (mVar 0) (mCons (mVar 1) (mCons (mVar 2) (mCons (mVar 3) (mCons (mTup (mCons (mVar 5) (mCons (mVar 6) (mCons (mVar 7) mNil)))) mNil)))))))
    (mSeq (mFrz 8) (mSeq (mDPut 4 (mTup (mCons (mVar 5) (mCons (mVar 6) (mCons (mVar 7) mNil)))) (mOpN oSum (mCons (mLc (mItems (mVar 8)) (tgT [9, 10]) mYes (mDGet 4 (mVar 10)) [9, 10]) mNil)))
    (mIfS (mAnd (mTest (mOp2 oEq (mVar 5) (mOpN oLen (mCons (mVar 0) mNil)))) (mTest (mOp2 oEq (mVar 6) (mOpN oLen (mCons (mVar 1) mNil))))) (mDPut 4 (mTup (mCons (mVar 5) (mCons (mVar 6) (mCons (mVar 7) mNil)))) (mC (.int 1))) mPass))))))))
    (mSeq (mFrz 4) (mRet (mVar 4))))))
def F__law_ways : MF LS := mDef 11 3 (m__law_ways)
def m__law_unlike : MS LS := (mSeq (mSet 2 (mOpN oListS (mCons (mC (.str [97, 98, 99, 100, 101, 102, 103, 104, 105, 106, 107, 108, 109, 110, 111, 112, 113, 114, 115, 116, 117, 118, 119, 120, 121, 122])) mNil)))
    (mRetPop 2 (mRange1 (mVar 1)) (tgN 3) (mCons (mCall F__law_draw (mCons (mVar 0) (mCons (mOpN oLen (mCons (mVar 2) mNil)) mNil))) mNil) [3]))
def F__law_unlike : MF LS := mDef 4 2 (m__law_unlike)
def m__law_chosen : MS LS := (mSeq (mSet 2 (mC (.int 1)))
    (mSeq (mFor (mRange1 (mVar 1)) (tgN 3) (mSet 2 (mOp2 oDiv (mOp2 oMul (mVar 2) (mOp2 oSub (mVar 0) (mVar 3))) (mOp2 oAdd (mVar 3) (mC (.int 1))))))
    (mRet (mVar 2))))
def F__law_chosen : MF LS := mDef 4 2 (m__law_chosen)
def m_law : MS LS := (mSeq (mFrz 1) (mSeq (mSet 2 (mOp2 oIx (mLst (mCons (mC (.int 8)) (mCons (mC (.int 8)) (mCons (mC (.int 8)) (mCons (mC (.int 12)) mNil))))) (mCall F__law_draw (mCons (mVar 1) (mCons (mC (.int 4)) mNil)))))
    (mSeq (mFrz 1) (mSeq (mTgt (tgT [3, 4]) (mCall F__law_two_words (mCons (mVar 1) (mCons (mVar 2) mNil))))
    (mSeq (mFrz 1) (mSeq (mSet 5 (mCall F__law_price (mCons (mVar 1) mNil)))
    (mSeq (mFrz 1) (mSeq (mIfS (mTest (mOp2 oEq (mCall F__law_draw (mCons (mVar 1) (mCons (mC (.int 8)) mNil))) (mC (.int 1)))) (mSeq (mFrz 1) (mSet 5 (mOpN oTuple (mCons (mLc (mRange1 (mC (.int 3))) (tgN 12) mYes (mOp2 oAdd (mC (.int 1)) (mCall F__law_draw (mCons (mVar 1) (mCons (mOp2 oSub (mOp2 oPow (mC (.int 10)) (mC (.int 40))) (mC (.int 1))) mNil)))) [12]) mNil)))) mPass)
    (mSeq (mFrz 5) (mSeq (mIfS (mNot (mTest (mCall (F__law_same 10) (mCons (mCall F_how_many (mCons (mVar 3) (mCons (mVar 4) (mCons (mVar 5) mNil)))) (mCons (mDGetX (mCall F__law_ways (mCons (mVar 3) (mCons (mVar 4) (mCons (mVar 5) mNil)))) (mTup (mCons (mC (.int 0)) (mCons (mC (.int 0)) (mCons (mC (.int 0)) mNil))))) mNil))))) (mRet (mC (.bl false))) mPass)
    (mSeq (mFrz 1) (mSeq (mSet 6 (mCall F__law_unlike (mCons (mVar 1) (mCons (mC (.int 2)) mNil))))
    (mSeq (mFrz 1) (mSeq (mSet 7 (mCall F__law_draw (mCons (mVar 1) (mCons (mC (.int 13)) mNil))))
    (mSeq (mFrz 1) (mSeq (mSet 8 (mCall F__law_draw (mCons (mVar 1) (mCons (mC (.int 13)) mNil))))
    (mSeq (mFrz 1) (mSeq (mSet 9 (mOp2 oAdd (mC (.int 1)) (mCall F__law_draw (mCons (mVar 1) (mCons (mOp2 oPow (mC (.int 10)) (mC (.int 20))) mNil)))))
    (mSeq (mPar 10 11 (mOp2 oRepC (mOp2 oIx (mVar 6) (mC (.int 0))) (mVar 7)) (mOp2 oRepC (mOp2 oIx (mVar 6) (mC (.int 1))) (mVar 8)))
    (mSeq (mFrz 7) (mSeq (mIfS (mNot (mTest (mCall (F__law_same 10) (mCons (mCall F_how_many (mCons (mVar 10) (mCons (mVar 11) (mCons (mTup (mCons (mVar 9) (mCons (mC (.int 0)) (mCons (mC (.int 0)) mNil)))) mNil)))) (mCons (mCall F__law_chosen (mCons (mOp2 oAdd (mVar 7) (mVar 8)) (mCons (mVar 7) mNil))) mNil))))) (mRet (mC (.bl false))) mPass)
    (mRet (mCall (F__law_same 10) (mCons (mCall F_how_many (mCons (mVar 10) (mCons (mVar 11) (mCons (mTup (mCons (mC (.int 0)) (mCons (mVar 9) (mCons (mC (.int 0)) mNil)))) mNil)))) (mCons (mCall F__law_chosen (mCons (mOpN oMax2 (mCons (mVar 7) (mCons (mVar 8) mNil))) (mCons (mOpN oMin2 (mCons (mVar 7) (mCons (mVar 8) mNil))) mNil))) mNil)))))))))))))))))))))))))
end
end G_k65
set_option Elab.async false
set_option linter.all false
set_option maxRecDepth 10000
set_option maxHeartbeats 4000000
set_option exponentiation.threshold 2000
namespace G_k65
open PB
theorem e_draw : F__law_draw = drawF := rfl
theorem e_price : F__law_price = priceF := rfl
theorem e_letters : F__law_letters = l_letters2F := rfl
theorem e_word : F__law_word = l_wordF := rfl
theorem e_near : F__law_near = l_nearF := rfl
theorem e_two : F__law_two_words = l_two2F := by
  unfold F__law_two_words l_two2F m__law_two_words l_two2M
  rw [e_letters, e_word, e_near, e_draw]
theorem e_triple : F_triple_of = triple_ofF := rfl
theorem e_rests : F_rests_of = rests_ofF := by
  unfold F_rests_of rests_ofF m_rests_of rests_ofM mb_rests_of rests_ofMB
  rw [e_triple]
theorem e_whole : F__law_whole = wholeF := rfl
theorem e_same : ∀ n, F__law_same n = sameF n
  | 0 => rfl
  | n + 1 => by
    unfold F__law_same sameF m__law_same sameM
    rw [e_same n, e_whole]
theorem e_M : M_Ways = wM := by
  show mkWy F_rests_of mL_Ways 3 = mkWy rests_ofF wLoopM 3
  rw [e_rests]
  rfl
theorem e_lways : F__law_ways = l_waysF := rfl
theorem e_unlike : F__law_unlike = l_unlikeF := rfl
theorem e_chosen : F__law_chosen = l_chosenF := rfl
theorem S_many {b : Nat} {p : V3} {xs ys : List Nat} {s : LS} {Q : Rv → LS → Prop} (hp : Pos p.1 p.2.1 p.2.2) (hl : Lt3 b p) (hb : b ≤ 1000) (hx : xs.length ≤ 30) (hy : ys.length ≤ 30) (q : Q (.dat (.int (CwP p xs ys 0 0 0 : Nat))) s) : Sat (F_how_many [.str xs, .str ys, vd p] s) Q := by
  unfold F_how_many m_how_many
  rw [e_M, S_def (k := 3) (ds := [.str xs, .str ys, vd p]) rfl]
  show Sat (mRet (mWy1 wM (mCons (mVar 0) (mCons (mVar 1) (mCons (mVar 2) mNil))) (mC p000)) [.dat (.str xs), .dat (.str ys), .dat (vd p)] s) _
  rw [S_ret', wy1_eq hp hl hb hx hy rfl rfl, Sat_ok]
  exact q
theorem erase_map {α β : Type} (f : α → β) : ∀ (L : List α) (i : Nat), (L.map f).eraseIdx i = (L.eraseIdx i).map f
  | [], _ => rfl
  | _ :: _, 0 => rfl
  | x :: L, i + 1 => congrArg (f x :: ·) (erase_map f L i)
theorem popL_cons {γ : Type} {tg : MG} {k : MA γ} {i n : Nat} {e e1 : Env} {d y : D} {ds acc xs : List D} {g g1 : γ} (h : tg d (st e i (.own xs)) = some e1) (hk : k e1 g = .ok [.dat (.int (n : Nat))] g1) (hx : xs[n]? = some y) (hl : acc.length < SZ) (hb : n ≤ 16777216) : popL tg k i e (d :: ds) acc xs g = popL tg k i e ds (acc ++ [y]) (xs.eraseIdx n) g1 := by
  rw [popL, h]
  dsimp only
  rw [hk]
  dsimp only
  rw [Int.toNat_natCast, hx]
  dsimp only
  have := (List.getElem?_eq_some_iff.mp hx).1
  rw [if_pos ⟨by omega, by omega, by omega, hl⟩]
theorem S_unlike {a b : Nat} {s : LS} {Q : Rv → LS → Prop} (h : Bud a (b + 2) s) (q : ∀ (c d : Nat) (s' : LS), c ≠ d → Bud a b s' → Q (.dat (.str [c, d])) s') : Sat (l_unlikeF [.ref a, .int 2] s) Q := by
  unfold l_unlikeF
  rw [S_def (k := 2) (ds := [.ref a, .int 2]) rfl]
  show Sat (l_unlikeM [.dat (.ref a), .dat (.int 2), .un, .un] s) _
  unfold l_unlikeM
  rw [S_seq, S_set]
  simp only [S_opN, S_cons, S_C, S_nil, kc_, kcb_, kN_, o_listS, SatO_some, kSet_own, kS_nx, st]
  let A : List Nat := [97, 98, 99, 100, 101, 102, 103, 104, 105, 106, 107, 108, 109, 110, 111, 112, 113, 114, 115, 116, 117, 118, 119, 120, 121, 122]
  let X : List D := A.map fun c => .str [c]
  show Sat (mRetPop 2 (mRange1 (mVar 1)) (tgN 3) (mCons (mCall drawF (mCons (mVar 0) (mCons (mOpN oLen (mCons (mVar 2) mNil)) mNil))) mNil) [3] [.dat (.ref a), .dat (.int 2), .own X, .un] s) (kD Q)
  have hX : X.length = 26 := rfl
  -- the draws
  have dr : ∀ (e : Env) (Y : List D) (m : Nat) (b : Nat) (s : LS), gt e 0 = .dat (.ref a) → gt e 2 = .own Y → Y.length = m + 1 → m ≤ 25 → Bud a (b + 1) s → ∃ (k : Int) (s' : LS), (mCons (mCall drawF (mCons (mVar 0) (mCons (mOpN oLen (mCons (mVar 2) mNil)) mNil))) mNil) e s = .ok [.dat (.int k)] s' ∧ 0 ≤ k ∧ k < (m : Int) + 1 ∧ Bud a b s' := by
    intro e Y m b s h0 h2 hY hm hB
    have hs : Sat (mCons (mCall drawF (mCons (mVar 0) (mCons (mOpN oLen (mCons (mVar 2) mNil)) mNil))) mNil e s) fun r s' => ∃ k : Int, r = [.dat (.int k)] ∧ 0 ≤ k ∧ k < (m : Int) + 1 ∧ Bud a b s' := by
      have ol : oLen [.bor Y] = some (.dat (.int ((m : Int) + 1))) := by
        show some (Rv.dat (.int (Y.length : Nat))) = _
        rw [hY]
        rfl
      simp only [S_cons, S_call, S_var, h0, h2, kVar_dat, kVar_own, kc_, S_opN, S_nil, kcb_, kN_, ol, SatO_some, kCall_u, stoL_dat, stoL_nil, consO_some]
      refine S_draw hB (by omega) (by omega) fun k s' k0 k1 hB' => ?_
      simp only [kc_, S_nil, kcb_]
      exact ⟨k, rfl, k0, k1, hB'⟩
    obtain ⟨r, s', e1, k, rfl, k0, k1, k2⟩ := hs.get
    exact ⟨k, s', e1, k0, k1, k2⟩
  obtain ⟨k1, s1, e1, a1, b1, h1⟩ := dr [.dat (.ref a), .dat (.int 2), .own X, .dat (.int 0)] X 25 (b + 1) s rfl rfl rfl (by omega) h
  obtain ⟨i, rfl⟩ : ∃ i : Nat, k1 = i := ⟨k1.toNat, by omega⟩
  have hi : i < 26 := by omega
  obtain ⟨k2, s2, e2, a2, b2, h2⟩ := dr [.dat (.ref a), .dat (.int 2), .own (X.eraseIdx i), .dat (.int 1)] (X.eraseIdx i) 24 b s1 rfl rfl (by rw [List.length_eraseIdx, if_pos (by rw [hX]; exact hi), hX]) (by omega) h1
  obtain ⟨j, rfl⟩ : ∃ j : Nat, k2 = j := ⟨k2.toNat, by omega⟩
  have hj : j < 25 := by omega
  obtain ⟨c, d, hc, hd, hn⟩ : ∃ c d : Nat, X[i]? = some (.str [c]) ∧ (X.eraseIdx i)[j]? = some (.str [d]) ∧ c ≠ d := by
    have key : ∀ i : Fin 26, ∀ j : Fin 25, ∃ c d : Nat, A[i.1]? = some c ∧ (A.eraseIdx i.1)[j.1]? = some d ∧ c ≠ d := by
      intro i j
      have hA : A.Nodup := by decide
      have hi : i.1 < A.length := i.2
      have hl : (A.eraseIdx i.1).length = 25 := by
        rw [List.length_eraseIdx, if_pos hi]
        rfl
      have hj : j.1 < (A.eraseIdx i.1).length := by rw [hl]; exact j.2
      refine ⟨A[i.1], (A.eraseIdx i.1)[j.1], List.getElem?_eq_getElem hi, List.getElem?_eq_getElem hj, fun e => ?_⟩
      rw [List.getElem_eraseIdx] at e
      split at e
      · have := (List.getElem_inj hA).mp e
        omega
      · have := (List.getElem_inj hA).mp e
        omega
    obtain ⟨c, d, h1, h2, h3⟩ := key ⟨i, hi⟩ ⟨j, hj⟩
    refine ⟨c, d, ?_, ?_, h3⟩
    · show (A.map fun c => D.str [c])[i]? = _
      rw [List.getElem?_map, h1]
      rfl
    · show ((A.map fun c => D.str [c]).eraseIdx i)[j]? = _
      rw [erase_map, List.getElem?_map, h2]
      rfl
  have hpop : popL (tgN 3) (mCons (mCall drawF (mCons (mVar 0) (mCons (mOpN oLen (mCons (mVar 2) mNil)) mNil))) mNil) 2 [.dat (.ref a), .dat (.int 2), .own X, .un] [.int 0, .int 1] [] X s = .ok [.str [c], .str [d]] s2 := by
    rw [popL_cons (e1 := [.dat (.ref a), .dat (.int 2), .own X, .dat (.int 0)]) rfl e1 hc (by decide) (by omega), popL_cons (e1 := [.dat (.ref a), .dat (.int 2), .own (X.eraseIdx i), .dat (.int 1)]) rfl e2 hd (show ([] ++ [D.str [c]]).length < 16777216 from (by show 1 < 16777216; omega)) (by omega)]
    rfl
  have hgo : mRetPop 2 (mRange1 (mVar 1)) (tgN 3) (mCons (mCall drawF (mCons (mVar 0) (mCons (mOpN oLen (mCons (mVar 2) mNil)) mNil))) mNil) [3] [.dat (.ref a), .dat (.int 2), .own X, .un] s = .ok (.rt (.dat (.str [c, d]))) s2 := by
    unfold mRetPop
    show (okO ((mRange1 (mVar 1) : MI LS) [.dat (.ref a), .dat (.int 2), .own X, .un] s)).bind _ = _
    have hr : (mRange1 (mVar 1) : MI LS) [.dat (.ref a), .dat (.int 2), .own X, .un] s = .ok [.int 0, .int 1] s := rfl
    rw [hr]
    show (if 2 ∈ [3] then Rs.no else (okO (popL (tgN 3) (mCons (mCall drawF (mCons (mVar 0) (mCons (mOpN oLen (mCons (mVar 2) mNil)) mNil))) mNil) 2 [.dat (.ref a), .dat (.int 2), .own X, .un] [.int 0, .int 1] [] X s)).bind _) = _
    rw [if_neg (by decide), hpop]
    rfl
  rw [hgo, Sat_ok, kD_rt]
  exact q c d s2 hn h2
theorem S_chosen {n k : Nat} {s : LS} {Q : Rv → LS → Prop} (hk : k ≤ n) (hn : n ≤ 24) (q : Q (.dat (.int (cho n k : Nat))) s) : Sat (l_chosenF [.int (n : Nat), .int (k : Nat)] s) Q := by
  unfold l_chosenF
  rw [S_def (k := 2) (ds := [.int (n : Nat), .int (k : Nat)]) rfl]
  show Sat (l_chosenM [.dat (.int (n : Nat)), .dat (.int (k : Nat)), .un, .un] s) _
  unfold l_chosenM
  rw [S_seq, S_set, S_C, kSet_dat, kS_nx, S_seq, S_for, S_range1, S_var]
  simp only [gt, st, kVar_dat]
  refine kRngU (by omega) ?_
  rw [kF_]
  refine S_forA (List.range k) (fun i : Nat => D.int (i : Nat)) (fun pre _ e g => g = s ∧ ∃ x3, e = [.dat (.int (n : Nat)), .dat (.int (k : Nat)), .dat (.int (cho n pre.length : Nat)), x3]) ⟨rfl, _, by rw [List.length_nil, cho_0]; rfl⟩ ?_ ?_
  · rintro pre i post e g hsp ⟨rfl, x3, rfl⟩
    have hi := range_pre hsp
    obtain ⟨hi, hik⟩ : i = pre.length ∧ i < k := by
      have hlt : pre.length < (List.range k).length := by rw [hsp, List.length_append, List.length_cons]; omega
      have e : (List.range k)[pre.length]? = some i := by
        rw [hsp, List.getElem?_append_right (Nat.le_refl _), Nat.sub_self]
        rfl
      rw [List.length_range] at hlt
      rw [List.getElem?_range hlt] at e
      cases e
      exact ⟨rfl, hlt⟩
    subst hi
    refine ⟨_, rfl, ?_⟩
    have hle : cho n pre.length ≤ 2 ^ 24 := Nat.le_trans (cho_le n pre.length) (Nat.pow_le_pow_right (by decide) hn)
    have hz : (cho n pre.length : Int).natAbs < 2 ^ 25 := by
      have : (2 : Nat) ^ 24 < 2 ^ 25 := by decide
      omega
    rw [S_set]
    simp only [S_op2, S_var, S_C, gt, st, kVar_dat, k2_, k2b_, o_sub, SatO_some, o_mul_u, o_add, o_div_u]
    refine ⟨mulOk (a := 25) (b := 6) hz (by omega) (by decide) (by decide) (by decide), ?_, ?_⟩
    · refine ⟨by omega, ?_⟩
      have : (((pre.length : Nat) : Int) + 1).natAbs ≤ 25 := by omega
      generalize (((pre.length : Nat) : Int) + 1).natAbs = z at this
      have : ∀ z : Fin 26, z.1.log2 < 9000 := by decide
      exact this ⟨z, by omega⟩
    rw [kSet_dat]
    refine ⟨rfl, .dat (.int (pre.length : Nat)), ?_⟩
    have e1 : (cho n pre.length : Int) * ((n : Int) - (pre.length : Nat)) / (((pre.length : Nat) : Int) + 1) = (cho n (pre.length + 1) : Nat) := by
      have h := cho_up n pre.length
      have h2 : (cho n pre.length : Int) * ((n : Int) - (pre.length : Nat)) = (((pre.length : Nat) : Int) + 1) * (cho n (pre.length + 1) : Nat) := by
        have h3 : ((n - pre.length : Nat) : Int) = (n : Int) - (pre.length : Nat) := by omega
        rw [← h3, ← Int.natCast_mul, ← h, Int.natCast_mul]
        rfl
      rw [h2, Int.mul_ediv_cancel_left _ (by omega)]
    rw [e1, List.length_append, List.length_singleton]
    rfl
  · rintro e g ⟨rfl, x3, rfl⟩
    rw [List.length_range, kS_nx, S_ret', S_var]
    simp only [gt]
    rw [kVar_dat, kR_, kD_rt]
    exact q
theorem o_repC {c n : Nat} (h : n ≤ 12) : oRepC (.dat (.str [c])) (.dat (.int (n : Nat))) = some (.dat (.str (List.replicate n c))) := by
  show (if 0 ≤ ((n : Nat) : Int) ∧ ((n : Nat) : Int) ≤ 1000 then some (Rv.dat (.str (List.replicate (((n : Nat) : Int)).toNat c))) else none) = _
  rw [if_pos ⟨by omega, by omega⟩, Int.toNat_natCast]
theorem law_pure (s : LS) (hs : s.Ok) (hc : s.cnt = 0) : ∃ g', m_law (.un :: .dat (.ref s.a) :: List.replicate 11 .un) s = .ok (.rt (.dat (.bl true))) g' := by
  have fin : Sat (m_law (.un :: .dat (.ref s.a) :: List.replicate 11 .un) s) fun f _ => f = .rt (.dat (.bl true)) := by
    have h0 : Bud s.a 200 s := ⟨hs, rfl, by omega⟩
    generalize hA : s.a = a at *
    show Sat (m_law [.un, .dat (.ref a), .un, .un, .un, .un, .un, .un, .un, .un, .un, .un, .un] s) _
    unfold m_law
    rw [e_draw, e_price, e_two, e_same, e_lways, e_unlike, e_chosen]
    rw [S_seq, S_frz_dat rfl, kS_nx]
    simp only [S_var, S_C, S_op1, k1_, S_op2, k2_, k2b_, S_nil, S_cons, kc_, kcb_, S_opN, kN_, S_tup, S_lst, kT_u, kL_u, stoL_nil, stoL_dat, stoL_own, consO_some, SatO_some, S_call, kCall_u, S_if, S_ifS, kI_true, kI_false, S_andV, S_orV, kAndV_true, kAndV_false, kOrV_true, kOrV_false, S_test, kTest_, S_tru, kTru_, S_and, S_or, S_not, kAnd_true, kAnd_false, kOr_true, kOr_false, kNot_, S_seq, kS_nx, kS_rt, kS_bk, kS_ct, S_pass, S_set, kSet_dat, kSet_own, S_par, kP_, kPb_, S_ret', kR_, S_retN, S_break, S_cont, S_for, kF_, S_forNil, kFb_nx, kFb_ct, kFb_bk, kFb_rt, S_items, kItems_tup, kItems_lst, kItems_own, S_lc, kLc_, S_lcNil, S_yes, kD_rt, kD_nx, Rv.ret, gt, st, kVar_dat, kVar_own, o_add, o_sub, o_eq, o_ne, o_lt, o_le, o_gt, o_ge, o_eqB, o_neB, o_is2, o_isnot2, o_abs, o_ix, o_ixO, o_ixB, o_ixL, o_tupO, o_isBool, map_some', wp, tgN_, List.length_cons, List.length_nil, Nat.reduceAdd, Nat.reduceLeDiff, true_and, decide_true, decide_false, Bool.not_true, Bool.not_false, o_mul_u, o_div_u, o_mod_u, o_pow_u, o_eqS, o_neS, o_intB, o_lenS, o_lenO, o_lenB, o_iaddI, S_s1, kS1_, kS1b_, S_lm, kLm_bor, kLm_own, kLmb_, S_tab, o_ixT, o_ixS, S_put, kPut_, kPutK_, S_zip2, kZip_, kZipb_tup, o_sum, o_sumB, o_tupB, o_tupL, o_lenT, S_range1, kRng_3, S_tgtL, kTgtL_, List.nil_append, List.cons_append, Nat.reduceLT, SZ, forall_const, true_implies, S_callD, kCallD_, is_tt, is_ti, is_ts, is_ii, is_ss, is_bi]
    refine S_draw (b := 199) h0 (by decide) (by decide) fun ix s1 i0 i1 h1 => ?_
    have hmm : ∃ mm : Int, 0 ≤ mm ∧ mm ≤ 12 ∧ atI [D.int 8, .int 8, .int 8, .int 12] ix = some (.int mm) := by
      rcases (by omega : ix = 0 ∨ ix = 1 ∨ ix = 2 ∨ ix = 3) with rfl | rfl | rfl | rfl
      · exact ⟨8, by decide, by decide, rfl⟩
      · exact ⟨8, by decide, by decide, rfl⟩
      · exact ⟨8, by decide, by decide, rfl⟩
      · exact ⟨12, by decide, by decide, rfl⟩
    obtain ⟨mm, m0, m1, em⟩ := hmm
    rw [k2b_, o_ixO, em]
    simp only [S_var, S_C, S_op1, k1_, S_op2, k2_, k2b_, S_nil, S_cons, kc_, kcb_, S_opN, kN_, S_tup, S_lst, kT_u, kL_u, stoL_nil, stoL_dat, stoL_own, consO_some, SatO_some, S_call, kCall_u, S_if, S_ifS, kI_true, kI_false, S_andV, S_orV, kAndV_true, kAndV_false, kOrV_true, kOrV_false, S_test, kTest_, S_tru, kTru_, S_and, S_or, S_not, kAnd_true, kAnd_false, kOr_true, kOr_false, kNot_, S_seq, kS_nx, kS_rt, kS_bk, kS_ct, S_pass, S_set, kSet_dat, kSet_own, S_par, kP_, kPb_, S_ret', kR_, S_retN, S_break, S_cont, S_for, kF_, S_forNil, kFb_nx, kFb_ct, kFb_bk, kFb_rt, S_items, kItems_tup, kItems_lst, kItems_own, S_lc, kLc_, S_lcNil, S_yes, kD_rt, kD_nx, Rv.ret, gt, st, kVar_dat, kVar_own, o_add, o_sub, o_eq, o_ne, o_lt, o_le, o_gt, o_ge, o_eqB, o_neB, o_is2, o_isnot2, o_abs, o_ix, o_ixO, o_ixB, o_ixL, o_tupO, o_isBool, map_some', wp, tgN_, List.length_cons, List.length_nil, Nat.reduceAdd, Nat.reduceLeDiff, true_and, decide_true, decide_false, Bool.not_true, Bool.not_false, o_mul_u, o_div_u, o_mod_u, o_pow_u, o_eqS, o_neS, o_intB, o_lenS, o_lenO, o_lenB, o_iaddI, S_s1, kS1_, kS1b_, S_lm, kLm_bor, kLm_own, kLmb_, S_tab, o_ixT, o_ixS, S_put, kPut_, kPutK_, S_zip2, kZip_, kZipb_tup, o_sum, o_sumB, o_tupB, o_tupL, o_lenT, S_range1, kRng_3, S_tgtL, kTgtL_, List.nil_append, List.cons_append, Nat.reduceLT, SZ, forall_const, true_implies, S_callD, kCallD_, is_tt, is_ti, is_ts, is_ii, is_ss, is_bi]
    rw [S_frz_dat rfl]
    simp only [S_var, S_C, S_op1, k1_, S_op2, k2_, k2b_, S_nil, S_cons, kc_, kcb_, S_opN, kN_, S_tup, S_lst, kT_u, kL_u, stoL_nil, stoL_dat, stoL_own, consO_some, SatO_some, S_call, kCall_u, S_if, S_ifS, kI_true, kI_false, S_andV, S_orV, kAndV_true, kAndV_false, kOrV_true, kOrV_false, S_test, kTest_, S_tru, kTru_, S_and, S_or, S_not, kAnd_true, kAnd_false, kOr_true, kOr_false, kNot_, S_seq, kS_nx, kS_rt, kS_bk, kS_ct, S_pass, S_set, kSet_dat, kSet_own, S_par, kP_, kPb_, S_ret', kR_, S_retN, S_break, S_cont, S_for, kF_, S_forNil, kFb_nx, kFb_ct, kFb_bk, kFb_rt, S_items, kItems_tup, kItems_lst, kItems_own, S_lc, kLc_, S_lcNil, S_yes, kD_rt, kD_nx, Rv.ret, gt, st, kVar_dat, kVar_own, o_add, o_sub, o_eq, o_ne, o_lt, o_le, o_gt, o_ge, o_eqB, o_neB, o_is2, o_isnot2, o_abs, o_ix, o_ixO, o_ixB, o_ixL, o_tupO, o_isBool, map_some', wp, tgN_, List.length_cons, List.length_nil, Nat.reduceAdd, Nat.reduceLeDiff, true_and, decide_true, decide_false, Bool.not_true, Bool.not_false, o_mul_u, o_div_u, o_mod_u, o_pow_u, o_eqS, o_neS, o_intB, o_lenS, o_lenO, o_lenB, o_iaddI, S_s1, kS1_, kS1b_, S_lm, kLm_bor, kLm_own, kLmb_, S_tab, o_ixT, o_ixS, S_put, kPut_, kPutK_, S_zip2, kZip_, kZipb_tup, o_sum, o_sumB, o_tupB, o_tupL, o_lenT, S_range1, kRng_3, S_tgtL, kTgtL_, List.nil_append, List.cons_append, Nat.reduceLT, SZ, forall_const, true_implies, S_callD, kCallD_, is_tt, is_ti, is_ts, is_ii, is_ss, is_bi]
    rw [S_tgt]
    simp only [S_call, S_cons, S_nil, S_var, S_C, gt, st, kVar_dat, kc_, kcb_, kCall_u, stoL_dat, stoL_nil, consO_some, SatO_some]
    refine S_two2 (b := 139) (mm := mm) (h1.le (by decide)) m0 m1 fun x y s2 hx hy h2 => ?_
    have hx1 := hx.1
    have hy1 := hy.1
    rw [kTgt_ (d := tw x y) (e1 := _) rfl, kS_nx]
    simp only [st]
    rw [S_seq, S_frz_dat rfl, kS_nx]
    simp only [S_var, S_C, S_op1, k1_, S_op2, k2_, k2b_, S_nil, S_cons, kc_, kcb_, S_opN, kN_, S_tup, S_lst, kT_u, kL_u, stoL_nil, stoL_dat, stoL_own, consO_some, SatO_some, S_call, kCall_u, S_if, S_ifS, kI_true, kI_false, S_andV, S_orV, kAndV_true, kAndV_false, kOrV_true, kOrV_false, S_test, kTest_, S_tru, kTru_, S_and, S_or, S_not, kAnd_true, kAnd_false, kOr_true, kOr_false, kNot_, S_seq, kS_nx, kS_rt, kS_bk, kS_ct, S_pass, S_set, kSet_dat, kSet_own, S_par, kP_, kPb_, S_ret', kR_, S_retN, S_break, S_cont, S_for, kF_, S_forNil, kFb_nx, kFb_ct, kFb_bk, kFb_rt, S_items, kItems_tup, kItems_lst, kItems_own, S_lc, kLc_, S_lcNil, S_yes, kD_rt, kD_nx, Rv.ret, gt, st, kVar_dat, kVar_own, o_add, o_sub, o_eq, o_ne, o_lt, o_le, o_gt, o_ge, o_eqB, o_neB, o_is2, o_isnot2, o_abs, o_ix, o_ixO, o_ixB, o_ixL, o_tupO, o_isBool, map_some', wp, tgN_, List.length_cons, List.length_nil, Nat.reduceAdd, Nat.reduceLeDiff, true_and, decide_true, decide_false, Bool.not_true, Bool.not_false, o_mul_u, o_div_u, o_mod_u, o_pow_u, o_eqS, o_neS, o_intB, o_lenS, o_lenO, o_lenB, o_iaddI, S_s1, kS1_, kS1b_, S_lm, kLm_bor, kLm_own, kLmb_, S_tab, o_ixT, o_ixS, S_put, kPut_, kPutK_, S_zip2, kZip_, kZipb_tup, o_sum, o_sumB, o_tupB, o_tupL, o_lenT, S_range1, kRng_3, S_tgtL, kTgtL_, List.nil_append, List.cons_append, Nat.reduceLT, SZ, forall_const, true_implies, S_callD, kCallD_, is_tt, is_ti, is_ts, is_ii, is_ss, is_bi]
    refine S_priceV (b := 130) (h2.le (by decide)) fun p s3 hp hl hp0 h3 => ?_
    simp only [S_var, S_C, S_op1, k1_, S_op2, k2_, k2b_, S_nil, S_cons, kc_, kcb_, S_opN, kN_, S_tup, S_lst, kT_u, kL_u, stoL_nil, stoL_dat, stoL_own, consO_some, SatO_some, S_call, kCall_u, S_if, S_ifS, kI_true, kI_false, S_andV, S_orV, kAndV_true, kAndV_false, kOrV_true, kOrV_false, S_test, kTest_, S_tru, kTru_, S_and, S_or, S_not, kAnd_true, kAnd_false, kOr_true, kOr_false, kNot_, S_seq, kS_nx, kS_rt, kS_bk, kS_ct, S_pass, S_set, kSet_dat, kSet_own, S_par, kP_, kPb_, S_ret', kR_, S_retN, S_break, S_cont, S_for, kF_, S_forNil, kFb_nx, kFb_ct, kFb_bk, kFb_rt, S_items, kItems_tup, kItems_lst, kItems_own, S_lc, kLc_, S_lcNil, S_yes, kD_rt, kD_nx, Rv.ret, gt, st, kVar_dat, kVar_own, o_add, o_sub, o_eq, o_ne, o_lt, o_le, o_gt, o_ge, o_eqB, o_neB, o_is2, o_isnot2, o_abs, o_ix, o_ixO, o_ixB, o_ixL, o_tupO, o_isBool, map_some', wp, tgN_, List.length_cons, List.length_nil, Nat.reduceAdd, Nat.reduceLeDiff, true_and, decide_true, decide_false, Bool.not_true, Bool.not_false, o_mul_u, o_div_u, o_mod_u, o_pow_u, o_eqS, o_neS, o_intB, o_lenS, o_lenO, o_lenB, o_iaddI, S_s1, kS1_, kS1b_, S_lm, kLm_bor, kLm_own, kLmb_, S_tab, o_ixT, o_ixS, S_put, kPut_, kPutK_, S_zip2, kZip_, kZipb_tup, o_sum, o_sumB, o_tupB, o_tupL, o_lenT, S_range1, kRng_3, S_tgtL, kTgtL_, List.nil_append, List.cons_append, Nat.reduceLT, SZ, forall_const, true_implies, S_callD, kCallD_, is_tt, is_ti, is_ts, is_ii, is_ss, is_bi]
    rw [S_frz_dat rfl, kS_nx, S_seq]
    have hstep : Sat ((mIfS (mTest (mOp2 oEq (mCall drawF (mCons (mVar 1) (mCons (mC (.int 8)) mNil))) (mC (.int 1)))) (mSeq (mFrz 1) (mSet 5 (mOpN oTuple (mCons (mLc (mRange1 (mC (.int 3))) (tgN 12) mYes (mOp2 oAdd (mC (.int 1)) (mCall drawF (mCons (mVar 1) (mCons (mOp2 oSub (mOp2 oPow (mC (.int 10)) (mC (.int 40))) (mC (.int 1))) mNil)))) [12]) mNil)))) mPass)
        [.un, .dat (.ref a), .dat (.int mm), .dat (.str x), .dat (.str y), .dat (vd p), .un, .un, .un, .un, .un, .un, .un] s3) fun f g => ∃ p : V3, f = .nx [.un, .dat (.ref a), .dat (.int mm), .dat (.str x), .dat (.str y), .dat (vd p), .un, .un, .un, .un, .un, .un, .un] ∧ Pos p.1 p.2.1 p.2.2 ∧ Lt3 140 p ∧ Bud a 120 g := by
      simp only [S_var, S_C, S_op1, k1_, S_op2, k2_, k2b_, S_nil, S_cons, kc_, kcb_, S_opN, kN_, S_tup, S_lst, kT_u, kL_u, stoL_nil, stoL_dat, stoL_own, consO_some, SatO_some, S_call, kCall_u, S_if, S_ifS, kI_true, kI_false, S_andV, S_orV, kAndV_true, kAndV_false, kOrV_true, kOrV_false, S_test, kTest_, S_tru, kTru_, S_and, S_or, S_not, kAnd_true, kAnd_false, kOr_true, kOr_false, kNot_, S_seq, kS_nx, kS_rt, kS_bk, kS_ct, S_pass, S_set, kSet_dat, kSet_own, S_par, kP_, kPb_, S_ret', kR_, S_retN, S_break, S_cont, S_for, kF_, S_forNil, kFb_nx, kFb_ct, kFb_bk, kFb_rt, S_items, kItems_tup, kItems_lst, kItems_own, S_lc, kLc_, S_lcNil, S_yes, kD_rt, kD_nx, Rv.ret, gt, st, kVar_dat, kVar_own, o_add, o_sub, o_eq, o_ne, o_lt, o_le, o_gt, o_ge, o_eqB, o_neB, o_is2, o_isnot2, o_abs, o_ix, o_ixO, o_ixB, o_ixL, o_tupO, o_isBool, map_some', wp, tgN_, List.length_cons, List.length_nil, Nat.reduceAdd, Nat.reduceLeDiff, true_and, decide_true, decide_false, Bool.not_true, Bool.not_false, o_mul_u, o_div_u, o_mod_u, o_pow_u, o_eqS, o_neS, o_intB, o_lenS, o_lenO, o_lenB, o_iaddI, S_s1, kS1_, kS1b_, S_lm, kLm_bor, kLm_own, kLmb_, S_tab, o_ixT, o_ixS, S_put, kPut_, kPutK_, S_zip2, kZip_, kZipb_tup, o_sum, o_sumB, o_tupB, o_tupL, o_lenT, S_range1, kRng_3, S_tgtL, kTgtL_, List.nil_append, List.cons_append, Nat.reduceLT, SZ, forall_const, true_implies, S_callD, kCallD_, is_tt, is_ti, is_ts, is_ii, is_ss, is_bi]
      refine S_draw (b := 129) (h3.le (by decide)) (by decide) (by decide) fun c s4 c0 c1 h4 => ?_
      simp only [S_var, S_C, S_op1, k1_, S_op2, k2_, k2b_, S_nil, S_cons, kc_, kcb_, S_opN, kN_, S_tup, S_lst, kT_u, kL_u, stoL_nil, stoL_dat, stoL_own, consO_some, SatO_some, S_call, kCall_u, S_if, S_ifS, kI_true, kI_false, S_andV, S_orV, kAndV_true, kAndV_false, kOrV_true, kOrV_false, S_test, kTest_, S_tru, kTru_, S_and, S_or, S_not, kAnd_true, kAnd_false, kOr_true, kOr_false, kNot_, S_seq, kS_nx, kS_rt, kS_bk, kS_ct, S_pass, S_set, kSet_dat, kSet_own, S_par, kP_, kPb_, S_ret', kR_, S_retN, S_break, S_cont, S_for, kF_, S_forNil, kFb_nx, kFb_ct, kFb_bk, kFb_rt, S_items, kItems_tup, kItems_lst, kItems_own, S_lc, kLc_, S_lcNil, S_yes, kD_rt, kD_nx, Rv.ret, gt, st, kVar_dat, kVar_own, o_add, o_sub, o_eq, o_ne, o_lt, o_le, o_gt, o_ge, o_eqB, o_neB, o_is2, o_isnot2, o_abs, o_ix, o_ixO, o_ixB, o_ixL, o_tupO, o_isBool, map_some', wp, tgN_, List.length_cons, List.length_nil, Nat.reduceAdd, Nat.reduceLeDiff, true_and, decide_true, decide_false, Bool.not_true, Bool.not_false, o_mul_u, o_div_u, o_mod_u, o_pow_u, o_eqS, o_neS, o_intB, o_lenS, o_lenO, o_lenB, o_iaddI, S_s1, kS1_, kS1b_, S_lm, kLm_bor, kLm_own, kLmb_, S_tab, o_ixT, o_ixS, S_put, kPut_, kPutK_, S_zip2, kZip_, kZipb_tup, o_sum, o_sumB, o_tupB, o_tupL, o_lenT, S_range1, kRng_3, S_tgtL, kTgtL_, List.nil_append, List.cons_append, Nat.reduceLT, SZ, forall_const, true_implies, S_callD, kCallD_, is_tt, is_ti, is_ts, is_ii, is_ss, is_bi]
      refine kI_d (fun _ => ?_) (fun _ => ?_)
      · simp only [S_var, S_C, S_op1, k1_, S_op2, k2_, k2b_, S_nil, S_cons, kc_, kcb_, S_opN, kN_, S_tup, S_lst, kT_u, kL_u, stoL_nil, stoL_dat, stoL_own, consO_some, SatO_some, S_call, kCall_u, S_if, S_ifS, kI_true, kI_false, S_andV, S_orV, kAndV_true, kAndV_false, kOrV_true, kOrV_false, S_test, kTest_, S_tru, kTru_, S_and, S_or, S_not, kAnd_true, kAnd_false, kOr_true, kOr_false, kNot_, S_seq, kS_nx, kS_rt, kS_bk, kS_ct, S_pass, S_set, kSet_dat, kSet_own, S_par, kP_, kPb_, S_ret', kR_, S_retN, S_break, S_cont, S_for, kF_, S_forNil, kFb_nx, kFb_ct, kFb_bk, kFb_rt, S_items, kItems_tup, kItems_lst, kItems_own, S_lc, kLc_, S_lcNil, S_yes, kD_rt, kD_nx, Rv.ret, gt, st, kVar_dat, kVar_own, o_add, o_sub, o_eq, o_ne, o_lt, o_le, o_gt, o_ge, o_eqB, o_neB, o_is2, o_isnot2, o_abs, o_ix, o_ixO, o_ixB, o_ixL, o_tupO, o_isBool, map_some', wp, tgN_, List.length_cons, List.length_nil, Nat.reduceAdd, Nat.reduceLeDiff, true_and, decide_true, decide_false, Bool.not_true, Bool.not_false, o_mul_u, o_div_u, o_mod_u, o_pow_u, o_eqS, o_neS, o_intB, o_lenS, o_lenO, o_lenB, o_iaddI, S_s1, kS1_, kS1b_, S_lm, kLm_bor, kLm_own, kLmb_, S_tab, o_ixT, o_ixS, S_put, kPut_, kPutK_, S_zip2, kZip_, kZipb_tup, o_sum, o_sumB, o_tupB, o_tupL, o_lenT, S_range1, kRng_3, S_tgtL, kTgtL_, List.nil_append, List.cons_append, Nat.reduceLT, SZ, forall_const, true_implies, S_callD, kCallD_, is_tt, is_ti, is_ts, is_ii, is_ss, is_bi]
        rw [S_frz_dat rfl]
        simp only [S_var, S_C, S_op1, k1_, S_op2, k2_, k2b_, S_nil, S_cons, kc_, kcb_, S_opN, kN_, S_tup, S_lst, kT_u, kL_u, stoL_nil, stoL_dat, stoL_own, consO_some, SatO_some, S_call, kCall_u, S_if, S_ifS, kI_true, kI_false, S_andV, S_orV, kAndV_true, kAndV_false, kOrV_true, kOrV_false, S_test, kTest_, S_tru, kTru_, S_and, S_or, S_not, kAnd_true, kAnd_false, kOr_true, kOr_false, kNot_, S_seq, kS_nx, kS_rt, kS_bk, kS_ct, S_pass, S_set, kSet_dat, kSet_own, S_par, kP_, kPb_, S_ret', kR_, S_retN, S_break, S_cont, S_for, kF_, S_forNil, kFb_nx, kFb_ct, kFb_bk, kFb_rt, S_items, kItems_tup, kItems_lst, kItems_own, S_lc, kLc_, S_lcNil, S_yes, kD_rt, kD_nx, Rv.ret, gt, st, kVar_dat, kVar_own, o_add, o_sub, o_eq, o_ne, o_lt, o_le, o_gt, o_ge, o_eqB, o_neB, o_is2, o_isnot2, o_abs, o_ix, o_ixO, o_ixB, o_ixL, o_tupO, o_isBool, map_some', wp, tgN_, List.length_cons, List.length_nil, Nat.reduceAdd, Nat.reduceLeDiff, true_and, decide_true, decide_false, Bool.not_true, Bool.not_false, o_mul_u, o_div_u, o_mod_u, o_pow_u, o_eqS, o_neS, o_intB, o_lenS, o_lenO, o_lenB, o_iaddI, S_s1, kS1_, kS1b_, S_lm, kLm_bor, kLm_own, kLmb_, S_tab, o_ixT, o_ixS, S_put, kPut_, kPutK_, S_zip2, kZip_, kZipb_tup, o_sum, o_sumB, o_tupB, o_tupL, o_lenT, S_range1, kRng_3, S_tgtL, kTgtL_, List.nil_append, List.cons_append, Nat.reduceLT, SZ, forall_const, true_implies, S_callD, kCallD_, is_tt, is_ti, is_ts, is_ii, is_ss, is_bi]
        have dl : (0 : Int) < 10 ^ (40 : Int).toNat - 1 := by decide
        have dh : (10 : Int) ^ (40 : Int).toNat - 1 ≤ 10 ^ 90 := by decide
        have du : (10 : Int) ^ (40 : Int).toNat < 2 ^ 139 := by decide
        have pk : PowOk 10 40 := by decide
        rw [S_lcCons (tgN_)]
        simp only [S_var, S_C, S_op1, k1_, S_op2, k2_, k2b_, S_nil, S_cons, kc_, kcb_, S_opN, kN_, S_tup, S_lst, kT_u, kL_u, stoL_nil, stoL_dat, stoL_own, consO_some, SatO_some, S_call, kCall_u, S_if, S_ifS, kI_true, kI_false, S_andV, S_orV, kAndV_true, kAndV_false, kOrV_true, kOrV_false, S_test, kTest_, S_tru, kTru_, S_and, S_or, S_not, kAnd_true, kAnd_false, kOr_true, kOr_false, kNot_, S_seq, kS_nx, kS_rt, kS_bk, kS_ct, S_pass, S_set, kSet_dat, kSet_own, S_par, kP_, kPb_, S_ret', kR_, S_retN, S_break, S_cont, S_for, kF_, S_forNil, kFb_nx, kFb_ct, kFb_bk, kFb_rt, S_items, kItems_tup, kItems_lst, kItems_own, S_lc, kLc_, S_lcNil, S_yes, kD_rt, kD_nx, Rv.ret, gt, st, kVar_dat, kVar_own, o_add, o_sub, o_eq, o_ne, o_lt, o_le, o_gt, o_ge, o_eqB, o_neB, o_is2, o_isnot2, o_abs, o_ix, o_ixO, o_ixB, o_ixL, o_tupO, o_isBool, map_some', wp, tgN_, List.length_cons, List.length_nil, Nat.reduceAdd, Nat.reduceLeDiff, true_and, decide_true, decide_false, Bool.not_true, Bool.not_false, o_mul_u, o_div_u, o_mod_u, o_pow_u, o_eqS, o_neS, o_intB, o_lenS, o_lenO, o_lenB, o_iaddI, S_s1, kS1_, kS1b_, S_lm, kLm_bor, kLm_own, kLmb_, S_tab, o_ixT, o_ixS, S_put, kPut_, kPutK_, S_zip2, kZip_, kZipb_tup, o_sum, o_sumB, o_tupB, o_tupL, o_lenT, S_range1, kRng_3, S_tgtL, kTgtL_, List.nil_append, List.cons_append, Nat.reduceLT, SZ, forall_const, true_implies, S_callD, kCallD_, is_tt, is_ti, is_ts, is_ii, is_ss, is_bi, kLcT_true]
        refine ⟨pk, ?_⟩
        refine S_draw (h4.le (show 128 + 1 ≤ _ by omega)) dl dh fun u s5 u0 u1 h5 => ?_
        simp only [S_var, S_C, S_op1, k1_, S_op2, k2_, k2b_, S_nil, S_cons, kc_, kcb_, S_opN, kN_, S_tup, S_lst, kT_u, kL_u, stoL_nil, stoL_dat, stoL_own, consO_some, SatO_some, S_call, kCall_u, S_if, S_ifS, kI_true, kI_false, S_andV, S_orV, kAndV_true, kAndV_false, kOrV_true, kOrV_false, S_test, kTest_, S_tru, kTru_, S_and, S_or, S_not, kAnd_true, kAnd_false, kOr_true, kOr_false, kNot_, S_seq, kS_nx, kS_rt, kS_bk, kS_ct, S_pass, S_set, kSet_dat, kSet_own, S_par, kP_, kPb_, S_ret', kR_, S_retN, S_break, S_cont, S_for, kF_, S_forNil, kFb_nx, kFb_ct, kFb_bk, kFb_rt, S_items, kItems_tup, kItems_lst, kItems_own, S_lc, kLc_, S_lcNil, S_yes, kD_rt, kD_nx, Rv.ret, gt, st, kVar_dat, kVar_own, o_add, o_sub, o_eq, o_ne, o_lt, o_le, o_gt, o_ge, o_eqB, o_neB, o_is2, o_isnot2, o_abs, o_ix, o_ixO, o_ixB, o_ixL, o_tupO, o_isBool, map_some', wp, tgN_, List.length_cons, List.length_nil, Nat.reduceAdd, Nat.reduceLeDiff, true_and, decide_true, decide_false, Bool.not_true, Bool.not_false, o_mul_u, o_div_u, o_mod_u, o_pow_u, o_eqS, o_neS, o_intB, o_lenS, o_lenO, o_lenB, o_iaddI, S_s1, kS1_, kS1b_, S_lm, kLm_bor, kLm_own, kLmb_, S_tab, o_ixT, o_ixS, S_put, kPut_, kPutK_, S_zip2, kZip_, kZipb_tup, o_sum, o_sumB, o_tupB, o_tupL, o_lenT, S_range1, kRng_3, S_tgtL, kTgtL_, List.nil_append, List.cons_append, Nat.reduceLT, SZ, forall_const, true_implies, S_callD, kCallD_, is_tt, is_ti, is_ts, is_ii, is_ss, is_bi, kLcA_dat]
        rw [S_lcCons (tgN_)]
        simp only [S_var, S_C, S_op1, k1_, S_op2, k2_, k2b_, S_nil, S_cons, kc_, kcb_, S_opN, kN_, S_tup, S_lst, kT_u, kL_u, stoL_nil, stoL_dat, stoL_own, consO_some, SatO_some, S_call, kCall_u, S_if, S_ifS, kI_true, kI_false, S_andV, S_orV, kAndV_true, kAndV_false, kOrV_true, kOrV_false, S_test, kTest_, S_tru, kTru_, S_and, S_or, S_not, kAnd_true, kAnd_false, kOr_true, kOr_false, kNot_, S_seq, kS_nx, kS_rt, kS_bk, kS_ct, S_pass, S_set, kSet_dat, kSet_own, S_par, kP_, kPb_, S_ret', kR_, S_retN, S_break, S_cont, S_for, kF_, S_forNil, kFb_nx, kFb_ct, kFb_bk, kFb_rt, S_items, kItems_tup, kItems_lst, kItems_own, S_lc, kLc_, S_lcNil, S_yes, kD_rt, kD_nx, Rv.ret, gt, st, kVar_dat, kVar_own, o_add, o_sub, o_eq, o_ne, o_lt, o_le, o_gt, o_ge, o_eqB, o_neB, o_is2, o_isnot2, o_abs, o_ix, o_ixO, o_ixB, o_ixL, o_tupO, o_isBool, map_some', wp, tgN_, List.length_cons, List.length_nil, Nat.reduceAdd, Nat.reduceLeDiff, true_and, decide_true, decide_false, Bool.not_true, Bool.not_false, o_mul_u, o_div_u, o_mod_u, o_pow_u, o_eqS, o_neS, o_intB, o_lenS, o_lenO, o_lenB, o_iaddI, S_s1, kS1_, kS1b_, S_lm, kLm_bor, kLm_own, kLmb_, S_tab, o_ixT, o_ixS, S_put, kPut_, kPutK_, S_zip2, kZip_, kZipb_tup, o_sum, o_sumB, o_tupB, o_tupL, o_lenT, S_range1, kRng_3, S_tgtL, kTgtL_, List.nil_append, List.cons_append, Nat.reduceLT, SZ, forall_const, true_implies, S_callD, kCallD_, is_tt, is_ti, is_ts, is_ii, is_ss, is_bi, kLcT_true]
        refine ⟨pk, ?_⟩
        refine S_draw (h5.le (show 127 + 1 ≤ _ by omega)) dl dh fun v s6 v0 v1 h6 => ?_
        simp only [S_var, S_C, S_op1, k1_, S_op2, k2_, k2b_, S_nil, S_cons, kc_, kcb_, S_opN, kN_, S_tup, S_lst, kT_u, kL_u, stoL_nil, stoL_dat, stoL_own, consO_some, SatO_some, S_call, kCall_u, S_if, S_ifS, kI_true, kI_false, S_andV, S_orV, kAndV_true, kAndV_false, kOrV_true, kOrV_false, S_test, kTest_, S_tru, kTru_, S_and, S_or, S_not, kAnd_true, kAnd_false, kOr_true, kOr_false, kNot_, S_seq, kS_nx, kS_rt, kS_bk, kS_ct, S_pass, S_set, kSet_dat, kSet_own, S_par, kP_, kPb_, S_ret', kR_, S_retN, S_break, S_cont, S_for, kF_, S_forNil, kFb_nx, kFb_ct, kFb_bk, kFb_rt, S_items, kItems_tup, kItems_lst, kItems_own, S_lc, kLc_, S_lcNil, S_yes, kD_rt, kD_nx, Rv.ret, gt, st, kVar_dat, kVar_own, o_add, o_sub, o_eq, o_ne, o_lt, o_le, o_gt, o_ge, o_eqB, o_neB, o_is2, o_isnot2, o_abs, o_ix, o_ixO, o_ixB, o_ixL, o_tupO, o_isBool, map_some', wp, tgN_, List.length_cons, List.length_nil, Nat.reduceAdd, Nat.reduceLeDiff, true_and, decide_true, decide_false, Bool.not_true, Bool.not_false, o_mul_u, o_div_u, o_mod_u, o_pow_u, o_eqS, o_neS, o_intB, o_lenS, o_lenO, o_lenB, o_iaddI, S_s1, kS1_, kS1b_, S_lm, kLm_bor, kLm_own, kLmb_, S_tab, o_ixT, o_ixS, S_put, kPut_, kPutK_, S_zip2, kZip_, kZipb_tup, o_sum, o_sumB, o_tupB, o_tupL, o_lenT, S_range1, kRng_3, S_tgtL, kTgtL_, List.nil_append, List.cons_append, Nat.reduceLT, SZ, forall_const, true_implies, S_callD, kCallD_, is_tt, is_ti, is_ts, is_ii, is_ss, is_bi, kLcA_dat]
        rw [S_lcCons (tgN_)]
        simp only [S_var, S_C, S_op1, k1_, S_op2, k2_, k2b_, S_nil, S_cons, kc_, kcb_, S_opN, kN_, S_tup, S_lst, kT_u, kL_u, stoL_nil, stoL_dat, stoL_own, consO_some, SatO_some, S_call, kCall_u, S_if, S_ifS, kI_true, kI_false, S_andV, S_orV, kAndV_true, kAndV_false, kOrV_true, kOrV_false, S_test, kTest_, S_tru, kTru_, S_and, S_or, S_not, kAnd_true, kAnd_false, kOr_true, kOr_false, kNot_, S_seq, kS_nx, kS_rt, kS_bk, kS_ct, S_pass, S_set, kSet_dat, kSet_own, S_par, kP_, kPb_, S_ret', kR_, S_retN, S_break, S_cont, S_for, kF_, S_forNil, kFb_nx, kFb_ct, kFb_bk, kFb_rt, S_items, kItems_tup, kItems_lst, kItems_own, S_lc, kLc_, S_lcNil, S_yes, kD_rt, kD_nx, Rv.ret, gt, st, kVar_dat, kVar_own, o_add, o_sub, o_eq, o_ne, o_lt, o_le, o_gt, o_ge, o_eqB, o_neB, o_is2, o_isnot2, o_abs, o_ix, o_ixO, o_ixB, o_ixL, o_tupO, o_isBool, map_some', wp, tgN_, List.length_cons, List.length_nil, Nat.reduceAdd, Nat.reduceLeDiff, true_and, decide_true, decide_false, Bool.not_true, Bool.not_false, o_mul_u, o_div_u, o_mod_u, o_pow_u, o_eqS, o_neS, o_intB, o_lenS, o_lenO, o_lenB, o_iaddI, S_s1, kS1_, kS1b_, S_lm, kLm_bor, kLm_own, kLmb_, S_tab, o_ixT, o_ixS, S_put, kPut_, kPutK_, S_zip2, kZip_, kZipb_tup, o_sum, o_sumB, o_tupB, o_tupL, o_lenT, S_range1, kRng_3, S_tgtL, kTgtL_, List.nil_append, List.cons_append, Nat.reduceLT, SZ, forall_const, true_implies, S_callD, kCallD_, is_tt, is_ti, is_ts, is_ii, is_ss, is_bi, kLcT_true]
        refine ⟨pk, ?_⟩
        refine S_draw (h6.le (show 126 + 1 ≤ _ by omega)) dl dh fun w s7 w0 w1 h7 => ?_
        simp only [S_var, S_C, S_op1, k1_, S_op2, k2_, k2b_, S_nil, S_cons, kc_, kcb_, S_opN, kN_, S_tup, S_lst, kT_u, kL_u, stoL_nil, stoL_dat, stoL_own, consO_some, SatO_some, S_call, kCall_u, S_if, S_ifS, kI_true, kI_false, S_andV, S_orV, kAndV_true, kAndV_false, kOrV_true, kOrV_false, S_test, kTest_, S_tru, kTru_, S_and, S_or, S_not, kAnd_true, kAnd_false, kOr_true, kOr_false, kNot_, S_seq, kS_nx, kS_rt, kS_bk, kS_ct, S_pass, S_set, kSet_dat, kSet_own, S_par, kP_, kPb_, S_ret', kR_, S_retN, S_break, S_cont, S_for, kF_, S_forNil, kFb_nx, kFb_ct, kFb_bk, kFb_rt, S_items, kItems_tup, kItems_lst, kItems_own, S_lc, kLc_, S_lcNil, S_yes, kD_rt, kD_nx, Rv.ret, gt, st, kVar_dat, kVar_own, o_add, o_sub, o_eq, o_ne, o_lt, o_le, o_gt, o_ge, o_eqB, o_neB, o_is2, o_isnot2, o_abs, o_ix, o_ixO, o_ixB, o_ixL, o_tupO, o_isBool, map_some', wp, tgN_, List.length_cons, List.length_nil, Nat.reduceAdd, Nat.reduceLeDiff, true_and, decide_true, decide_false, Bool.not_true, Bool.not_false, o_mul_u, o_div_u, o_mod_u, o_pow_u, o_eqS, o_neS, o_intB, o_lenS, o_lenO, o_lenB, o_iaddI, S_s1, kS1_, kS1b_, S_lm, kLm_bor, kLm_own, kLmb_, S_tab, o_ixT, o_ixS, S_put, kPut_, kPutK_, S_zip2, kZip_, kZipb_tup, o_sum, o_sumB, o_tupB, o_tupL, o_lenT, S_range1, kRng_3, S_tgtL, kTgtL_, List.nil_append, List.cons_append, Nat.reduceLT, SZ, forall_const, true_implies, S_callD, kCallD_, is_tt, is_ti, is_ts, is_ii, is_ss, is_bi, kLcA_dat]
        refine ⟨(1 + u, 1 + v, 1 + w), rfl, ⟨?_, ?_, ?_⟩, ⟨?_, ?_, ?_⟩, h7.le (by decide)⟩
        · show 0 ≤ 1 + u
          omega
        · show 0 ≤ 1 + v
          omega
        · show 0 ≤ 1 + w
          omega
        · show (1 + u).natAbs < 2 ^ 140
          omega
        · show (1 + v).natAbs < 2 ^ 140
          omega
        · show (1 + w).natAbs < 2 ^ 140
          omega
      · rw [S_pass]
        exact ⟨p, rfl, ⟨hp.1, hp.2.1, hp.2.2⟩, hl.up (by decide), h4.le (by decide)⟩
    obtain ⟨f4, s4, e4, p, rfl, hP, hL, h4⟩ := hstep.get
    rw [e4, Sat_ok, kS_nx]
    clear e4 hstep hl hp0 hp
    rw [S_seq, S_frz_dat rfl, kS_nx, S_seq, S_ifS, S_not, S_test, S_call]
    simp only [S_cons, S_call, S_var, gt, kVar_dat, kc_, S_nil, kcb_, kCall_u, stoL_dat, stoL_nil, consO_some, SatO_some]
    refine S_many hP hL (by decide) (by omega) (by omega) ?_
    simp only [S_cons, S_call, S_var, gt, kVar_dat, kc_, S_nil, kcb_, kCall_u, stoL_dat, stoL_nil, consO_some, SatO_some]
    have hdx : mDGetX (mCall l_waysF (mCons (mVar 3) (mCons (mVar 4) (mCons (mVar 5) mNil)))) (mTup (mCons (mC (.int 0)) (mCons (mC (.int 0)) (mCons (mC (.int 0)) mNil)))) [.un, .dat (.ref a), .dat (.int mm), .dat (.str x), .dat (.str y), .dat (vd p), .un, .un, .un, .un, .un, .un, .un] s4 = .ok (.dat (.int (CwP p x y 0 0 0 : Nat))) s4 := by
      obtain ⟨r, g, e, rfl, M, hM, rfl⟩ := (S_lways (g := s4) (xs := x) (ys := y) (Q := fun r g => g = s4 ∧ ∃ M : List EnD, (∀ q, plIn x y q → lkD M q = some (cwD p x y q)) ∧ r = .dat (.dct true (kM M) (vM M))) hP hL (by decide) (by omega) (by omega) fun M hM => ⟨rfl, M, hM, rfl⟩).get
      unfold mDGetX
      have ec : mCall l_waysF (mCons (mVar 3) (mCons (mVar 4) (mCons (mVar 5) mNil))) [.un, .dat (.ref a), .dat (.int mm), .dat (.str x), .dat (.str y), .dat (vd p), .un, .un, .un, .un, .un, .un, .un] g = .ok (.dat (.dct true (kM M) (vM M))) g := Sat.eq fun Q q => by
        simp only [S_call, S_cons, S_var, gt, kVar_dat, kc_, S_nil, kcb_, kCall_u, stoL_dat, stoL_nil, consO_some, SatO_some]
        rw [e, Sat_ok]
        exact q
      rw [ec, Rs.bind_ok]
      dsimp only [dctRv]
      show ofO ((dGet (kM M) (vM M) (kqD (0, 0, 0))).map Rv.dat) g = _
      rw [dGet_lk, hM (0, 0, 0) ⟨Nat.zero_le _, Nat.zero_le _, Nat.zero_le _⟩]
      rfl
    rw [hdx, Sat_ok]
    simp only [kc_, S_nil, kcb_, kCall_u, stoL_dat, stoL_nil, consO_some, SatO_some]
    refine S_same (n := 9) rfl ?_
    simp only [kTest_, kNot_, Bool.not_true, kI_false, S_pass, kS_nx]
    clear hdx
    -- two letters unlike
    rw [S_seq, S_frz_dat rfl, kS_nx, S_seq, S_set]
    simp only [S_var, S_C, S_op1, k1_, S_op2, k2_, k2b_, S_nil, S_cons, kc_, kcb_, S_opN, kN_, S_tup, S_lst, kT_u, kL_u, stoL_nil, stoL_dat, stoL_own, consO_some, SatO_some, S_call, kCall_u, S_if, S_ifS, kI_true, kI_false, S_andV, S_orV, kAndV_true, kAndV_false, kOrV_true, kOrV_false, S_test, kTest_, S_tru, kTru_, S_and, S_or, S_not, kAnd_true, kAnd_false, kOr_true, kOr_false, kNot_, S_seq, kS_nx, kS_rt, kS_bk, kS_ct, S_pass, S_set, kSet_dat, kSet_own, S_par, kP_, kPb_, S_ret', kR_, S_retN, S_break, S_cont, S_for, kF_, S_forNil, kFb_nx, kFb_ct, kFb_bk, kFb_rt, S_items, kItems_tup, kItems_lst, kItems_own, S_lc, kLc_, S_lcNil, S_yes, kD_rt, kD_nx, Rv.ret, gt, st, kVar_dat, kVar_own, o_add, o_sub, o_eq, o_ne, o_lt, o_le, o_gt, o_ge, o_eqB, o_neB, o_is2, o_isnot2, o_abs, o_ix, o_ixO, o_ixB, o_ixL, o_tupO, o_isBool, map_some', wp, tgN_, List.length_cons, List.length_nil, Nat.reduceAdd, Nat.reduceLeDiff, true_and, decide_true, decide_false, Bool.not_true, Bool.not_false, o_mul_u, o_div_u, o_mod_u, o_pow_u, o_eqS, o_neS, o_intB, o_lenS, o_lenO, o_lenB, o_iaddI, S_s1, kS1_, kS1b_, S_lm, kLm_bor, kLm_own, kLmb_, S_tab, o_ixT, o_ixS, S_put, kPut_, kPutK_, S_zip2, kZip_, kZipb_tup, o_sum, o_sumB, o_tupB, o_tupL, o_lenT, S_range1, kRng_3, S_tgtL, kTgtL_, List.nil_append, List.cons_append, Nat.reduceLT, SZ, forall_const, true_implies, S_callD, kCallD_, is_tt, is_ti, is_ts, is_ii, is_ss, is_bi]
    refine S_unlike (b := 100) (h4.le (by decide)) fun c d s5 hcd h5 => ?_
    simp only [S_var, S_C, S_op1, k1_, S_op2, k2_, k2b_, S_nil, S_cons, kc_, kcb_, S_opN, kN_, S_tup, S_lst, kT_u, kL_u, stoL_nil, stoL_dat, stoL_own, consO_some, SatO_some, S_call, kCall_u, S_if, S_ifS, kI_true, kI_false, S_andV, S_orV, kAndV_true, kAndV_false, kOrV_true, kOrV_false, S_test, kTest_, S_tru, kTru_, S_and, S_or, S_not, kAnd_true, kAnd_false, kOr_true, kOr_false, kNot_, S_seq, kS_nx, kS_rt, kS_bk, kS_ct, S_pass, S_set, kSet_dat, kSet_own, S_par, kP_, kPb_, S_ret', kR_, S_retN, S_break, S_cont, S_for, kF_, S_forNil, kFb_nx, kFb_ct, kFb_bk, kFb_rt, S_items, kItems_tup, kItems_lst, kItems_own, S_lc, kLc_, S_lcNil, S_yes, kD_rt, kD_nx, Rv.ret, gt, st, kVar_dat, kVar_own, o_add, o_sub, o_eq, o_ne, o_lt, o_le, o_gt, o_ge, o_eqB, o_neB, o_is2, o_isnot2, o_abs, o_ix, o_ixO, o_ixB, o_ixL, o_tupO, o_isBool, map_some', wp, tgN_, List.length_cons, List.length_nil, Nat.reduceAdd, Nat.reduceLeDiff, true_and, decide_true, decide_false, Bool.not_true, Bool.not_false, o_mul_u, o_div_u, o_mod_u, o_pow_u, o_eqS, o_neS, o_intB, o_lenS, o_lenO, o_lenB, o_iaddI, S_s1, kS1_, kS1b_, S_lm, kLm_bor, kLm_own, kLmb_, S_tab, o_ixT, o_ixS, S_put, kPut_, kPutK_, S_zip2, kZip_, kZipb_tup, o_sum, o_sumB, o_tupB, o_tupL, o_lenT, S_range1, kRng_3, S_tgtL, kTgtL_, List.nil_append, List.cons_append, Nat.reduceLT, SZ, forall_const, true_implies, S_callD, kCallD_, is_tt, is_ti, is_ts, is_ii, is_ss, is_bi]
    rw [S_frz_dat rfl]
    simp only [S_var, S_C, S_op1, k1_, S_op2, k2_, k2b_, S_nil, S_cons, kc_, kcb_, S_opN, kN_, S_tup, S_lst, kT_u, kL_u, stoL_nil, stoL_dat, stoL_own, consO_some, SatO_some, S_call, kCall_u, S_if, S_ifS, kI_true, kI_false, S_andV, S_orV, kAndV_true, kAndV_false, kOrV_true, kOrV_false, S_test, kTest_, S_tru, kTru_, S_and, S_or, S_not, kAnd_true, kAnd_false, kOr_true, kOr_false, kNot_, S_seq, kS_nx, kS_rt, kS_bk, kS_ct, S_pass, S_set, kSet_dat, kSet_own, S_par, kP_, kPb_, S_ret', kR_, S_retN, S_break, S_cont, S_for, kF_, S_forNil, kFb_nx, kFb_ct, kFb_bk, kFb_rt, S_items, kItems_tup, kItems_lst, kItems_own, S_lc, kLc_, S_lcNil, S_yes, kD_rt, kD_nx, Rv.ret, gt, st, kVar_dat, kVar_own, o_add, o_sub, o_eq, o_ne, o_lt, o_le, o_gt, o_ge, o_eqB, o_neB, o_is2, o_isnot2, o_abs, o_ix, o_ixO, o_ixB, o_ixL, o_tupO, o_isBool, map_some', wp, tgN_, List.length_cons, List.length_nil, Nat.reduceAdd, Nat.reduceLeDiff, true_and, decide_true, decide_false, Bool.not_true, Bool.not_false, o_mul_u, o_div_u, o_mod_u, o_pow_u, o_eqS, o_neS, o_intB, o_lenS, o_lenO, o_lenB, o_iaddI, S_s1, kS1_, kS1b_, S_lm, kLm_bor, kLm_own, kLmb_, S_tab, o_ixT, o_ixS, S_put, kPut_, kPutK_, S_zip2, kZip_, kZipb_tup, o_sum, o_sumB, o_tupB, o_tupL, o_lenT, S_range1, kRng_3, S_tgtL, kTgtL_, List.nil_append, List.cons_append, Nat.reduceLT, SZ, forall_const, true_implies, S_callD, kCallD_, is_tt, is_ti, is_ts, is_ii, is_ss, is_bi]
    refine S_draw (b := 99) (h5.le (by decide)) (by decide) (by decide) fun n s6 n0 n1 h6 => ?_
    simp only [S_var, S_C, S_op1, k1_, S_op2, k2_, k2b_, S_nil, S_cons, kc_, kcb_, S_opN, kN_, S_tup, S_lst, kT_u, kL_u, stoL_nil, stoL_dat, stoL_own, consO_some, SatO_some, S_call, kCall_u, S_if, S_ifS, kI_true, kI_false, S_andV, S_orV, kAndV_true, kAndV_false, kOrV_true, kOrV_false, S_test, kTest_, S_tru, kTru_, S_and, S_or, S_not, kAnd_true, kAnd_false, kOr_true, kOr_false, kNot_, S_seq, kS_nx, kS_rt, kS_bk, kS_ct, S_pass, S_set, kSet_dat, kSet_own, S_par, kP_, kPb_, S_ret', kR_, S_retN, S_break, S_cont, S_for, kF_, S_forNil, kFb_nx, kFb_ct, kFb_bk, kFb_rt, S_items, kItems_tup, kItems_lst, kItems_own, S_lc, kLc_, S_lcNil, S_yes, kD_rt, kD_nx, Rv.ret, gt, st, kVar_dat, kVar_own, o_add, o_sub, o_eq, o_ne, o_lt, o_le, o_gt, o_ge, o_eqB, o_neB, o_is2, o_isnot2, o_abs, o_ix, o_ixO, o_ixB, o_ixL, o_tupO, o_isBool, map_some', wp, tgN_, List.length_cons, List.length_nil, Nat.reduceAdd, Nat.reduceLeDiff, true_and, decide_true, decide_false, Bool.not_true, Bool.not_false, o_mul_u, o_div_u, o_mod_u, o_pow_u, o_eqS, o_neS, o_intB, o_lenS, o_lenO, o_lenB, o_iaddI, S_s1, kS1_, kS1b_, S_lm, kLm_bor, kLm_own, kLmb_, S_tab, o_ixT, o_ixS, S_put, kPut_, kPutK_, S_zip2, kZip_, kZipb_tup, o_sum, o_sumB, o_tupB, o_tupL, o_lenT, S_range1, kRng_3, S_tgtL, kTgtL_, List.nil_append, List.cons_append, Nat.reduceLT, SZ, forall_const, true_implies, S_callD, kCallD_, is_tt, is_ti, is_ts, is_ii, is_ss, is_bi]
    rw [S_frz_dat rfl]
    simp only [S_var, S_C, S_op1, k1_, S_op2, k2_, k2b_, S_nil, S_cons, kc_, kcb_, S_opN, kN_, S_tup, S_lst, kT_u, kL_u, stoL_nil, stoL_dat, stoL_own, consO_some, SatO_some, S_call, kCall_u, S_if, S_ifS, kI_true, kI_false, S_andV, S_orV, kAndV_true, kAndV_false, kOrV_true, kOrV_false, S_test, kTest_, S_tru, kTru_, S_and, S_or, S_not, kAnd_true, kAnd_false, kOr_true, kOr_false, kNot_, S_seq, kS_nx, kS_rt, kS_bk, kS_ct, S_pass, S_set, kSet_dat, kSet_own, S_par, kP_, kPb_, S_ret', kR_, S_retN, S_break, S_cont, S_for, kF_, S_forNil, kFb_nx, kFb_ct, kFb_bk, kFb_rt, S_items, kItems_tup, kItems_lst, kItems_own, S_lc, kLc_, S_lcNil, S_yes, kD_rt, kD_nx, Rv.ret, gt, st, kVar_dat, kVar_own, o_add, o_sub, o_eq, o_ne, o_lt, o_le, o_gt, o_ge, o_eqB, o_neB, o_is2, o_isnot2, o_abs, o_ix, o_ixO, o_ixB, o_ixL, o_tupO, o_isBool, map_some', wp, tgN_, List.length_cons, List.length_nil, Nat.reduceAdd, Nat.reduceLeDiff, true_and, decide_true, decide_false, Bool.not_true, Bool.not_false, o_mul_u, o_div_u, o_mod_u, o_pow_u, o_eqS, o_neS, o_intB, o_lenS, o_lenO, o_lenB, o_iaddI, S_s1, kS1_, kS1b_, S_lm, kLm_bor, kLm_own, kLmb_, S_tab, o_ixT, o_ixS, S_put, kPut_, kPutK_, S_zip2, kZip_, kZipb_tup, o_sum, o_sumB, o_tupB, o_tupL, o_lenT, S_range1, kRng_3, S_tgtL, kTgtL_, List.nil_append, List.cons_append, Nat.reduceLT, SZ, forall_const, true_implies, S_callD, kCallD_, is_tt, is_ti, is_ts, is_ii, is_ss, is_bi]
    refine S_draw (b := 98) (h6.le (by decide)) (by decide) (by decide) fun m s7 m0' m1' h7 => ?_
    simp only [S_var, S_C, S_op1, k1_, S_op2, k2_, k2b_, S_nil, S_cons, kc_, kcb_, S_opN, kN_, S_tup, S_lst, kT_u, kL_u, stoL_nil, stoL_dat, stoL_own, consO_some, SatO_some, S_call, kCall_u, S_if, S_ifS, kI_true, kI_false, S_andV, S_orV, kAndV_true, kAndV_false, kOrV_true, kOrV_false, S_test, kTest_, S_tru, kTru_, S_and, S_or, S_not, kAnd_true, kAnd_false, kOr_true, kOr_false, kNot_, S_seq, kS_nx, kS_rt, kS_bk, kS_ct, S_pass, S_set, kSet_dat, kSet_own, S_par, kP_, kPb_, S_ret', kR_, S_retN, S_break, S_cont, S_for, kF_, S_forNil, kFb_nx, kFb_ct, kFb_bk, kFb_rt, S_items, kItems_tup, kItems_lst, kItems_own, S_lc, kLc_, S_lcNil, S_yes, kD_rt, kD_nx, Rv.ret, gt, st, kVar_dat, kVar_own, o_add, o_sub, o_eq, o_ne, o_lt, o_le, o_gt, o_ge, o_eqB, o_neB, o_is2, o_isnot2, o_abs, o_ix, o_ixO, o_ixB, o_ixL, o_tupO, o_isBool, map_some', wp, tgN_, List.length_cons, List.length_nil, Nat.reduceAdd, Nat.reduceLeDiff, true_and, decide_true, decide_false, Bool.not_true, Bool.not_false, o_mul_u, o_div_u, o_mod_u, o_pow_u, o_eqS, o_neS, o_intB, o_lenS, o_lenO, o_lenB, o_iaddI, S_s1, kS1_, kS1b_, S_lm, kLm_bor, kLm_own, kLmb_, S_tab, o_ixT, o_ixS, S_put, kPut_, kPutK_, S_zip2, kZip_, kZipb_tup, o_sum, o_sumB, o_tupB, o_tupL, o_lenT, S_range1, kRng_3, S_tgtL, kTgtL_, List.nil_append, List.cons_append, Nat.reduceLT, SZ, forall_const, true_implies, S_callD, kCallD_, is_tt, is_ti, is_ts, is_ii, is_ss, is_bi]
    rw [S_frz_dat rfl]
    simp only [S_var, S_C, S_op1, k1_, S_op2, k2_, k2b_, S_nil, S_cons, kc_, kcb_, S_opN, kN_, S_tup, S_lst, kT_u, kL_u, stoL_nil, stoL_dat, stoL_own, consO_some, SatO_some, S_call, kCall_u, S_if, S_ifS, kI_true, kI_false, S_andV, S_orV, kAndV_true, kAndV_false, kOrV_true, kOrV_false, S_test, kTest_, S_tru, kTru_, S_and, S_or, S_not, kAnd_true, kAnd_false, kOr_true, kOr_false, kNot_, S_seq, kS_nx, kS_rt, kS_bk, kS_ct, S_pass, S_set, kSet_dat, kSet_own, S_par, kP_, kPb_, S_ret', kR_, S_retN, S_break, S_cont, S_for, kF_, S_forNil, kFb_nx, kFb_ct, kFb_bk, kFb_rt, S_items, kItems_tup, kItems_lst, kItems_own, S_lc, kLc_, S_lcNil, S_yes, kD_rt, kD_nx, Rv.ret, gt, st, kVar_dat, kVar_own, o_add, o_sub, o_eq, o_ne, o_lt, o_le, o_gt, o_ge, o_eqB, o_neB, o_is2, o_isnot2, o_abs, o_ix, o_ixO, o_ixB, o_ixL, o_tupO, o_isBool, map_some', wp, tgN_, List.length_cons, List.length_nil, Nat.reduceAdd, Nat.reduceLeDiff, true_and, decide_true, decide_false, Bool.not_true, Bool.not_false, o_mul_u, o_div_u, o_mod_u, o_pow_u, o_eqS, o_neS, o_intB, o_lenS, o_lenO, o_lenB, o_iaddI, S_s1, kS1_, kS1b_, S_lm, kLm_bor, kLm_own, kLmb_, S_tab, o_ixT, o_ixS, S_put, kPut_, kPutK_, S_zip2, kZip_, kZipb_tup, o_sum, o_sumB, o_tupB, o_tupL, o_lenT, S_range1, kRng_3, S_tgtL, kTgtL_, List.nil_append, List.cons_append, Nat.reduceLT, SZ, forall_const, true_implies, S_callD, kCallD_, is_tt, is_ti, is_ts, is_ii, is_ss, is_bi]
    refine ⟨by decide, ?_⟩
    refine S_draw (b := 97) (h7.le (by decide)) (by decide) (by decide) fun w s8 w0 w1 h8 => ?_
    obtain ⟨n, rfl⟩ : ∃ k : Nat, n = k := ⟨n.toNat, by omega⟩
    obtain ⟨m, rfl⟩ : ∃ k : Nat, m = k := ⟨m.toNat, by omega⟩
    have hn : n ≤ 12 := by omega
    have hm : m ≤ 12 := by omega
    have hw0 : 0 < 1 + w := by omega
    have hw1 : (1 + w).natAbs < 2 ^ 140 := by
      have : (10 : Int) ^ (20 : Int).toNat < 2 ^ 139 := by decide
      omega
    simp only [k2b_, o_add, SatO_some, kSet_dat, kS_nx, st]
    generalize 1 + w = w at hw0 hw1 ⊢
    have i0 : oIx (.dat (.str [c, d])) (.dat (.int 0)) = some (.dat (.str [c])) := rfl
    have i1 : oIx (.dat (.str [c, d])) (.dat (.int 1)) = some (.dat (.str [d])) := rfl
    rw [S_seq, S_par]
    simp only [S_op2, S_var, S_C, gt, kVar_dat, k2_, k2b_, i0, i1, SatO_some, o_repC hn, o_repC hm, kP_, kPb_]
    rw [kS_nx, S_seq]
    simp only [st]
    rw [S_frz_dat rfl, kS_nx, S_seq, S_ifS, S_not, S_test, S_call]
    simp only [S_cons, S_call, S_tup, S_C, S_var, gt, kVar_dat, kc_, S_nil, kcb_, kT_u, stoL_dat, stoL_nil, consO_some, SatO_some, List.length_cons, List.length_nil, Nat.reduceAdd, SZ, Nat.reduceLeDiff, true_and, kCall_u]
    have hwz : (w : Int).natAbs < 2 ^ 140 := hw1
    have z140 : (0 : Int).natAbs < 2 ^ 140 := by decide
    refine S_many (p := (w, 0, 0)) (b := 140) ⟨Int.le_of_lt hw0, Int.le_refl _, Int.le_refl _⟩ ⟨hwz, z140, z140⟩ (by decide) (by rw [List.length_replicate]; omega) (by rw [List.length_replicate]; omega) ?_
    rw [CwP_Cn, Cn_oth hw0 hcd]
    simp only [S_cons, S_call, S_op2, S_var, gt, kVar_dat, k2_, k2b_, o_add, SatO_some, kc_, S_nil, kcb_, kCall_u, stoL_dat, stoL_nil, consO_some]
    refine S_chosen (n := n + m) (k := n) (by omega) (by omega) ?_
    simp only [kc_, S_nil, kcb_, kCall_u, stoL_dat, stoL_nil, consO_some, SatO_some]
    refine S_same (n := 9) rfl ?_
    simp only [kTest_, kNot_, Bool.not_true, kI_false, S_pass, kS_nx]
    rw [S_ret', S_call]
    simp only [S_cons, S_call, S_tup, S_C, S_var, gt, kVar_dat, kc_, S_nil, kcb_, kT_u, stoL_dat, stoL_nil, consO_some, SatO_some, List.length_cons, List.length_nil, Nat.reduceAdd, SZ, Nat.reduceLeDiff, true_and, kCall_u]
    refine S_many (p := (0, w, 0)) (b := 140) ⟨Int.le_refl _, Int.le_of_lt hw0, Int.le_refl _⟩ ⟨z140, hwz, z140⟩ (by decide) (by rw [List.length_replicate]; omega) (by rw [List.length_replicate]; omega) ?_
    rw [CwP_Cn, Cn_let hw0]
    have omx : oMax2 [.dat (.int (n : Nat)), .dat (.int (m : Nat))] = some (.dat (.int ((if n < m then m else n : Nat) : Int))) := by
      show some (Rv.dat (.int (if ((m : Nat) : Int) > (n : Nat) then ((m : Nat) : Int) else (n : Nat)))) = _
      by_cases z : n < m
      · rw [if_pos (by omega), if_pos z]
      · rw [if_neg (by omega), if_neg z]
    have omn : oMin2 [.dat (.int (n : Nat)), .dat (.int (m : Nat))] = some (.dat (.int ((if n < m then n else m : Nat) : Int))) := by
      show some (Rv.dat (.int (if ((m : Nat) : Int) < (n : Nat) then ((m : Nat) : Int) else (n : Nat)))) = _
      by_cases z : n < m
      · rw [if_neg (by omega), if_pos z]
      · by_cases y : m < n
        · rw [if_pos (by omega), if_neg z]
        · obtain rfl : n = m := by omega
          rw [if_neg (by omega), if_neg z]
    simp only [S_cons, S_call, S_opN, S_var, gt, kVar_dat, kc_, S_nil, kcb_, kN_, omx, omn, SatO_some, kCall_u, stoL_dat, stoL_nil, consO_some]
    refine S_chosen (n := if n < m then m else n) (k := if n < m then n else m) (by split <;> omega) (by split <;> omega) ?_
    have ech : cho (if n < m then m else n) (if n < m then n else m) = chM n m := by
      unfold chM
      split <;> rfl
    rw [ech]
    simp only [kc_, S_nil, kcb_, kCall_u, stoL_dat, stoL_nil, consO_some, SatO_some]
    refine S_same (n := 9) rfl ?_
    simp only [kR_]
  obtain ⟨f, g, h, rfl⟩ := fin.get
  exact ⟨g, h⟩
end G_k65
set_option Elab.async false
set_option linter.all false
set_option maxRecDepth 100000
set_option maxHeartbeats 0
namespace G_k65
open PySem PySem.Spec PyProof.Rows L2 PB
instance : Kts := ⟨True⟩
def topS (i : Nat) : Stmt := PySem.Challenge.pw_pricebend_k65_how_many.main.body.getD i (.Pass ⟨0, 0, 0, 0⟩)
abbrev s__law_start : Stmt := topS 9
abbrev s__law_mix : Stmt := topS 11
abbrev s__law_draw : Stmt := topS 10
abbrev s__law_letters : Stmt := topS 15
abbrev s__law_word : Stmt := topS 14
abbrev s__law_near : Stmt := topS 16
abbrev s__law_two_words : Stmt := topS 17
abbrev s__law_price : Stmt := topS 18
abbrev s__law_whole : Stmt := topS 12
abbrev s__law_same : Stmt := topS 13
abbrev s_triple_of : Stmt := topS 2
abbrev s_rests_of : Stmt := topS 3
abbrev s_Ways_tight : Stmt := (C8.clsBody (topS 6)).getD 2 (.Pass ⟨0, 0, 0, 0⟩)
abbrev s_Ways_is_end : Stmt := (C8.clsBody (topS 6)).getD 1 (.Pass ⟨0, 0, 0, 0⟩)
abbrev s_Ways_lead_on : Stmt := (C8.clsBody (topS 6)).getD 3 (.Pass ⟨0, 0, 0, 0⟩)
abbrev s_Ways___init__ : Stmt := (C8.clsBody (topS 6)).getD 0 (.Pass ⟨0, 0, 0, 0⟩)
abbrev s_how_many : Stmt := topS 7
abbrev s__law_rests : Stmt := topS 19
abbrev s__law_go_on : Stmt := topS 20
abbrev s__law_ways : Stmt := topS 21
abbrev s__law_unlike : Stmt := topS 23
abbrev s__law_chosen : Stmt := topS 22
abbrev s_law : Stmt := topS 24
theorem sc__law_start : FnScope ["_law_script", "_law_great", "_law_cell"] ["_law_script"] (defScope s__law_start) := ⟨rfl, rfl, rfl, by decide +kernel, rfl, by decide +kernel, by decide +kernel⟩
theorem sc__law_mix : FnScope ["_law_state", "_law_count", "_law_cell", "_law_one"] ["_law_state"] (defScope s__law_mix) := ⟨rfl, rfl, rfl, by decide +kernel, rfl, by decide +kernel, by decide +kernel⟩
theorem sc__law_draw : FnScope ["_law_state", "_law_many", "_law_told", "_law_size"] ["_law_state", "_law_many"] (defScope s__law_draw) := ⟨rfl, rfl, rfl, by decide +kernel, rfl, by decide +kernel, by decide +kernel⟩
theorem sc__law_letters : FnScope ["_law_state", "_law_whole_here", "_law_way", "_law_first", "_law_other"] ["_law_state"] (defScope s__law_letters) := ⟨rfl, rfl, rfl, by decide +kernel, rfl, by decide +kernel, by decide +kernel⟩
theorem sc__law_word : FnScope ["_law_state", "_law_most", "_law_letters_here", "_law_k"] ["_law_state", "_law_most", "_law_letters_here"] (defScope s__law_word) := ⟨rfl, rfl, rfl, by decide +kernel, rfl, by decide +kernel, by decide +kernel⟩
theorem sc__law_near : FnScope ["_law_state", "_law_word_here", "_law_most", "_law_letters_here", "_law_found", "_law_k", "_law_way", "_law_at", "_law_letter"] ["_law_state", "_law_word_here", "_law_most", "_law_letters_here"] (defScope s__law_near) := ⟨rfl, rfl, rfl, by decide +kernel, rfl, by decide +kernel, by decide +kernel⟩
theorem sc__law_two_words : FnScope ["_law_state", "_law_most", "_law_letters_here", "_law_way", "_law_one", "_law_other"] ["_law_state", "_law_most"] (defScope s__law_two_words) := ⟨rfl, rfl, rfl, by decide +kernel, rfl, by decide +kernel, by decide +kernel⟩
theorem sc__law_price : FnScope ["_law_state", "_law_size", "_law_found", "_law_k"] ["_law_state"] (defScope s__law_price) := ⟨rfl, rfl, rfl, by decide +kernel, rfl, by decide +kernel, by decide +kernel⟩
theorem sc__law_whole : FnScope ["_law_thing"] ["_law_thing"] (defScope s__law_whole) := ⟨rfl, rfl, rfl, by decide +kernel, rfl, by decide +kernel, by decide +kernel⟩
theorem sc__law_same : FnScope ["_law_found", "_law_due", "_law_one", "_law_other"] ["_law_found", "_law_due"] (defScope s__law_same) := ⟨rfl, rfl, rfl, by decide +kernel, rfl, by decide +kernel, by decide +kernel⟩
theorem sc_triple_of : FnScope ["kept", "out", "put", "stretch"] ["kept", "out", "put", "stretch"] (defScope s_triple_of) := ⟨rfl, rfl, rfl, by decide +kernel, rfl, by decide +kernel, by decide +kernel⟩
theorem sc_rests_of : FnScope ["one", "other", "price", "o", "s", "t", "far", "found", "i", "j", "kept", "mark"] ["one", "other", "price"] (defScope s_rests_of) := ⟨rfl, rfl, rfl, by decide +kernel, rfl, by decide +kernel, by decide +kernel⟩
theorem sc_Ways_tight : FnScope ["self", "place", "i", "j", "last", "one", "other", "o", "s", "t", "left", "found"] ["self", "place"] (defScope s_Ways_tight) := ⟨rfl, rfl, rfl, by decide +kernel, rfl, by decide +kernel, by decide +kernel⟩
theorem sc_Ways_is_end : FnScope ["self", "place"] ["self", "place"] (defScope s_Ways_is_end) := ⟨rfl, rfl, rfl, by decide +kernel, rfl, by decide +kernel, by decide +kernel⟩
theorem sc_Ways_lead_on : FnScope ["self", "place", "move", "there"] ["self", "place"] (defScope s_Ways_lead_on) := ⟨rfl, rfl, rfl, by decide +kernel, rfl, by decide +kernel, by decide +kernel⟩
theorem sc_Ways___init__ : FnScope ["self", "one", "other", "price", "i", "j", "last"] ["self", "one", "other", "price"] (defScope s_Ways___init__) := ⟨rfl, rfl, rfl, by decide +kernel, rfl, by decide +kernel, by decide +kernel⟩
theorem sc_how_many : FnScope ["one", "other", "price"] ["one", "other", "price"] (defScope s_how_many) := ⟨rfl, rfl, rfl, by decide +kernel, rfl, by decide +kernel, by decide +kernel⟩
theorem sc__law_rests : FnScope ["_law_one", "_law_other", "_law_price_here", "_law_o", "_law_s", "_law_t", "_law_far", "_law_rows", "_law_below", "_law_i", "_law_row", "_law_j", "_law_kept", "_law_gone", "_law_put", "_law_more", "_law_letter"] ["_law_one", "_law_other", "_law_price_here"] (defScope s__law_rests) := ⟨rfl, rfl, rfl, by decide +kernel, rfl, by decide +kernel, by decide +kernel⟩
theorem sc__law_go_on : FnScope ["_law_one", "_law_other", "_law_price_here", "_law_rests_here", "_law_place", "_law_o", "_law_s", "_law_t", "_law_i", "_law_j", "_law_last", "_law_left", "_law_found", "_law_more"] ["_law_one", "_law_other", "_law_price_here", "_law_rests_here", "_law_place"] (defScope s__law_go_on) := ⟨rfl, rfl, rfl, by decide +kernel, rfl, by decide +kernel, by decide +kernel⟩
theorem sc__law_ways : FnScope ["_law_one", "_law_other", "_law_price_here", "_law_rests_here", "_law_ways_here", "_law_i", "_law_j", "_law_last", "_law_steps", "_law_move", "_law_there"] ["_law_one", "_law_other", "_law_price_here"] (defScope s__law_ways) := ⟨rfl, rfl, rfl, by decide +kernel, rfl, by decide +kernel, by decide +kernel⟩
theorem sc__law_unlike : FnScope ["_law_state", "_law_many", "_law_rest", "_law_k"] ["_law_state", "_law_many"] (defScope s__law_unlike) := ⟨rfl, rfl, rfl, by decide +kernel, rfl, by decide +kernel, by decide +kernel⟩
theorem sc__law_chosen : FnScope ["_law_n", "_law_k", "_law_found", "_law_at"] ["_law_n", "_law_k"] (defScope s__law_chosen) := ⟨rfl, rfl, rfl, by decide +kernel, rfl, by decide +kernel, by decide +kernel⟩
theorem sc_law : FnScope ["_law_script", "_law_state", "_law_most", "_law_one", "_law_other", "_law_price_here", "_law_letters_here", "_law_n", "_law_m", "_law_dear", "_law_first", "_law_second", "_law_k"] ["_law_script"] (defScope s_law) := ⟨rfl, rfl, rfl, by decide +kernel, rfl, by decide +kernel, by decide +kernel⟩
structure Txt (K : Frag) (mg : Str → Option Value) (w : World) where
  th_Ways : ThC K mg "Ways" (He.ga K "Ways") ["words", "price", "rest", "steps", "many_on"] ["tight", "is_end", "lead_on"]
  a__law_start : Addr
  d__law_start : FuncData
  c__law_start : Cal K mg "_law_start" s__law_start ["_law_script"] a__law_start d__law_start
  a__law_mix : Addr
  d__law_mix : FuncData
  c__law_mix : Cal K mg "_law_mix" s__law_mix ["_law_state"] a__law_mix d__law_mix
  a__law_draw : Addr
  d__law_draw : FuncData
  c__law_draw : Cal K mg "_law_draw" s__law_draw ["_law_state", "_law_many"] a__law_draw d__law_draw
  a__law_letters : Addr
  d__law_letters : FuncData
  c__law_letters : Cal K mg "_law_letters" s__law_letters ["_law_state"] a__law_letters d__law_letters
  a__law_word : Addr
  d__law_word : FuncData
  c__law_word : Cal K mg "_law_word" s__law_word ["_law_state", "_law_most", "_law_letters_here"] a__law_word d__law_word
  a__law_near : Addr
  d__law_near : FuncData
  c__law_near : Cal K mg "_law_near" s__law_near ["_law_state", "_law_word_here", "_law_most", "_law_letters_here"] a__law_near d__law_near
  a__law_two_words : Addr
  d__law_two_words : FuncData
  c__law_two_words : Cal K mg "_law_two_words" s__law_two_words ["_law_state", "_law_most"] a__law_two_words d__law_two_words
  a__law_price : Addr
  d__law_price : FuncData
  c__law_price : Cal K mg "_law_price" s__law_price ["_law_state"] a__law_price d__law_price
  a__law_whole : Addr
  d__law_whole : FuncData
  c__law_whole : Cal K mg "_law_whole" s__law_whole ["_law_thing"] a__law_whole d__law_whole
  a__law_same : Addr
  d__law_same : FuncData
  c__law_same : Cal K mg "_law_same" s__law_same ["_law_found", "_law_due"] a__law_same d__law_same
  a_triple_of : Addr
  d_triple_of : FuncData
  c_triple_of : Cal K mg "triple_of" s_triple_of ["kept", "out", "put", "stretch"] a_triple_of d_triple_of
  a_rests_of : Addr
  d_rests_of : FuncData
  c_rests_of : Cal K mg "rests_of" s_rests_of ["one", "other", "price"] a_rests_of d_rests_of
  d_Ways_tight : FuncData
  c_Ways_tight : MCal K "tight" "Ways.tight" s_Ways_tight ["self", "place"] (He.ma K (He.ga K "Ways") "tight") d_Ways_tight
  d_Ways_is_end : FuncData
  c_Ways_is_end : MCal K "is_end" "Ways.is_end" s_Ways_is_end ["self", "place"] (He.ma K (He.ga K "Ways") "is_end") d_Ways_is_end
  d_Ways_lead_on : FuncData
  c_Ways_lead_on : MCal K "lead_on" "Ways.lead_on" s_Ways_lead_on ["self", "place"] (He.ma K (He.ga K "Ways") "lead_on") d_Ways_lead_on
  d_Ways___init__ : FuncData
  c_Ways___init__ : MCal K "__init__" "Ways.__init__" s_Ways___init__ ["self", "one", "other", "price"] (He.ma K (He.ga K "Ways") "__init__") d_Ways___init__
  a_how_many : Addr
  d_how_many : FuncData
  c_how_many : Cal K mg "how_many" s_how_many ["one", "other", "price"] a_how_many d_how_many
  a__law_rests : Addr
  d__law_rests : FuncData
  c__law_rests : Cal K mg "_law_rests" s__law_rests ["_law_one", "_law_other", "_law_price_here"] a__law_rests d__law_rests
  a__law_go_on : Addr
  d__law_go_on : FuncData
  c__law_go_on : Cal K mg "_law_go_on" s__law_go_on ["_law_one", "_law_other", "_law_price_here", "_law_rests_here", "_law_place"] a__law_go_on d__law_go_on
  a__law_ways : Addr
  d__law_ways : FuncData
  c__law_ways : Cal K mg "_law_ways" s__law_ways ["_law_one", "_law_other", "_law_price_here"] a__law_ways d__law_ways
  a__law_unlike : Addr
  d__law_unlike : FuncData
  c__law_unlike : Cal K mg "_law_unlike" s__law_unlike ["_law_state", "_law_many"] a__law_unlike d__law_unlike
  a__law_chosen : Addr
  d__law_chosen : FuncData
  c__law_chosen : Cal K mg "_law_chosen" s__law_chosen ["_law_n", "_law_k"] a__law_chosen d__law_chosen
  z_all : mg "all" = none
  z_bool : mg "bool" = none
  z_int : mg "int" = none
  z_isinstance : mg "isinstance" = none
  z_len : mg "len" = none
  z_list : mg "list" = none
  z_max : mg "max" = none
  z_min : mg "min" = none
  z_range : mg "range" = none
  z_str : mg "str" = none
  z_sum : mg "sum" = none
  z_tuple : mg "tuple" = none
  z_zip : mg "zip" = none
  k_BEGIN : ConAt K mg "BEGIN" (.tup [(.int 0), (.int 0), (.int 0)])
abbrev Txt.a_Ways_tight {K : Frag} {mg : Str → Option Value} {w : World} (T : Txt K mg w) : Addr := He.ma K (He.ga K "Ways") "tight"
abbrev Txt.a_Ways_is_end {K : Frag} {mg : Str → Option Value} {w : World} (T : Txt K mg w) : Addr := He.ma K (He.ga K "Ways") "is_end"
abbrev Txt.a_Ways_lead_on {K : Frag} {mg : Str → Option Value} {w : World} (T : Txt K mg w) : Addr := He.ma K (He.ga K "Ways") "lead_on"
abbrev Txt.a_Ways___init__ {K : Frag} {mg : Str → Option Value} {w : World} (T : Txt K mg w) : Addr := He.ma K (He.ga K "Ways") "__init__"
section
variable {P : Program} {w : World} {K : Frag} {mg : Str → Option Value} {base : Heap}
abbrev xa0 : Addr × Value × Option Addr := (0, .none, none)
theorem ok__law_start (T : Txt K mg w) : FnOk P w K mg base CX0 1 T.a__law_start T.d__law_start ["_law_script"] (spStart K) := by
  refine T.c__law_start.F.fun.ok sc__law_start (fun vs H Q E h => ?_) (fun cdv A outer s H vs Q E hr h => ?_)
  · obtain ⟨a, ns, rfl, _⟩ := h
    rfl
  · obtain ⟨a, ns, rfl, hS, hl, q⟩ := h
    refine ⟨_, pss_cons (ps_setLc (i := 1) (own := [("_law_cell", 2)]) (g := gName 2) rfl sc__law_start.nd rfl rfl (sw_true rfl rfl rfl (by decide +kernel)) (pi_list (pv 0)) (blkOk_by (own := [("_law_cell", 2)]) (by rfl)) (fun _ _ _ _ _ => pg_name (i := 2) sc__law_start.nd rfl (Or.inl rfl)) (fun _ _ _ _ _ => pts_one (pt_cmpR or_ge (pv 2) (pe_op op_pow pe_int pe_int) (nomark _))) (fun _ _ _ _ _ => pv 2))
      (pss_one (ps_ret (pe_lst (pa_cons (pv 1) (pa_cons pe_int (pa_cons (pe_lc (own := [("_law_cell", 2)]) (g := gName 2) (tt := tYes) rfl sc__law_start.nd (pi_list (pv 0)) (blkOk_by (own := [("_law_cell", 2)]) (by rfl)) (fun _ _ _ _ _ => pg_name (i := 2) sc__law_start.nd rfl (Or.inl rfl)) (fun _ _ _ _ _ => pts_nil) (fun _ _ _ _ _ => pe_op op_mod (pv 2) pe_int)) (pa_cons pe_int pa_nil))))))), ?_⟩
    refine ⟨_, rfl, a, rfl, ⟨_, hS⟩, fun g hg => lc_great (by exact (by decide : 2 < 3)) hg hS hl ?_⟩
    have hS2 : SqL K (upd H g (.lst ((ns.filter fun x => decide (10 ^ 18 ≤ x)).map V.int))) a (ns.map V.int) := Same.seq (upd_keep hg) hS
    refine ⟨_, rfl, _, rfl, a, rfl, ⟨_, hS2⟩, fun c hc => lc_cells (by exact (by decide : 2 < 3)) hc hS2 hl ?_⟩
    refine ⟨(by show 4 ≤ sizeLine; rw [sizeLine_eq]; decide), fun p hp => ?_⟩
    obtain ⟨k1, k2, k3, k4, k5, k6, k7⟩ := ls_made hg hc hp
    exact q (p, g, c) _ _ k1 k2 k3 k4 k5 k6 k7
theorem ok__law_mix (T : Txt K mg w) : FnOk P w K mg base CX0 1 T.a__law_mix T.d__law_mix ["_law_state"] (spOf K lsG 1 (F__law_mix)) :=
  fn_pb2 (Tx := exT K) (xa := xa0) (m__law_mix) 4 1 T.c__law_mix.F sc__law_mix rfl rfl (by decide) fun i cdv A outer s H E hr => (pb_scons (pb_incC 0 rfl)
    (pb_scons (pb_set (i := 1) sc__law_mix.nd rfl (by first | exact Or.inl rfl | exact Or.inr rfl) (pb_cnt 0 rfl))
    (pb_scons (pb_set (i := 2) sc__law_mix.nd rfl (by first | exact Or.inl rfl | exact Or.inr rfl) pb_int)
    (pb_scons (pb_sif (pb_hasC 0 rfl) (pb_sone (pb_set (i := 2) sc__law_mix.nd rfl (by first | exact Or.inl rfl | exact Or.inr rfl) (pb_atC 0 rfl (pb_op op_mod os_mod (pb_var 1) (pb_lenC 0 rfl (by rfl) T.z_len)) (fun _ _ => rfl)))) pb_snil)
    (pb_scons (pb_set (i := 3) sc__law_mix.nd rfl (by first | exact Or.inl rfl | exact Or.inr rfl) (pb_op op_mod os_mod (pb_op op_pow os_pow (pb_op (or_add rfl) os_add (pb_op (or_add rfl) os_add (pb_op (or_add rfl) os_add (pb_var 2) (pb_op op_mulW os_mul (pb_op op_mulW os_mul pb_int (pb_var 1)) (pb_var 1))) (pb_op op_mulW os_mul pb_int (pb_var 1))) pb_int) pb_int) pb_int))
    (pb_sone (pb_ret (pb_op op_mod os_mod (pb_op (or_add rfl) os_add (pb_op op_mulW os_mul (pb_var 3) pb_int) (pb_op op_mulW os_mul pb_int (pb_var 1))) pb_int))))))))
theorem ok__law_draw (T : Txt K mg w) : FnOk P w K mg base CX0 2 T.a__law_draw T.d__law_draw ["_law_state", "_law_many"] (spOf K lsG 2 (F__law_draw)) :=
  fn_pb2 (Tx := exT K) (xa := xa0) (m__law_draw) 4 2 T.c__law_draw.F sc__law_draw rfl rfl (by decide) fun i cdv A outer s H E hr => (pb_scons (pb_sif (PW.pt (pb_and (pb_tcmp (or_eq rfl hr.units) os_eq (pb_told 0 rfl) pb_int (nm_Eq _)) (pb_and1 (pb_hasG 0 rfl)))) (pb_sone (pb_popG 0 rfl)) pb_snil)
    (pb_scons (pb_sif (pb_tcmp or_gt os_gt (pb_told 0 rfl) pb_int (nm_Gt _)) (pb_scons (pb_set (i := 2) sc__law_draw.nd rfl (by first | exact Or.inl rfl | exact Or.inr rfl) (pb_op op_mod os_mod (pb_told 0 rfl) (pb_var 1)))
    (pb_scons (pb_setTold 0 rfl (pb_op op_fdivW os_div (pb_told 0 rfl) (pb_var 1)))
    (pb_sone (pb_ret (pb_var 2))))) pb_snil)
    (pb_scons (pb_set (i := 2) sc__law_draw.nd rfl (by first | exact Or.inl rfl | exact Or.inr rfl) pb_int)
    (pb_scons (pb_set (i := 3) sc__law_draw.nd rfl (by first | exact Or.inl rfl | exact Or.inr rfl) pb_int)
    (pb_scons (pb_while 100 PassesOwn.never (pb_tcmp or_lt os_lt (pb_var 3) (pb_var 1) (nm_Lt _)) (pb_scons (pb_set (i := 2) sc__law_draw.nd rfl (by first | exact Or.inl rfl | exact Or.inr rfl) (pb_op (or_add rfl) os_add (pb_op op_mulW os_mul (pb_var 2) pb_int) (pb_call (F := F__law_mix) (ok__law_mix T) (hr.mono (by decide)) (by rfl) T.c__law_mix.g T.c__law_mix.F.kp T.c__law_mix.b (pb_cons (pb_var 0) pb_nil) (len_cons len_nil))))
    (pb_sone (pb_set (i := 3) sc__law_draw.nd rfl (by first | exact Or.inl rfl | exact Or.inr rfl) (pb_op op_mulW os_mul (pb_var 3) pb_int)))))
    (pb_sone (pb_ret (pb_op op_mod os_mod (pb_var 2) (pb_var 1)))))))))
theorem ok__law_letters (T : Txt K mg w) : FnOk P w K mg base CX0 3 T.a__law_letters T.d__law_letters ["_law_state"] (spOf K lsG 1 (F__law_letters)) :=
  fn_pb2 (Tx := exT K) (xa := xa0) (m__law_letters) 5 1 T.c__law_letters.F sc__law_letters rfl rfl (by decide) fun i cdv A outer s H E hr => (pb_scons (pb_set (i := 1) sc__law_letters.nd rfl (by first | exact Or.inl rfl | exact Or.inr rfl) (pb_str [97, 98, 99, 100, 101, 102, 103, 104, 105, 106, 107, 108, 109, 110, 111, 112, 113, 114, 115, 116, 117, 118, 119, 120, 121, 122]))
    (pb_scons (pb_set (i := 2) sc__law_letters.nd rfl (by first | exact Or.inl rfl | exact Or.inr rfl) (pb_call (F := F__law_draw) (ok__law_draw T) (hr.mono (by decide)) (by rfl) T.c__law_draw.g T.c__law_draw.F.kp T.c__law_draw.b (pb_cons (pb_var 0) (pb_cons pb_int pb_nil)) (len_cons (len_cons len_nil))))
    (pb_scons (pb_set (i := 3) sc__law_letters.nd rfl (by first | exact Or.inl rfl | exact Or.inr rfl) (pb_call (F := F__law_draw) (ok__law_draw T) (hr.mono (by decide)) (by rfl) T.c__law_draw.g T.c__law_draw.F.kp T.c__law_draw.b (pb_cons (pb_var 0) (pb_cons pb_int pb_nil)) (len_cons (len_cons len_nil))))
    (pb_scons (pb_set (i := 4) sc__law_letters.nd rfl (by first | exact Or.inl rfl | exact Or.inr rfl) (pb_call (F := F__law_draw) (ok__law_draw T) (hr.mono (by decide)) (by rfl) T.c__law_draw.g T.c__law_draw.F.kp T.c__law_draw.b (pb_cons (pb_var 0) (pb_cons pb_int pb_nil)) (len_cons (len_cons len_nil))))
    (pb_scons (pb_set (i := 4) sc__law_letters.nd rfl (by first | exact Or.inl rfl | exact Or.inr rfl) (pb_op op_mod os_mod (pb_op (or_add rfl) os_add (pb_op (or_add rfl) os_add (pb_var 3) pb_int) (pb_var 4)) pb_int))
    (pb_scons (pb_sif (pb_tcmp (or_eq rfl hr.units) os_eq (pb_var 2) pb_int (nm_Eq _)) (pb_sone (pb_ret (pb_var 1))) pb_snil)
    (pb_sone (pb_ret (pb_ix (ir_ix rfl) os_ix (pb_lst (pb_cons (pb_op (or_add rfl) os_add (pb_ix (ir_ix rfl) os_ix (pb_var 1) (pb_var 3) (fun _ _ => rfl)) (pb_ix (ir_ix rfl) os_ix (pb_var 1) (pb_var 4) (fun _ _ => rfl))) (pb_cons (pb_op (or_add rfl) os_add (pb_op (or_add rfl) os_add (pb_ix (ir_ix rfl) os_ix (pb_var 1) (pb_var 3) (fun _ _ => rfl)) (pb_ix (ir_ix rfl) os_ix (pb_var 1) (pb_var 4) (fun _ _ => rfl))) (pb_ix (ir_ix rfl) os_ix (pb_str [97, 113, 122]) (pb_call (F := F__law_draw) (ok__law_draw T) (hr.mono (by decide)) (by rfl) T.c__law_draw.g T.c__law_draw.F.kp T.c__law_draw.b (pb_cons (pb_var 0) (pb_cons pb_int pb_nil)) (len_cons (len_cons len_nil))) (fun _ _ => rfl))) pb_nil))) (pb_op op_mod os_mod (pb_var 2) pb_int) (fun _ _ => rfl))))))))))
theorem ok__law_word (T : Txt K mg w) : FnOk P w K mg base CX0 3 T.a__law_word T.d__law_word ["_law_state", "_law_most", "_law_letters_here"] (spOf K lsG 3 (F__law_word)) :=
  fn_pb2 (Tx := exT K) (xa := xa0) (m__law_word) 4 3 T.c__law_word.F sc__law_word rfl rfl (by decide) fun i cdv A outer s H E hr => (pb_sone (pb_ret (pb_join (pb_str []) (pb_lc (own := [("_law_k", 3)]) rfl sc__law_word.nd (pb_range1 (by rfl) T.z_range (pb_call (F := F__law_draw) (ok__law_draw T) (hr.mono (by decide)) (by rfl) T.c__law_draw.g T.c__law_draw.F.kp T.c__law_draw.b (pb_cons (pb_var 0) (pb_cons (pb_op (or_add rfl) os_add (pb_var 1) pb_int) pb_nil)) (len_cons (len_cons len_nil)))) (blkOk_by (own := [("_law_k", 3)]) (by rfl)) (fun _ _ _ _ _ => (pg_name (i := 3) sc__law_word.nd rfl (by first | exact Or.inl rfl | exact Or.inr rfl))) (ts_name 3) (by decide) (fun _ _ _ _ _ => pts_yes) (fun _ _ _ _ _ => (pb_ix (ir_ix rfl) os_ix (pb_var 2) (pb_call (F := F__law_draw) (ok__law_draw T) (hr.mono (by decide)) (by rfl) T.c__law_draw.g T.c__law_draw.F.kp T.c__law_draw.b (pb_cons (pb_var 0) (pb_cons (pb_cb (cl_len rfl) os_len (by rfl) T.z_len (by decide +kernel) (pb_cons (pb_var 2) pb_nil)) pb_nil)) (len_cons (len_cons len_nil))) (fun _ _ => rfl)))) rfl)))
theorem ok__law_near (T : Txt K mg w) : FnOk P w K mg base CX0 3 T.a__law_near T.d__law_near ["_law_state", "_law_word_here", "_law_most", "_law_letters_here"] (spOf K lsG 4 (F__law_near)) :=
  fn_pb2 (Tx := exT K) (xa := xa0) (m__law_near) 9 4 T.c__law_near.F sc__law_near rfl rfl (by decide) fun i cdv A outer s H E hr => (pb_scons (pb_set (i := 4) sc__law_near.nd rfl (by first | exact Or.inl rfl | exact Or.inr rfl) (pb_ct (cl_listS rfl) os_listS (by rfl) T.z_list (by decide +kernel) (pb_cons (pb_var 1) pb_nil)))
    (pb_scons (pb_for PassesOwn.never rfl (pb_range1 (by rfl) T.z_range (pb_call (F := F__law_draw) (ok__law_draw T) (hr.mono (by decide)) (by rfl) T.c__law_draw.g T.c__law_draw.F.kp T.c__law_draw.b (pb_cons (pb_var 0) (pb_cons pb_int pb_nil)) (len_cons (len_cons len_nil)))) (pg_name (i := 5) sc__law_near.nd rfl (by first | exact Or.inl rfl | exact Or.inr rfl)) (ts_name 5) (pb_scons (pb_set (i := 6) sc__law_near.nd rfl (by first | exact Or.inl rfl | exact Or.inr rfl) (pb_call (F := F__law_draw) (ok__law_draw T) (hr.mono (by decide)) (by rfl) T.c__law_draw.g T.c__law_draw.F.kp T.c__law_draw.b (pb_cons (pb_var 0) (pb_cons pb_int pb_nil)) (len_cons (len_cons len_nil))))
    (pb_scons (pb_set (i := 7) sc__law_near.nd rfl (by first | exact Or.inl rfl | exact Or.inr rfl) (pb_call (F := F__law_draw) (ok__law_draw T) (hr.mono (by decide)) (by rfl) T.c__law_draw.g T.c__law_draw.F.kp T.c__law_draw.b (pb_cons (pb_var 0) (pb_cons (pb_op (or_add rfl) os_add (pb_cb (cl_len rfl) os_len (by rfl) T.z_len (by decide +kernel) (pb_cons (pb_var 4) pb_nil)) pb_int) pb_nil)) (len_cons (len_cons len_nil))))
    (pb_scons (pb_set (i := 8) sc__law_near.nd rfl (by first | exact Or.inl rfl | exact Or.inr rfl) (pb_ix (ir_ix rfl) os_ix (pb_var 3) (pb_call (F := F__law_draw) (ok__law_draw T) (hr.mono (by decide)) (by rfl) T.c__law_draw.g T.c__law_draw.F.kp T.c__law_draw.b (pb_cons (pb_var 0) (pb_cons (pb_cb (cl_len rfl) os_len (by rfl) T.z_len (by decide +kernel) (pb_cons (pb_var 3) pb_nil)) pb_nil)) (len_cons (len_cons len_nil))) (fun _ _ => rfl)))
    (pb_scons (pb_sif (PW.pt (pb_and (pb_tcmp (or_eq rfl hr.units) os_eq (pb_var 6) pb_int (nm_Eq _)) (pb_and1 (pb_tcmp or_lt os_lt (pb_cb (cl_len rfl) os_len (by rfl) T.z_len (by decide +kernel) (pb_cons (pb_var 4) pb_nil)) (pb_var 2) (nm_Lt _))))) (pb_sone (pb_insert (i := 4) rfl rfl (pb_cons (pb_var 7) (pb_cons (pb_var 8) pb_nil)))) pb_snil)
    (pb_scons (pb_sif (PW.pt (pb_and (pb_tcmp (or_eq rfl hr.units) os_eq (pb_var 6) pb_int (nm_Eq _)) (pb_and1 (pb_tcmp or_lt os_lt (pb_var 7) (pb_cb (cl_len rfl) os_len (by rfl) T.z_len (by decide +kernel) (pb_cons (pb_var 4) pb_nil)) (nm_Lt _))))) (pb_sone (pb_popAt (i := 4) rfl rfl (pb_cons (pb_var 7) pb_nil))) pb_snil)
    (pb_sone (pb_sif (PW.pt (pb_and (pb_tcmp (or_eq rfl hr.units) os_eq (pb_var 6) pb_int (nm_Eq _)) (pb_and1 (pb_tcmp or_lt os_lt (pb_var 7) (pb_cb (cl_len rfl) os_len (by rfl) T.z_len (by decide +kernel) (pb_cons (pb_var 4) pb_nil)) (nm_Lt _))))) (pb_sone (pb_put (i := 4) rfl (pb_var 7) (pb_var 8))) pb_snil))))))))
    (pb_sone (pb_ret (pb_join (pb_str []) (pb_var 4) rfl)))))
theorem ok__law_two_words (T : Txt K mg w) : FnOk P w K mg base CX0 4 T.a__law_two_words T.d__law_two_words ["_law_state", "_law_most"] (spOf K lsG 2 (F__law_two_words)) :=
  fn_pb2 (Tx := exT K) (xa := xa0) (m__law_two_words) 6 2 T.c__law_two_words.F sc__law_two_words rfl rfl (by decide) fun i cdv A outer s H E hr => (pb_scons (pb_set (i := 2) sc__law_two_words.nd rfl (by first | exact Or.inl rfl | exact Or.inr rfl) (pb_call (F := F__law_letters) (ok__law_letters T) (hr.mono (by decide)) (by rfl) T.c__law_letters.g T.c__law_letters.F.kp T.c__law_letters.b (pb_cons (pb_var 0) pb_nil) (len_cons len_nil)))
    (pb_scons (pb_set (i := 3) sc__law_two_words.nd rfl (by first | exact Or.inl rfl | exact Or.inr rfl) (pb_call (F := F__law_draw) (ok__law_draw T) (hr.mono (by decide)) (by rfl) T.c__law_draw.g T.c__law_draw.F.kp T.c__law_draw.b (pb_cons (pb_var 0) (pb_cons pb_int pb_nil)) (len_cons (len_cons len_nil))))
    (pb_frz 2 (pb_scons (pb_set (i := 4) sc__law_two_words.nd rfl (by first | exact Or.inl rfl | exact Or.inr rfl) (pb_call (F := F__law_word) (ok__law_word T) (hr.mono (by decide)) (by rfl) T.c__law_word.g T.c__law_word.F.kp T.c__law_word.b (pb_cons (pb_var 0) (pb_cons (pb_var 1) (pb_cons (pb_var 2) pb_nil))) (len_cons (len_cons (len_cons len_nil)))))
    (pb_frz 2 (pb_scons (pb_set (i := 5) sc__law_two_words.nd rfl (by first | exact Or.inl rfl | exact Or.inr rfl) (pb_call (F := F__law_word) (ok__law_word T) (hr.mono (by decide)) (by rfl) T.c__law_word.g T.c__law_word.F.kp T.c__law_word.b (pb_cons (pb_var 0) (pb_cons (pb_var 1) (pb_cons (pb_var 2) pb_nil))) (len_cons (len_cons (len_cons len_nil)))))
    (pb_scons (pb_sif (pb_tcmp (or_eq rfl hr.units) os_eq (pb_var 3) pb_int (nm_Eq _)) (pb_frz 2 (pb_frz 4 (pb_sone (pb_set (i := 5) sc__law_two_words.nd rfl (by first | exact Or.inl rfl | exact Or.inr rfl) (pb_call (F := F__law_near) (ok__law_near T) (hr.mono (by decide)) (by rfl) T.c__law_near.g T.c__law_near.F.kp T.c__law_near.b (pb_cons (pb_var 0) (pb_cons (pb_var 4) (pb_cons (pb_var 1) (pb_cons (pb_var 2) pb_nil)))) (len_cons (len_cons (len_cons (len_cons len_nil))))))))) pb_snil)
    (pb_scons (pb_sif (pb_tcmp (or_eq rfl hr.units) os_eq (pb_var 3) pb_int (nm_Eq _)) (pb_frz 2 (pb_frz 4 (pb_sone (pb_set (i := 5) sc__law_two_words.nd rfl (by first | exact Or.inl rfl | exact Or.inr rfl) (pb_rev rfl (pb_call (F := F__law_near) (ok__law_near T) (hr.mono (by decide)) (by rfl) T.c__law_near.g T.c__law_near.F.kp T.c__law_near.b (pb_cons (pb_var 0) (pb_cons (pb_var 4) (pb_cons (pb_var 1) (pb_cons (pb_var 2) pb_nil)))) (len_cons (len_cons (len_cons (len_cons len_nil)))))))))) pb_snil)
    (pb_sone (pb_ret (pb_tup (pb_cons (pb_var 4) (pb_cons (pb_var 5) pb_nil)))))))))))))
theorem ok__law_price (T : Txt K mg w) : FnOk P w K mg base CX0 3 T.a__law_price T.d__law_price ["_law_state"] (spOf K lsG 1 (F__law_price)) :=
  fn_pb2 (Tx := exT K) (xa := xa0) (m__law_price) 4 1 T.c__law_price.F sc__law_price rfl rfl (by decide) fun i cdv A outer s H E hr => (pb_scons (pb_set (i := 1) sc__law_price.nd rfl (by first | exact Or.inl rfl | exact Or.inr rfl) (pb_ix (ir_ix rfl) os_ix (pb_lst (pb_cons pb_int (pb_cons pb_int (pb_cons pb_int (pb_cons (pb_op op_pow os_pow pb_int pb_int) pb_nil))))) (pb_call (F := F__law_draw) (ok__law_draw T) (hr.mono (by decide)) (by rfl) T.c__law_draw.g T.c__law_draw.F.kp T.c__law_draw.b (pb_cons (pb_var 0) (pb_cons pb_int pb_nil)) (len_cons (len_cons len_nil))) (fun _ _ => rfl)))
    (pb_scons (pb_setLc (i := 2) (own := [("_law_k", 3)]) rfl sc__law_price.nd rfl rfl (sw_true rfl rfl rfl (by decide +kernel)) (pb_range1 (by rfl) T.z_range pb_int) (blkOk_by (own := [("_law_k", 3)]) (by rfl)) (fun _ _ _ _ _ => (pg_name (i := 3) sc__law_price.nd rfl (by first | exact Or.inl rfl | exact Or.inr rfl))) (ts_name 3) (by decide) (fun _ _ _ _ _ => pts_yes) (fun _ _ _ _ _ => (pb_call (F := F__law_draw) (ok__law_draw T) (hr.mono (by decide)) (by rfl) T.c__law_draw.g T.c__law_draw.F.kp T.c__law_draw.b (pb_cons (pb_var 0) (pb_cons (pb_var 1) pb_nil)) (len_cons (len_cons len_nil)))))
    (pb_scons (pb_sif (pb_tcmp (or_eq rfl hr.units) os_eq (pb_call (F := F__law_draw) (ok__law_draw T) (hr.mono (by decide)) (by rfl) T.c__law_draw.g T.c__law_draw.F.kp T.c__law_draw.b (pb_cons (pb_var 0) (pb_cons pb_int pb_nil)) (len_cons (len_cons len_nil))) pb_int (nm_Eq _)) (pb_sone (pb_put (i := 2) rfl (pb_call (F := F__law_draw) (ok__law_draw T) (hr.mono (by decide)) (by rfl) T.c__law_draw.g T.c__law_draw.F.kp T.c__law_draw.b (pb_cons (pb_var 0) (pb_cons pb_int pb_nil)) (len_cons (len_cons len_nil))) pb_int)) pb_snil)
    (pb_scons (pb_sif (pb_tcmp (or_eq rfl hr.units) os_eq (pb_cb (cl_sum rfl rfl) os_sum (by rfl) T.z_sum (by decide +kernel) (pb_cons (pb_var 2) pb_nil)) pb_int (nm_Eq _)) (pb_sone (pb_put (i := 2) rfl (pb_call (F := F__law_draw) (ok__law_draw T) (hr.mono (by decide)) (by rfl) T.c__law_draw.g T.c__law_draw.F.kp T.c__law_draw.b (pb_cons (pb_var 0) (pb_cons pb_int pb_nil)) (len_cons (len_cons len_nil))) (pb_op (or_add rfl) os_add pb_int (pb_call (F := F__law_draw) (ok__law_draw T) (hr.mono (by decide)) (by rfl) T.c__law_draw.g T.c__law_draw.F.kp T.c__law_draw.b (pb_cons (pb_var 0) (pb_cons pb_int pb_nil)) (len_cons (len_cons len_nil)))))) pb_snil)
    (pb_sone (pb_ret (pb_ct (cl_tuple rfl) os_tuple (by rfl) T.z_tuple (by decide +kernel) (pb_cons (pb_var 2) pb_nil))))))))
theorem ok__law_whole (T : Txt K mg w) : FnOk P w K mg base CX0 1 T.a__law_whole T.d__law_whole ["_law_thing"] (spOf K lsG 1 (F__law_whole)) :=
  fn_pb2 (Tx := exT K) (xa := xa0) (m__law_whole) 1 1 T.c__law_whole.F sc__law_whole rfl rfl (by decide) fun i cdv A outer s H E hr => (pb_sone (pb_ret (pb_andV (pb_isi .int rfl (by rfl) T.z_isinstance (by rfl) T.z_int (by decide +kernel) (pb_var 0)) (pb_one (pb_notV (pb_isi .bool rfl (by rfl) T.z_isinstance (by rfl) T.z_bool (by decide +kernel) (pb_var 0)))))))
theorem ok__law_same (T : Txt K mg w) : ∀ n : Nat, FnOk P w K mg base CX0 (2 + n) T.a__law_same T.d__law_same ["_law_found", "_law_due"] (spOf K lsG 2 (F__law_same n))
  | 0 => ⟨fun vs H Q E h => by obtain ⟨i, S, ds, g, hl, _⟩ := h; exact hl, fun A outer s H args us vs Q E hr e0 hb hv h => by
    obtain ⟨i, S, ds, g, hl, _, _, _, _, z⟩ := h
    exact z.elim⟩
  | n + 1 => by
    have G := ok__law_same T n
    exact fn_pb2 (Tx := exT K) (xa := xa0) (k := 2 + n) (m__law_same (F__law_same n)) 4 2 T.c__law_same.F sc__law_same rfl rfl (by decide) fun i cdv A outer s H E hr => by
      have F := F__law_same n
      exact PSs.nox ((pb_scons (pb_sif (pb_val (pb_isi .tuple rfl (by rfl) T.z_isinstance (by rfl) T.z_tuple (by decide +kernel) (pb_var 1))) (pb_scons (pb_sif (PW.pt (pb_or (pb_not (pb_val (pb_isi .tuple rfl (by rfl) T.z_isinstance (by rfl) T.z_tuple (by decide +kernel) (pb_var 0)))) (pb_or1 (pb_tcmp (or_ne rfl hr.units) os_ne (pb_cb (cl_len rfl) os_len (by rfl) T.z_len (by decide +kernel) (pb_cons (pb_var 0) pb_nil)) (pb_cb (cl_len rfl) os_len (by rfl) T.z_len (by decide +kernel) (pb_cons (pb_var 1) pb_nil)) (nm_NotEq _))))) (pb_sone (pb_ret pb_bl)) pb_snil)
    (pb_sone (pb_ret (pb_cb (cl_all rfl rfl) os_all (by rfl) T.z_all (by decide +kernel) (pb_cons (pb_lc (own := [("_law_one", 2), ("_law_other", 3)]) rfl sc__law_same.nd (pb_zip rfl (by rfl) T.z_zip (pb_var 0) (pb_var 1)) (blkOk_by (own := [("_law_one", 2), ("_law_other", 3)]) (by rfl)) (fun _ _ _ _ _ => (pg_tup rfl (pgs_cons (pg_name (i := 2) sc__law_same.nd rfl (by first | exact Or.inl rfl | exact Or.inr rfl)) (pgs_cons (pg_name (i := 3) sc__law_same.nd rfl (by first | exact Or.inl rfl | exact Or.inr rfl)) pgs_nil)))) (ts_tup rfl rfl (TgL.cons (TgL.cons TgL.nil))) (by decide) (fun _ _ _ _ _ => pts_yes) (fun _ _ _ _ _ => (pb_call (F := F__law_same n) (G) (hr.mono (by omega)) (by rfl) T.c__law_same.g T.c__law_same.F.kp T.c__law_same.b (pb_cons (pb_var 2) (pb_cons (pb_var 3) pb_nil)) (len_cons (len_cons len_nil))))) pb_nil))))) pb_snil)
    (pb_scons (pb_sif (pb_tisN (pb_var 1)) (pb_sone (pb_ret (pb_isN (pb_var 0)))) pb_snil)
    (pb_scons (pb_sif (pb_val (pb_isi .bool rfl (by rfl) T.z_isinstance (by rfl) T.z_bool (by decide +kernel) (pb_var 1))) (pb_sone (pb_ret (pb_andV (pb_isi .bool rfl (by rfl) T.z_isinstance (by rfl) T.z_bool (by decide +kernel) (pb_var 0)) (pb_one (pb_cmp (or_eq rfl hr.units) os_eq (pb_var 0) (pb_var 1) (nm_Eq _)))))) pb_snil)
    (pb_scons (pb_sif (pb_val (pb_isi .int rfl (by rfl) T.z_isinstance (by rfl) T.z_int (by decide +kernel) (pb_var 1))) (pb_sone (pb_ret (pb_andV (pb_call (F := F__law_whole) (ok__law_whole T) (hr.mono (by omega)) (by rfl) T.c__law_whole.g T.c__law_whole.F.kp T.c__law_whole.b (pb_cons (pb_var 0) pb_nil) (len_cons len_nil)) (pb_one (pb_cmp (or_eq rfl hr.units) os_eq (pb_var 0) (pb_var 1) (nm_Eq _)))))) pb_snil)
    (pb_sone (pb_ret (pb_andV (pb_isi .str rfl (by rfl) T.z_isinstance (by rfl) T.z_str (by decide +kernel) (pb_var 0)) (pb_one (pb_cmp (or_eq rfl hr.units) os_eq (pb_var 0) (pb_var 1) (nm_Eq _)))))))))))
theorem ok_triple_of (T : Txt K mg w) : FnOk P w K mg base CX0 1 T.a_triple_of T.d_triple_of ["kept", "out", "put", "stretch"] (spOf K lsG 4 (F_triple_of)) :=
  fn_pb2 (Tx := exT K) (xa := xa0) (m_triple_of) 4 4 T.c_triple_of.F sc_triple_of rfl rfl (by decide) fun i cdv A outer s H E hr => (pb_sone (pb_ret (pb_tup (pb_cons (pb_cb (call_min3 rfl) os_min3 (by rfl) T.z_min (by decide +kernel) (pb_cons (pb_var 0) (pb_cons (pb_op (or_add rfl) os_add (pb_var 1) (pb_var 3)) (pb_cons (pb_op (or_add rfl) os_add (pb_var 2) (pb_var 3)) pb_nil)))) (pb_cons (pb_cb (call_min3 rfl) os_min3 (by rfl) T.z_min (by decide +kernel) (pb_cons (pb_var 0) (pb_cons (pb_var 1) (pb_cons (pb_op (or_add rfl) os_add (pb_var 2) (pb_var 3)) pb_nil)))) (pb_cons (pb_cb (call_min3 rfl) os_min3 (by rfl) T.z_min (by decide +kernel) (pb_cons (pb_var 0) (pb_cons (pb_op (or_add rfl) os_add (pb_var 1) (pb_var 3)) (pb_cons (pb_var 2) pb_nil)))) pb_nil))))))
theorem ok_Ways_tight (T : Txt K mg w) : FnOk P w K mg base CX0 1 T.a_Ways_tight T.d_Ways_tight ["self", "place"] (spOf K (wyG K (He.ga K "Ways") lsG) 2 F_Ways_tight) :=
  fn_pb2 (Tx := exT K) (xa := xa0) m_Ways_tight 12 2 T.c_Ways_tight.F sc_Ways_tight rfl rfl (by decide) fun i cdv A outer s H E hr => (show PSs _ _ (RS (wyB (LB K (exT K) i.1 xa0) (He.ga K "Ways") i.2) W0 m_Ways_tight) from (pb_scons (pb_tgt (pb_var 1) (pg_tup rfl (pgs_cons (pg_name (i := 2) sc_Ways_tight.nd rfl (by first | exact Or.inl rfl | exact Or.inr rfl)) (pgs_cons (pg_name (i := 3) sc_Ways_tight.nd rfl (by first | exact Or.inl rfl | exact Or.inr rfl)) (pgs_cons (pg_name (i := 4) sc_Ways_tight.nd rfl (by first | exact Or.inl rfl | exact Or.inr rfl)) pgs_nil)))) (ts_tup rfl rfl (TgL.cons (TgL.cons (TgL.cons TgL.nil)))))
    (pb_scons (pb_tgt (pb_wyW (pb_var 0) T.th_Ways.c rfl (T.th_Ways.no _ (by decide)) (by rfl)) (pg_tup rfl (pgs_cons (pg_name (i := 5) sc_Ways_tight.nd rfl (by first | exact Or.inl rfl | exact Or.inr rfl)) (pgs_cons (pg_name (i := 6) sc_Ways_tight.nd rfl (by first | exact Or.inl rfl | exact Or.inr rfl)) pgs_nil))) (ts_tup rfl rfl (TgL.cons (TgL.cons TgL.nil))))
    (pb_scons (pb_tgt (pb_wyP (pb_var 0) T.th_Ways.c rfl (T.th_Ways.no _ (by decide)) (by rfl)) (pg_tup rfl (pgs_cons (pg_name (i := 7) sc_Ways_tight.nd rfl (by first | exact Or.inl rfl | exact Or.inr rfl)) (pgs_cons (pg_name (i := 8) sc_Ways_tight.nd rfl (by first | exact Or.inl rfl | exact Or.inr rfl)) (pgs_cons (pg_name (i := 9) sc_Ways_tight.nd rfl (by first | exact Or.inl rfl | exact Or.inr rfl)) pgs_nil)))) (ts_tup rfl rfl (TgL.cons (TgL.cons (TgL.cons TgL.nil)))))
    (pb_scons (pb_set (i := 10) sc_Ways_tight.nd rfl (by first | exact Or.inl rfl | exact Or.inr rfl) (pb_ix (ir_ix rfl) os_ix (pb_wyR (pb_var 0) (pb_var 2) (pb_var 3) T.th_Ways.c rfl (T.th_Ways.no _ (by decide)) (by rfl) (fun _ _ => rfl) (fun _ _ => rfl)) (pb_var 4) (fun _ _ => rfl)))
    (pb_scons (pb_set (i := 11) sc_Ways_tight.nd rfl (by first | exact Or.inl rfl | exact Or.inr rfl) (pb_lst pb_nil))
    (pb_scons (pb_sif (PW.pt (pb_and (pb_tcmp or_lt os_lt (pb_var 2) (pb_cb (cl_len rfl) os_len (by rfl) T.z_len (by decide +kernel) (pb_cons (pb_var 5) pb_nil)) (nm_Lt _)) (pb_and (pb_tcmp or_lt os_lt (pb_var 3) (pb_cb (cl_len rfl) os_len (by rfl) T.z_len (by decide +kernel) (pb_cons (pb_var 6) pb_nil)) (nm_Lt _)) (pb_and1 (pb_tcmp (or_eq rfl hr.units) os_eq (pb_op (or_add rfl) os_add (pb_ix (ir_ix rfl) os_ix (pb_wyR (pb_var 0) (pb_op (or_add rfl) os_add (pb_var 2) pb_int) (pb_op (or_add rfl) os_add (pb_var 3) pb_int) T.th_Ways.c rfl (T.th_Ways.no _ (by decide)) (by rfl) (fun _ _ => rfl) (fun _ _ => rfl)) pb_int (fun _ _ => rfl)) (pb_op op_mulW os_mul (pb_var 7) (pb_ct call_int1 os_int (by rfl) T.z_int (by decide +kernel) (pb_cons (pb_cmp (or_ne rfl hr.units) os_ne (pb_ix (ir_ix rfl) os_ix (pb_var 5) (pb_var 2) (fun _ _ => rfl)) (pb_ix (ir_ix rfl) os_ix (pb_var 6) (pb_var 3) (fun _ _ => rfl)) (nm_NotEq _)) pb_nil)))) (pb_var 10) (nm_Eq _)))))) (pb_sone (pb_app (i := 11) rfl rfl (pb_tup (pb_cons pb_int (pb_cons (pb_tup (pb_cons (pb_op (or_add rfl) os_add (pb_var 2) pb_int) (pb_cons (pb_op (or_add rfl) os_add (pb_var 3) pb_int) (pb_cons pb_int pb_nil)))) pb_nil))))) pb_snil)
    (pb_scons (pb_sif (PW.pt (pb_and (pb_tcmp or_lt os_lt (pb_var 2) (pb_cb (cl_len rfl) os_len (by rfl) T.z_len (by decide +kernel) (pb_cons (pb_var 5) pb_nil)) (nm_Lt _)) (pb_and1 (pb_tcmp (or_eq rfl hr.units) os_eq (pb_op (or_add rfl) os_add (pb_op (or_add rfl) os_add (pb_ix (ir_ix rfl) os_ix (pb_wyR (pb_var 0) (pb_op (or_add rfl) os_add (pb_var 2) pb_int) (pb_var 3) T.th_Ways.c rfl (T.th_Ways.no _ (by decide)) (by rfl) (fun _ _ => rfl) (fun _ _ => rfl)) pb_int (fun _ _ => rfl)) (pb_var 8)) (pb_op op_mulW os_mul (pb_var 9) (pb_ct call_int1 os_int (by rfl) T.z_int (by decide +kernel) (pb_cons (pb_cmp (or_ne rfl hr.units) os_ne (pb_var 4) pb_int (nm_NotEq _)) pb_nil)))) (pb_var 10) (nm_Eq _))))) (pb_sone (pb_app (i := 11) rfl rfl (pb_tup (pb_cons pb_int (pb_cons (pb_tup (pb_cons (pb_op (or_add rfl) os_add (pb_var 2) pb_int) (pb_cons (pb_var 3) (pb_cons pb_int pb_nil)))) pb_nil))))) pb_snil)
    (pb_scons (pb_sif (PW.pt (pb_and (pb_tcmp or_lt os_lt (pb_var 3) (pb_cb (cl_len rfl) os_len (by rfl) T.z_len (by decide +kernel) (pb_cons (pb_var 6) pb_nil)) (nm_Lt _)) (pb_and1 (pb_tcmp (or_eq rfl hr.units) os_eq (pb_op (or_add rfl) os_add (pb_op (or_add rfl) os_add (pb_ix (ir_ix rfl) os_ix (pb_wyR (pb_var 0) (pb_var 2) (pb_op (or_add rfl) os_add (pb_var 3) pb_int) T.th_Ways.c rfl (T.th_Ways.no _ (by decide)) (by rfl) (fun _ _ => rfl) (fun _ _ => rfl)) pb_int (fun _ _ => rfl)) (pb_var 8)) (pb_op op_mulW os_mul (pb_var 9) (pb_ct call_int1 os_int (by rfl) T.z_int (by decide +kernel) (pb_cons (pb_cmp (or_ne rfl hr.units) os_ne (pb_var 4) pb_int (nm_NotEq _)) pb_nil)))) (pb_var 10) (nm_Eq _))))) (pb_sone (pb_app (i := 11) rfl rfl (pb_tup (pb_cons pb_int (pb_cons (pb_tup (pb_cons (pb_var 2) (pb_cons (pb_op (or_add rfl) os_add (pb_var 3) pb_int) (pb_cons pb_int pb_nil)))) pb_nil))))) pb_snil)
    (pb_sone (pb_ret (pb_var 11))))))))))))
theorem ok_Ways_is_end (T : Txt K mg w) : FnOk P w K mg base CX0 1 T.a_Ways_is_end T.d_Ways_is_end ["self", "place"] (spOf K (wyG K (He.ga K "Ways") lsG) 2 F_Ways_is_end) :=
  fn_pb2 (Tx := exT K) (xa := xa0) m_Ways_is_end 2 2 T.c_Ways_is_end.F sc_Ways_is_end rfl rfl (by decide) fun i cdv A outer s H E hr => (show PSs _ _ (RS (wyB (LB K (exT K) i.1 xa0) (He.ga K "Ways") i.2) W0 m_Ways_is_end) from (pb_sone (pb_ret (pb_andV (pb_cmp (or_eq rfl hr.units) os_eq (pb_ix (ir_ix rfl) os_ix (pb_var 1) pb_int (fun _ _ => rfl)) (pb_cb (cl_len rfl) os_len (by rfl) T.z_len (by decide +kernel) (pb_cons (pb_ix (ir_ix rfl) os_ix (pb_wyW (pb_var 0) T.th_Ways.c rfl (T.th_Ways.no _ (by decide)) (by rfl)) pb_int (fun _ _ => rfl)) pb_nil)) (nm_Eq _)) (pb_one (pb_cmp (or_eq rfl hr.units) os_eq (pb_ix (ir_ix rfl) os_ix (pb_var 1) pb_int (fun _ _ => rfl)) (pb_cb (cl_len rfl) os_len (by rfl) T.z_len (by decide +kernel) (pb_cons (pb_ix (ir_ix rfl) os_ix (pb_wyW (pb_var 0) T.th_Ways.c rfl (T.th_Ways.no _ (by decide)) (by rfl)) pb_int (fun _ _ => rfl)) pb_nil)) (nm_Eq _)))))))
theorem ok_Ways_lead_on (T : Txt K mg w) : FnOk P w K mg base CX0 2 T.a_Ways_lead_on T.d_Ways_lead_on ["self", "place"] (spOf K (wyG K (He.ga K "Ways") lsG) 2 F_Ways_lead_on) :=
  fn_pb2 (Tx := exT K) (xa := xa0) m_Ways_lead_on 4 2 T.c_Ways_lead_on.F sc_Ways_lead_on rfl rfl (by decide) fun i cdv A outer s H E hr => (show PSs _ _ (RS (wyB (LB K (exT K) i.1 xa0) (He.ga K "Ways") i.2) W0 m_Ways_lead_on) from (pb_scons (pb_wyPutS (pb_var 0) (pb_var 1) (pb_meth (F := F_Ways_tight) (wyI (by rfl)) (pb_var 0) T.th_Ways.c (T.th_Ways.me _ (by decide)) (ok_Ways_tight T) (hr.mono (by decide)) T.c_Ways_tight.b (pb_cons (pb_var 1) pb_nil) (len_cons len_nil)) T.th_Ways.c rfl (hu1 hr) (T.th_Ways.no _ (by decide)) (by rfl) (by rfl))
    (pb_scons (pb_wyPutM (pb_var 0) (pb_var 1) (pb_cb (cl_sum rfl rfl) os_sum (by rfl) T.z_sum (by decide +kernel) (pb_cons (pb_lc (own := [("move", 2), ("there", 3)]) rfl sc_Ways_lead_on.nd (pb_items rfl (pb_wyS (pb_var 0) (pb_var 1) T.th_Ways.c rfl (hu1 hr) (T.th_Ways.no _ (by decide)) (by rfl) (fun _ _ => rfl))) (blkOk_by (own := [("move", 2), ("there", 3)]) (by rfl)) (fun _ _ _ _ _ => (pg_tup rfl (pgs_cons (pg_name (i := 2) sc_Ways_lead_on.nd rfl (by first | exact Or.inl rfl | exact Or.inr rfl)) (pgs_cons (pg_name (i := 3) sc_Ways_lead_on.nd rfl (by first | exact Or.inl rfl | exact Or.inr rfl)) pgs_nil)))) (ts_tup rfl rfl (TgL.cons (TgL.cons TgL.nil))) (by decide) (fun _ _ _ _ _ => pts_yes) (fun _ _ _ _ _ => (pb_wyM (pb_var 0) (pb_var 3) T.th_Ways.c rfl (hu1 hr) (T.th_Ways.no _ (by decide)) (by rfl) (fun _ _ => rfl)))) pb_nil)) T.th_Ways.c rfl (hu1 hr) (T.th_Ways.no _ (by decide)) (by rfl) (by rfl))
    (pb_sone (pb_sif (pb_tru rfl (pb_meth (F := F_Ways_is_end) (wyI (by rfl)) (pb_var 0) T.th_Ways.c (T.th_Ways.me _ (by decide)) (ok_Ways_is_end T) (hr.mono (by decide)) T.c_Ways_is_end.b (pb_cons (pb_var 1) pb_nil) (len_cons len_nil))) (pb_sone (pb_wyPutM (pb_var 0) (pb_var 1) pb_int T.th_Ways.c rfl (hu1 hr) (T.th_Ways.no _ (by decide)) (by rfl) (by rfl))) pb_snil)))))
theorem ok_N_rests_of (T : Txt K mg w) : FnOk P w K mg base CX0 2 T.a_rests_of T.d_rests_of ["one", "other", "price"] (spNl K lsG 3 F_rests_of) :=
  fn_nl (Tx := exT K) (xa := xa0) m_rests_of (NlM.seq NoRt.tgt (NlM.seq NoRt.set NlM.nest)) 12 3 T.c_rests_of.F sc_rests_of rfl rfl (by decide) fun i cdv A outer s H E hr => (pb_rscons (pb_tgt (pb_var 2) (pg_tup rfl (pgs_cons (pg_name (i := 3) sc_rests_of.nd rfl (by first | exact Or.inl rfl | exact Or.inr rfl)) (pgs_cons (pg_name (i := 4) sc_rests_of.nd rfl (by first | exact Or.inl rfl | exact Or.inr rfl)) (pgs_cons (pg_name (i := 5) sc_rests_of.nd rfl (by first | exact Or.inl rfl | exact Or.inr rfl)) pgs_nil)))) (ts_tup rfl rfl (TgL.cons (TgL.cons (TgL.cons TgL.nil)))))
    (pb_rscons (pb_set (i := 6) sc_rests_of.nd rfl (by first | exact Or.inl rfl | exact Or.inr rfl) (pb_op op_mulW os_mul (pb_op (or_add rfl) os_add (pb_op (or_add rfl) os_add (pb_cb (cl_len rfl) os_len (by rfl) T.z_len (by decide +kernel) (pb_cons (pb_var 0) pb_nil)) (pb_cb (cl_len rfl) os_len (by rfl) T.z_len (by decide +kernel) (pb_cons (pb_var 1) pb_nil))) pb_int) (pb_op (or_add rfl) os_add (pb_op (or_add rfl) os_add (pb_var 3) (pb_var 4)) (pb_var 5))))
    (pb_nestN (i := 7) (own := [("mark", 11)]) rfl sc_rests_of.nd rfl rfl (sw_true rfl rfl rfl (by decide +kernel)) (pb_range1 (by rfl) T.z_range (pb_op (or_add rfl) os_add (pb_cb (cl_len rfl) os_len (by rfl) T.z_len (by decide +kernel) (pb_cons (pb_var 0) pb_nil)) pb_int)) (blkOk_by (own := [("mark", 11)]) (by rfl)) (fun _ _ _ _ _ => (pg_name (i := 11) sc_rests_of.nd rfl (by first | exact Or.inl rfl | exact Or.inr rfl))) (ts_name 11) (fun i hi => hi) (fun _ _ _ _ _ => (pb_op op_rep os_rep (pb_lst (pb_cons (pb_tup (pb_cons (pb_var 6) (pb_cons (pb_var 6) (pb_cons (pb_var 6) pb_nil)))) pb_nil)) (pb_op (or_add rfl) os_add (pb_cb (cl_len rfl) os_len (by rfl) T.z_len (by decide +kernel) (pb_cons (pb_var 1) pb_nil)) pb_int))) (fun na => (pb_nscons (pb_nlPut 7 rfl (pb_cb (cl_len rfl) os_len (by rfl) T.z_len (by decide +kernel) (pb_cons (pb_var 0) pb_nil)) (pb_cb (cl_len rfl) os_len (by rfl) T.z_len (by decide +kernel) (pb_cons (pb_var 1) pb_nil)) (pb_tup (pb_cons pb_int (pb_cons pb_int (pb_cons pb_int pb_nil)))) (fun _ _ => rfl))
    (pb_nscons (pb_for PassesOwn.never rfl (pb_range3 (by rfl) T.z_range (pb_cons (pb_cb (cl_len rfl) os_len (by rfl) T.z_len (by decide +kernel) (pb_cons (pb_var 0) pb_nil)) (pb_cons (pb_un un_neg os_neg pb_int) (pb_cons (pb_un un_neg os_neg pb_int) pb_nil))) (hl := (len_cons (len_cons (len_cons len_nil))))) (pg_name (i := 8) sc_rests_of.nd rfl (by first | exact Or.inl rfl | exact Or.inr rfl)) (ts_name 8) (pb_sone (pb_for PassesOwn.never rfl (pb_range3 (by rfl) T.z_range (pb_cons (pb_cb (cl_len rfl) os_len (by rfl) T.z_len (by decide +kernel) (pb_cons (pb_var 1) pb_nil)) (pb_cons (pb_un un_neg os_neg pb_int) (pb_cons (pb_un un_neg os_neg pb_int) pb_nil))) (hl := (len_cons (len_cons (len_cons len_nil))))) (pg_name (i := 9) sc_rests_of.nd rfl (by first | exact Or.inl rfl | exact Or.inr rfl)) (ts_name 9) (pb_sone (pb_sif (PW.pt (pb_or (pb_tcmp or_lt os_lt (pb_var 8) (pb_cb (cl_len rfl) os_len (by rfl) T.z_len (by decide +kernel) (pb_cons (pb_var 0) pb_nil)) (nm_Lt _)) (pb_or1 (pb_tcmp or_lt os_lt (pb_var 9) (pb_cb (cl_len rfl) os_len (by rfl) T.z_len (by decide +kernel) (pb_cons (pb_var 1) pb_nil)) (nm_Lt _))))) (pb_scons (pb_set (i := 10) sc_rests_of.nd rfl (by first | exact Or.inl rfl | exact Or.inr rfl) (pb_var 6))
    (pb_scons (pb_sif (PW.pt (pb_and (pb_tcmp or_lt os_lt (pb_var 8) (pb_cb (cl_len rfl) os_len (by rfl) T.z_len (by decide +kernel) (pb_cons (pb_var 0) pb_nil)) (nm_Lt _)) (pb_and1 (pb_tcmp or_lt os_lt (pb_var 9) (pb_cb (cl_len rfl) os_len (by rfl) T.z_len (by decide +kernel) (pb_cons (pb_var 1) pb_nil)) (nm_Lt _))))) (pb_sone (pb_set (i := 10) sc_rests_of.nd rfl (by first | exact Or.inl rfl | exact Or.inr rfl) (pb_op (or_add rfl) os_add (pb_ix (ir_ix rfl) os_ix (pb_nlGet 7 rfl (pb_op (or_add rfl) os_add (pb_var 8) pb_int) (pb_op (or_add rfl) os_add (pb_var 9) pb_int) (fun _ _ => rfl) (fun _ _ => rfl)) pb_int (fun _ _ => rfl)) (pb_op op_mulW os_mul (pb_var 3) (pb_ct call_int1 os_int (by rfl) T.z_int (by decide +kernel) (pb_cons (pb_cmp (or_ne rfl hr.units) os_ne (pb_ix (ir_ix rfl) os_ix (pb_var 0) (pb_var 8) (fun _ _ => rfl)) (pb_ix (ir_ix rfl) os_ix (pb_var 1) (pb_var 9) (fun _ _ => rfl)) (nm_NotEq _)) pb_nil)))))) pb_snil)
    (pb_frz 10 (pb_sone (pb_nlPut 7 rfl (pb_var 8) (pb_var 9) (pb_call (F := (liftF F_triple_of)) (fn_lift (ok_triple_of T)) (hr.mono (by decide)) (by rfl) T.c_triple_of.g T.c_triple_of.F.kp T.c_triple_of.b (pb_cons (pb_var 10) (pb_cons (pb_op (or_add rfl) os_add (pb_ix (ir_ix rfl) os_ix (pb_nlGet 7 rfl (pb_op (or_add rfl) os_add (pb_var 8) pb_int) (pb_var 9) (fun _ _ => rfl) (fun _ _ => rfl)) pb_int (fun _ _ => rfl)) (pb_var 4)) (pb_cons (pb_op (or_add rfl) os_add (pb_ix (ir_ix rfl) os_ix (pb_nlGet 7 rfl (pb_var 8) (pb_op (or_add rfl) os_add (pb_var 9) pb_int) (fun _ _ => rfl) (fun _ _ => rfl)) pb_int (fun _ _ => rfl)) (pb_var 4)) (pb_cons (pb_var 5) pb_nil)))) (len_cons (len_cons (len_cons (len_cons len_nil))))) (fun _ _ => rfl)))))) pb_snil)))))
    (pb_nret rfl)))))))
theorem ok_Ways___init__ (T : Txt K mg w) : FnOk P w K mg base CX0 3 T.a_Ways___init__ T.d_Ways___init__ ["self", "one", "other", "price"] (spWyI K (He.ga K "Ways") lsG 3 M_Ways) :=
  fn_init (Tx := exT K) (xa := xa0) (Fr := F_rests_of) (L := mL_Ways) 3 T.c_Ways___init__.F sc_Ways___init__ rfl rfl fun i cdv A outer s H E hr =>
    pss_init (B := LB K (exT K) i xa0) (C := He.ga K "Ways") (Fr := F_rests_of) (L := mL_Ways) (m := 3) T.th_Ways.c ⟨T.th_Ways.no _ (by decide), T.th_Ways.no _ (by decide), T.th_Ways.no _ (by decide), T.th_Ways.no _ (by decide), T.th_Ways.no _ (by decide)⟩
      (ps_fld (pe_var (i := 0) rfl (by first | exact Or.inl rfl | exact Or.inr (Or.inl rfl) | exact Or.inr (Or.inr rfl)) (by decide) (by decide)) (pb_tup (pb_cons (pb_var 1 rfl) (pb_cons (pb_var 2 rfl) pb_nil))) (by rfl))
      (ps_fld (pe_var (i := 0) rfl (by first | exact Or.inl rfl | exact Or.inr (Or.inl rfl) | exact Or.inr (Or.inr rfl)) (by decide) (by decide)) (pb_var 3 rfl) (by rfl))
      (ps_fld (pe_var (i := 0) rfl (by first | exact Or.inl rfl | exact Or.inr (Or.inl rfl) | exact Or.inr (Or.inr rfl)) (by decide) (by decide)) (pe_call (ok_N_rests_of T) (hr.mono (by decide)) (by rfl) T.c_rests_of.g T.c_rests_of.F.kp T.c_rests_of.b .nil pass0 (pb_cons (pb_var 1 rfl) (pb_cons (pb_var 2 rfl) (pb_cons (pb_var 3 rfl) pb_nil)))) (by rfl))
      (ps_fld (pe_var (i := 0) rfl (by first | exact Or.inl rfl | exact Or.inr (Or.inl rfl) | exact Or.inr (Or.inr rfl)) (by decide) (by decide)) pe_dnewX (by rfl))
      (ps_fld (pe_var (i := 0) rfl (by first | exact Or.inl rfl | exact Or.inr (Or.inl rfl) | exact Or.inr (Or.inr rfl)) (by decide) (by decide)) pe_dnewX (by rfl))
      (fun w => (pb_sone (pb_for PassesOwn.never rfl (pb_range3 (by rfl) T.z_range (pb_cons (pb_cb (cl_len rfl) os_len (by rfl) T.z_len (by decide +kernel) (pb_cons (pb_var 1) pb_nil)) (pb_cons (pb_un un_neg os_neg pb_int) (pb_cons (pb_un un_neg os_neg pb_int) pb_nil))) (hl := (len_cons (len_cons (len_cons len_nil))))) (pg_name (i := 4) sc_Ways___init__.nd rfl (by first | exact Or.inl rfl | exact Or.inr rfl)) (ts_name 4) (pb_sone (pb_for PassesOwn.never rfl (pb_range3 (by rfl) T.z_range (pb_cons (pb_cb (cl_len rfl) os_len (by rfl) T.z_len (by decide +kernel) (pb_cons (pb_var 2) pb_nil)) (pb_cons (pb_un un_neg os_neg pb_int) (pb_cons (pb_un un_neg os_neg pb_int) pb_nil))) (hl := (len_cons (len_cons (len_cons len_nil))))) (pg_name (i := 5) sc_Ways___init__.nd rfl (by first | exact Or.inl rfl | exact Or.inr rfl)) (ts_name 5) (pb_sone (pb_for PassesOwn.never rfl (pb_range1 (by rfl) T.z_range pb_int) (pg_name (i := 6) sc_Ways___init__.nd rfl (by first | exact Or.inl rfl | exact Or.inr rfl)) (ts_name 6) (pb_sone (pb_expr (pb_meth (F := F_Ways_lead_on) (wyI (by rfl)) (pb_var 0) T.th_Ways.c (T.th_Ways.me _ (by decide)) (ok_Ways_lead_on T) (hr.mono (by decide)) T.c_Ways_lead_on.b (pb_cons (pb_tup (pb_cons (pb_var 4) (pb_cons (pb_var 5) (pb_cons (pb_var 6) pb_nil)))) pb_nil) (len_cons len_nil)))))))))))
theorem ok_how_many (T : Txt K mg w) : FnOk P w K mg base CX0 5 T.a_how_many T.d_how_many ["one", "other", "price"] (spOf K lsG 3 (F_how_many)) :=
  fn_pb2 (Tx := exT K) (xa := xa0) (m_how_many) 3 3 T.c_how_many.F sc_how_many rfl rfl (by decide) fun i cdv A outer s H E hr => (pb_sone (pb_ret (pb_wy1 (M := M_Ways) rfl (hu1 hr) T.th_Ways.c (T.th_Ways.no _ (by decide)) T.th_Ways.make (ok_Ways___init__ T) (hr.mono (by decide)) (by rfl) T.th_Ways.g T.c_Ways___init__.b (pb_cons (pb_var 0) (pb_cons (pb_var 1) (pb_cons (pb_var 2) pb_nil))) (len_cons (len_cons (len_cons len_nil))) (pb_con T.k_BEGIN (by rfl)) (fun _ _ => rfl) (by rfl))))
theorem ok__law_rests (T : Txt K mg w) : FnOk P w K mg base CX0 1 T.a__law_rests T.d__law_rests ["_law_one", "_law_other", "_law_price_here"] (spOf K lsG 3 (F__law_rests)) :=
  fn_pb2 (Tx := exT K) (xa := xa0) (m__law_rests) 17 3 T.c__law_rests.F sc__law_rests rfl rfl (by decide) fun i cdv A outer s H E hr => (pb_scons (pb_tgt (pb_var 2) (pg_tup rfl (pgs_cons (pg_name (i := 3) sc__law_rests.nd rfl (by first | exact Or.inl rfl | exact Or.inr rfl)) (pgs_cons (pg_name (i := 4) sc__law_rests.nd rfl (by first | exact Or.inl rfl | exact Or.inr rfl)) (pgs_cons (pg_name (i := 5) sc__law_rests.nd rfl (by first | exact Or.inl rfl | exact Or.inr rfl)) pgs_nil)))) (ts_tup rfl rfl (TgL.cons (TgL.cons (TgL.cons TgL.nil)))))
    (pb_scons (pb_set (i := 6) sc__law_rests.nd rfl (by first | exact Or.inl rfl | exact Or.inr rfl) (pb_op (or_add rfl) os_add (pb_op op_mulW os_mul pb_int (pb_op (or_add rfl) os_add (pb_op (or_add rfl) os_add (pb_var 3) (pb_var 4)) (pb_var 5))) pb_int))
    (pb_scons (pb_setLc (i := 7) (own := [("_law_letter", 16)]) rfl sc__law_rests.nd rfl rfl (sw_true rfl rfl rfl (by decide +kernel)) (pb_range1 (by rfl) T.z_range (pb_op (or_add rfl) os_add (pb_cb (cl_len rfl) os_len (by rfl) T.z_len (by decide +kernel) (pb_cons (pb_var 0) pb_nil)) pb_int)) (blkOk_by (own := [("_law_letter", 16)]) (by rfl)) (fun _ _ _ _ _ => (pg_name (i := 16) sc__law_rests.nd rfl (by first | exact Or.inl rfl | exact Or.inr rfl))) (ts_name 16) (by decide) (fun _ _ _ _ _ => pts_yes) (fun _ _ _ _ _ => (pb_lst pb_nil)))
    (pb_scons (pb_set (i := 8) sc__law_rests.nd rfl (by first | exact Or.inl rfl | exact Or.inr rfl) (pb_lst pb_nil))
    (pb_scons (pb_for PassesOwn.never rfl (pb_range3 (by rfl) T.z_range (pb_cons (pb_cb (cl_len rfl) os_len (by rfl) T.z_len (by decide +kernel) (pb_cons (pb_var 0) pb_nil)) (pb_cons (pb_un un_neg os_neg pb_int) (pb_cons (pb_un un_neg os_neg pb_int) pb_nil))) (hl := (len_cons (len_cons (len_cons len_nil))))) (pg_name (i := 9) sc__law_rests.nd rfl (by first | exact Or.inl rfl | exact Or.inr rfl)) (ts_name 9) (pb_scons (pb_set (i := 10) sc__law_rests.nd rfl (by first | exact Or.inl rfl | exact Or.inr rfl) (pb_op op_rep os_rep (pb_lst (pb_cons (pb_tup (pb_cons (pb_var 6) (pb_cons (pb_var 6) (pb_cons (pb_var 6) pb_nil)))) pb_nil)) (pb_op (or_add rfl) os_add (pb_cb (cl_len rfl) os_len (by rfl) T.z_len (by decide +kernel) (pb_cons (pb_var 1) pb_nil)) pb_int)))
    (pb_scons (pb_for PassesOwn.never rfl (pb_range3 (by rfl) T.z_range (pb_cons (pb_cb (cl_len rfl) os_len (by rfl) T.z_len (by decide +kernel) (pb_cons (pb_var 1) pb_nil)) (pb_cons (pb_un un_neg os_neg pb_int) (pb_cons (pb_un un_neg os_neg pb_int) pb_nil))) (hl := (len_cons (len_cons (len_cons len_nil))))) (pg_name (i := 11) sc__law_rests.nd rfl (by first | exact Or.inl rfl | exact Or.inr rfl)) (ts_name 11) (pb_scons (pb_par3 (i := 12) (j := 13) (l := 14) rfl sc__law_rests.nd rfl rfl rfl (by decide) (by decide) (by decide) rfl rfl rfl (pb_var 6) (pb_var 6) (pb_var 6))
    (pb_scons (pb_sif (PW.pt (pb_and (pb_tcmp or_lt os_lt (pb_var 9) (pb_cb (cl_len rfl) os_len (by rfl) T.z_len (by decide +kernel) (pb_cons (pb_var 0) pb_nil)) (nm_Lt _)) (pb_and1 (pb_tcmp or_lt os_lt (pb_var 11) (pb_cb (cl_len rfl) os_len (by rfl) T.z_len (by decide +kernel) (pb_cons (pb_var 1) pb_nil)) (nm_Lt _))))) (pb_scons (pb_set (i := 15) sc__law_rests.nd rfl (by first | exact Or.inl rfl | exact Or.inr rfl) (pb_op op_mulW os_mul (pb_var 3) (pb_ct call_int1 os_int (by rfl) T.z_int (by decide +kernel) (pb_cons (pb_cmp (or_ne rfl hr.units) os_ne (pb_ix (ir_ix rfl) os_ix (pb_var 0) (pb_var 9) (fun _ _ => rfl)) (pb_ix (ir_ix rfl) os_ix (pb_var 1) (pb_var 11) (fun _ _ => rfl)) (nm_NotEq _)) pb_nil))))
    (pb_sone (pb_set (i := 12) sc__law_rests.nd rfl (by first | exact Or.inl rfl | exact Or.inr rfl) (pb_op (or_add rfl) os_add (pb_ix (ir_ix rfl) os_ix (pb_ix (ir_ix rfl) os_ix (pb_var 8) (pb_op (or_add rfl) os_add (pb_var 11) pb_int) (fun _ _ => rfl)) pb_int (fun _ _ => rfl)) (pb_var 15))))) pb_snil)
    (pb_scons (pb_sif (pb_tcmp or_lt os_lt (pb_var 9) (pb_cb (cl_len rfl) os_len (by rfl) T.z_len (by decide +kernel) (pb_cons (pb_var 0) pb_nil)) (nm_Lt _)) (pb_sone (pb_set (i := 13) sc__law_rests.nd rfl (by first | exact Or.inl rfl | exact Or.inr rfl) (pb_op (or_add rfl) os_add (pb_ix (ir_ix rfl) os_ix (pb_ix (ir_ix rfl) os_ix (pb_var 8) (pb_var 11) (fun _ _ => rfl)) pb_int (fun _ _ => rfl)) (pb_var 4)))) pb_snil)
    (pb_scons (pb_sif (pb_tcmp or_lt os_lt (pb_var 11) (pb_cb (cl_len rfl) os_len (by rfl) T.z_len (by decide +kernel) (pb_cons (pb_var 1) pb_nil)) (nm_Lt _)) (pb_sone (pb_set (i := 14) sc__law_rests.nd rfl (by first | exact Or.inl rfl | exact Or.inr rfl) (pb_op (or_add rfl) os_add (pb_ix (ir_ix rfl) os_ix (pb_ix (ir_ix rfl) os_ix (pb_var 10) (pb_op (or_add rfl) os_add (pb_var 11) pb_int) (fun _ _ => rfl)) pb_int (fun _ _ => rfl)) (pb_var 4)))) pb_snil)
    (pb_scons (pb_put (i := 10) rfl (pb_var 11) (pb_tup (pb_cons (pb_cb (call_min3 rfl) os_min3 (by rfl) T.z_min (by decide +kernel) (pb_cons (pb_var 12) (pb_cons (pb_op (or_add rfl) os_add (pb_var 13) (pb_var 5)) (pb_cons (pb_op (or_add rfl) os_add (pb_var 14) (pb_var 5)) pb_nil)))) (pb_cons (pb_cb (call_min3 rfl) os_min3 (by rfl) T.z_min (by decide +kernel) (pb_cons (pb_var 12) (pb_cons (pb_var 13) (pb_cons (pb_op (or_add rfl) os_add (pb_var 14) (pb_var 5)) pb_nil)))) (pb_cons (pb_cb (call_min3 rfl) os_min3 (by rfl) T.z_min (by decide +kernel) (pb_cons (pb_var 12) (pb_cons (pb_op (or_add rfl) os_add (pb_var 13) (pb_var 5)) (pb_cons (pb_var 14) pb_nil)))) pb_nil)))))
    (pb_sone (pb_sif (PW.pt (pb_and (pb_tcmp (or_eq rfl hr.units) os_eq (pb_var 9) (pb_cb (cl_len rfl) os_len (by rfl) T.z_len (by decide +kernel) (pb_cons (pb_var 0) pb_nil)) (nm_Eq _)) (pb_and1 (pb_tcmp (or_eq rfl hr.units) os_eq (pb_var 11) (pb_cb (cl_len rfl) os_len (by rfl) T.z_len (by decide +kernel) (pb_cons (pb_var 1) pb_nil)) (nm_Eq _))))) (pb_sone (pb_put (i := 10) rfl (pb_var 11) (pb_tup (pb_cons pb_int (pb_cons pb_int (pb_cons pb_int pb_nil)))))) pb_snil))))))))
    (pb_frz 10 (pb_scons (pb_put (i := 7) rfl (pb_var 9) (pb_var 10))
    (pb_sone (pb_set (i := 8) sc__law_rests.nd rfl (by first | exact Or.inl rfl | exact Or.inr rfl) (pb_var 10))))))))
    (pb_sone (pb_ret (pb_var 7))))))))
theorem ok__law_go_on (T : Txt K mg w) : FnOk P w K mg base CX0 1 T.a__law_go_on T.d__law_go_on ["_law_one", "_law_other", "_law_price_here", "_law_rests_here", "_law_place"] (spOf K lsG 5 (F__law_go_on)) :=
  fn_pb2 (Tx := exT K) (xa := xa0) (m__law_go_on) 14 5 T.c__law_go_on.F sc__law_go_on rfl rfl (by decide) fun i cdv A outer s H E hr => (pb_scons (pb_tgt (pb_var 2) (pg_tup rfl (pgs_cons (pg_name (i := 5) sc__law_go_on.nd rfl (by first | exact Or.inl rfl | exact Or.inr rfl)) (pgs_cons (pg_name (i := 6) sc__law_go_on.nd rfl (by first | exact Or.inl rfl | exact Or.inr rfl)) (pgs_cons (pg_name (i := 7) sc__law_go_on.nd rfl (by first | exact Or.inl rfl | exact Or.inr rfl)) pgs_nil)))) (ts_tup rfl rfl (TgL.cons (TgL.cons (TgL.cons TgL.nil)))))
    (pb_scons (pb_tgt (pb_var 4) (pg_tup rfl (pgs_cons (pg_name (i := 8) sc__law_go_on.nd rfl (by first | exact Or.inl rfl | exact Or.inr rfl)) (pgs_cons (pg_name (i := 9) sc__law_go_on.nd rfl (by first | exact Or.inl rfl | exact Or.inr rfl)) (pgs_cons (pg_name (i := 10) sc__law_go_on.nd rfl (by first | exact Or.inl rfl | exact Or.inr rfl)) pgs_nil)))) (ts_tup rfl rfl (TgL.cons (TgL.cons (TgL.cons TgL.nil)))))
    (pb_scons (pb_set (i := 11) sc__law_go_on.nd rfl (by first | exact Or.inl rfl | exact Or.inr rfl) (pb_ix (ir_ix rfl) os_ix (pb_ix (ir_ix rfl) os_ix (pb_ix (ir_ix rfl) os_ix (pb_var 3) (pb_var 8) (fun _ _ => rfl)) (pb_var 9) (fun _ _ => rfl)) (pb_var 10) (fun _ _ => rfl)))
    (pb_scons (pb_set (i := 12) sc__law_go_on.nd rfl (by first | exact Or.inl rfl | exact Or.inr rfl) (pb_lst pb_nil))
    (pb_scons (pb_sif (PW.pt (pb_and (pb_tcmp or_lt os_lt (pb_var 8) (pb_cb (cl_len rfl) os_len (by rfl) T.z_len (by decide +kernel) (pb_cons (pb_var 0) pb_nil)) (nm_Lt _)) (pb_and1 (pb_tcmp or_lt os_lt (pb_var 9) (pb_cb (cl_len rfl) os_len (by rfl) T.z_len (by decide +kernel) (pb_cons (pb_var 1) pb_nil)) (nm_Lt _))))) (pb_scons (pb_set (i := 13) sc__law_go_on.nd rfl (by first | exact Or.inl rfl | exact Or.inr rfl) (pb_op op_mulW os_mul (pb_var 5) (pb_ct call_int1 os_int (by rfl) T.z_int (by decide +kernel) (pb_cons (pb_cmp (or_ne rfl hr.units) os_ne (pb_ix (ir_ix rfl) os_ix (pb_var 0) (pb_var 8) (fun _ _ => rfl)) (pb_ix (ir_ix rfl) os_ix (pb_var 1) (pb_var 9) (fun _ _ => rfl)) (nm_NotEq _)) pb_nil))))
    (pb_sone (pb_sif (pb_tcmp (or_eq rfl hr.units) os_eq (pb_op (or_add rfl) os_add (pb_ix (ir_ix rfl) os_ix (pb_ix (ir_ix rfl) os_ix (pb_ix (ir_ix rfl) os_ix (pb_var 3) (pb_op (or_add rfl) os_add (pb_var 8) pb_int) (fun _ _ => rfl)) (pb_op (or_add rfl) os_add (pb_var 9) pb_int) (fun _ _ => rfl)) pb_int (fun _ _ => rfl)) (pb_var 13)) (pb_var 11) (nm_Eq _)) (pb_sone (pb_app (i := 12) rfl rfl (pb_tup (pb_cons pb_int (pb_cons (pb_tup (pb_cons (pb_op (or_add rfl) os_add (pb_var 8) pb_int) (pb_cons (pb_op (or_add rfl) os_add (pb_var 9) pb_int) (pb_cons pb_int pb_nil)))) pb_nil))))) pb_snil))) pb_snil)
    (pb_scons (pb_sif (PW.pt (pb_and (pb_tcmp or_lt os_lt (pb_var 8) (pb_cb (cl_len rfl) os_len (by rfl) T.z_len (by decide +kernel) (pb_cons (pb_var 0) pb_nil)) (nm_Lt _)) (pb_and1 (pb_tcmp (or_eq rfl hr.units) os_eq (pb_op (or_add rfl) os_add (pb_op (or_add rfl) os_add (pb_ix (ir_ix rfl) os_ix (pb_ix (ir_ix rfl) os_ix (pb_ix (ir_ix rfl) os_ix (pb_var 3) (pb_op (or_add rfl) os_add (pb_var 8) pb_int) (fun _ _ => rfl)) (pb_var 9) (fun _ _ => rfl)) pb_int (fun _ _ => rfl)) (pb_var 6)) (pb_op op_mulW os_mul (pb_var 7) (pb_ct call_int1 os_int (by rfl) T.z_int (by decide +kernel) (pb_cons (pb_cmp (or_ne rfl hr.units) os_ne (pb_var 10) pb_int (nm_NotEq _)) pb_nil)))) (pb_var 11) (nm_Eq _))))) (pb_sone (pb_app (i := 12) rfl rfl (pb_tup (pb_cons pb_int (pb_cons (pb_tup (pb_cons (pb_op (or_add rfl) os_add (pb_var 8) pb_int) (pb_cons (pb_var 9) (pb_cons pb_int pb_nil)))) pb_nil))))) pb_snil)
    (pb_scons (pb_sif (PW.pt (pb_and (pb_tcmp or_lt os_lt (pb_var 9) (pb_cb (cl_len rfl) os_len (by rfl) T.z_len (by decide +kernel) (pb_cons (pb_var 1) pb_nil)) (nm_Lt _)) (pb_and1 (pb_tcmp (or_eq rfl hr.units) os_eq (pb_op (or_add rfl) os_add (pb_op (or_add rfl) os_add (pb_ix (ir_ix rfl) os_ix (pb_ix (ir_ix rfl) os_ix (pb_ix (ir_ix rfl) os_ix (pb_var 3) (pb_var 8) (fun _ _ => rfl)) (pb_op (or_add rfl) os_add (pb_var 9) pb_int) (fun _ _ => rfl)) pb_int (fun _ _ => rfl)) (pb_var 6)) (pb_op op_mulW os_mul (pb_var 7) (pb_ct call_int1 os_int (by rfl) T.z_int (by decide +kernel) (pb_cons (pb_cmp (or_ne rfl hr.units) os_ne (pb_var 10) pb_int (nm_NotEq _)) pb_nil)))) (pb_var 11) (nm_Eq _))))) (pb_sone (pb_app (i := 12) rfl rfl (pb_tup (pb_cons pb_int (pb_cons (pb_tup (pb_cons (pb_var 8) (pb_cons (pb_op (or_add rfl) os_add (pb_var 9) pb_int) (pb_cons pb_int pb_nil)))) pb_nil))))) pb_snil)
    (pb_sone (pb_ret (pb_var 12))))))))))
theorem ok__law_ways (T : Txt K mg w) : FnOk P w K mg base CX0 2 T.a__law_ways T.d__law_ways ["_law_one", "_law_other", "_law_price_here"] (spOf K lsG 3 (F__law_ways)) :=
  fn_pb2 (Tx := exT K) (xa := xa0) (m__law_ways) 11 3 T.c__law_ways.F sc__law_ways rfl rfl (by decide) fun i cdv A outer s H E hr => (pb_scons (pb_set (i := 3) sc__law_ways.nd rfl (by first | exact Or.inl rfl | exact Or.inr rfl) (pb_call (F := F__law_rests) (ok__law_rests T) (hr.mono (by decide)) (by rfl) T.c__law_rests.g T.c__law_rests.F.kp T.c__law_rests.b (pb_cons (pb_var 0) (pb_cons (pb_var 1) (pb_cons (pb_var 2) pb_nil))) (len_cons (len_cons (len_cons len_nil)))))
    (pb_scons (pb_dnew (i := 4) true sc__law_ways.nd rfl (by first | exact Or.inl rfl | exact Or.inr rfl))
    (pb_scons (pb_for PassesOwn.never rfl (pb_range3 (by rfl) T.z_range (pb_cons (pb_cb (cl_len rfl) os_len (by rfl) T.z_len (by decide +kernel) (pb_cons (pb_var 0) pb_nil)) (pb_cons (pb_un un_neg os_neg pb_int) (pb_cons (pb_un un_neg os_neg pb_int) pb_nil))) (hl := (len_cons (len_cons (len_cons len_nil))))) (pg_name (i := 5) sc__law_ways.nd rfl (by first | exact Or.inl rfl | exact Or.inr rfl)) (ts_name 5) (pb_sone (pb_for PassesOwn.never rfl (pb_range3 (by rfl) T.z_range (pb_cons (pb_cb (cl_len rfl) os_len (by rfl) T.z_len (by decide +kernel) (pb_cons (pb_var 1) pb_nil)) (pb_cons (pb_un un_neg os_neg pb_int) (pb_cons (pb_un un_neg os_neg pb_int) pb_nil))) (hl := (len_cons (len_cons (len_cons len_nil))))) (pg_name (i := 6) sc__law_ways.nd rfl (by first | exact Or.inl rfl | exact Or.inr rfl)) (ts_name 6) (pb_sone (pb_for PassesOwn.never rfl (pb_range1 (by rfl) T.z_range pb_int) (pg_name (i := 7) sc__law_ways.nd rfl (by first | exact Or.inl rfl | exact Or.inr rfl)) (ts_name 7) (pb_frz 3 (pb_scons (pb_set (i := 8) sc__law_ways.nd rfl (by first | exact Or.inl rfl | exact Or.inr rfl) (pb_call (F := F__law_go_on) (ok__law_go_on T) (hr.mono (by decide)) (by rfl) T.c__law_go_on.g T.c__law_go_on.F.kp T.c__law_go_on.b (pb_cons (pb_var 0) (pb_cons (pb_var 1) (pb_cons (pb_var 2) (pb_cons (pb_var 3) (pb_cons (pb_tup (pb_cons (pb_var 5) (pb_cons (pb_var 6) (pb_cons (pb_var 7) pb_nil)))) pb_nil))))) (len_cons (len_cons (len_cons (len_cons (len_cons len_nil)))))))
    (pb_frz 8 (pb_scons (pb_dput 4 rfl (hu1 hr) rfl (pb_tup (pb_cons (pb_var 5) (pb_cons (pb_var 6) (pb_cons (pb_var 7) pb_nil)))) (pb_cb (cl_sum rfl rfl) os_sum (by rfl) T.z_sum (by decide +kernel) (pb_cons (pb_lc (own := [("_law_move", 9), ("_law_there", 10)]) rfl sc__law_ways.nd (pb_items rfl (pb_var 8)) (blkOk_by (own := [("_law_move", 9), ("_law_there", 10)]) (by rfl)) (fun _ _ _ _ _ => (pg_tup rfl (pgs_cons (pg_name (i := 9) sc__law_ways.nd rfl (by first | exact Or.inl rfl | exact Or.inr rfl)) (pgs_cons (pg_name (i := 10) sc__law_ways.nd rfl (by first | exact Or.inl rfl | exact Or.inr rfl)) pgs_nil)))) (ts_tup rfl rfl (TgL.cons (TgL.cons TgL.nil))) (by decide) (fun _ _ _ _ _ => pts_yes) (fun _ _ _ _ _ => (pb_dget 4 rfl (hu1 hr) rfl (pb_var 10) (fun _ _ => rfl)))) pb_nil)) (by rfl))
    (pb_sone (pb_sif (PW.pt (pb_and (pb_tcmp (or_eq rfl hr.units) os_eq (pb_var 5) (pb_cb (cl_len rfl) os_len (by rfl) T.z_len (by decide +kernel) (pb_cons (pb_var 0) pb_nil)) (nm_Eq _)) (pb_and1 (pb_tcmp (or_eq rfl hr.units) os_eq (pb_var 6) (pb_cb (cl_len rfl) os_len (by rfl) T.z_len (by decide +kernel) (pb_cons (pb_var 1) pb_nil)) (nm_Eq _))))) (pb_sone (pb_dput 4 rfl (hu1 hr) rfl (pb_tup (pb_cons (pb_var 5) (pb_cons (pb_var 6) (pb_cons (pb_var 7) pb_nil)))) pb_int (by rfl))) pb_snil)))))))))))
    (pb_frz 4 (pb_sone (pb_ret (pb_var 4)))))))
theorem ok__law_unlike (T : Txt K mg w) : FnOk P w K mg base CX0 3 T.a__law_unlike T.d__law_unlike ["_law_state", "_law_many"] (spOf K lsG 2 (F__law_unlike)) :=
  fn_pb2 (Tx := exT K) (xa := xa0) (m__law_unlike) 4 2 T.c__law_unlike.F sc__law_unlike rfl rfl (by decide) fun i cdv A outer s H E hr => (pb_scons (pb_set (i := 2) sc__law_unlike.nd rfl (by first | exact Or.inl rfl | exact Or.inr rfl) (pb_ct (cl_listS rfl) os_listS (by rfl) T.z_list (by decide +kernel) (pb_cons (pb_str [97, 98, 99, 100, 101, 102, 103, 104, 105, 106, 107, 108, 109, 110, 111, 112, 113, 114, 115, 116, 117, 118, 119, 120, 121, 122]) pb_nil)))
    (pb_sone (pb_retPop (i := 2) (own := [("_law_k", 3)]) rfl sc__law_unlike.nd (pb_range1 (by rfl) T.z_range (pb_var 1)) (blkOk_by (own := [("_law_k", 3)]) (by rfl)) (fun _ _ _ _ _ => (pg_name (i := 3) sc__law_unlike.nd rfl (by first | exact Or.inl rfl | exact Or.inr rfl))) (ts_name 3) (by decide) (fun _ _ _ _ _ => (pe_bm PySem.F.plainAttrs_list PySem.F.slot_list_pop PySem.F.type_list_pop mt_popAt (pe_var (i := 2) rfl (by first | exact Or.inl rfl | exact Or.inr (Or.inl rfl) | exact Or.inr (Or.inr rfl)) (by decide) (by decide)) (pb_cons (pb_call (F := F__law_draw) (ok__law_draw T) (hr.mono (by decide)) (by rfl) T.c__law_draw.g T.c__law_draw.F.kp T.c__law_draw.b (pb_cons (pb_var 0) (pb_cons (pb_cb (cl_len rfl) os_len (by rfl) T.z_len (by decide +kernel) (pb_cons (pb_var 2) pb_nil)) pb_nil)) (len_cons (len_cons len_nil))) pb_nil))))))
theorem ok__law_chosen (T : Txt K mg w) : FnOk P w K mg base CX0 1 T.a__law_chosen T.d__law_chosen ["_law_n", "_law_k"] (spOf K lsG 2 (F__law_chosen)) :=
  fn_pb2 (Tx := exT K) (xa := xa0) (m__law_chosen) 4 2 T.c__law_chosen.F sc__law_chosen rfl rfl (by decide) fun i cdv A outer s H E hr => (pb_scons (pb_set (i := 2) sc__law_chosen.nd rfl (by first | exact Or.inl rfl | exact Or.inr rfl) pb_int)
    (pb_scons (pb_for PassesOwn.never rfl (pb_range1 (by rfl) T.z_range (pb_var 1)) (pg_name (i := 3) sc__law_chosen.nd rfl (by first | exact Or.inl rfl | exact Or.inr rfl)) (ts_name 3) (pb_sone (pb_set (i := 2) sc__law_chosen.nd rfl (by first | exact Or.inl rfl | exact Or.inr rfl) (pb_op op_fdivW os_div (pb_op op_mulW os_mul (pb_var 2) (pb_op op_sub os_sub (pb_var 0) (pb_var 3))) (pb_op (or_add rfl) os_add (pb_var 3) pb_int)))))
    (pb_sone (pb_ret (pb_var 2)))))
theorem ok_law (T : Txt K mg w) {f : Addr} {fd : FuncData} (F : FnP K "law" s_law f fd) (hp : ∀ s : LS, s.Ok → s.cnt = 0 → ∃ g', m_law (.un :: .dat (.ref s.a) :: List.replicate 11 .un) s = .ok (.rt (.dat (.bl true))) g') : FnOk P w K mg base CX0 13 f fd ["_law_script"] (spLaw K) := by
  refine F.fun.ok sc_law (fun vs H Q E h => ?_) (fun cdv A outer s H vs Q E hr h => ?_)
  · obtain ⟨a, ns, rfl, _⟩ := h
    rfl
  · obtain ⟨a, ns, rfl, hS, hl, q⟩ := h
    refine ⟨_, pss_cons (ps_set (i := 1) sc_law.nd rfl (by first | exact Or.inl rfl | exact Or.inr rfl) (pe_call (ok__law_start T) (hr.mono (by decide)) (by rfl) T.c__law_start.g T.c__law_start.F.kp T.c__law_start.b .nil pass0 (pa_cons (pv 0) pa_nil)))
      (pss_ex (fun i => (show PSs _ _ (RS (LB K (exT K) i xa0) W0 (m_law)) from
    (pb_frz 1 (pb_scons (pb_set (i := 2) sc_law.nd rfl (by first | exact Or.inl rfl | exact Or.inr rfl) (pb_ix (ir_ix rfl) os_ix (pb_lst (pb_cons pb_int (pb_cons pb_int (pb_cons pb_int (pb_cons pb_int pb_nil))))) (pb_call (F := F__law_draw) (ok__law_draw T) (hr.mono (by decide)) (by rfl) T.c__law_draw.g T.c__law_draw.F.kp T.c__law_draw.b (pb_cons (pb_var 1) (pb_cons pb_int pb_nil)) (len_cons (len_cons len_nil))) (fun _ _ => rfl)))
    (pb_frz 1 (pb_scons (pb_tgt (pb_call (F := F__law_two_words) (ok__law_two_words T) (hr.mono (by decide)) (by rfl) T.c__law_two_words.g T.c__law_two_words.F.kp T.c__law_two_words.b (pb_cons (pb_var 1) (pb_cons (pb_var 2) pb_nil)) (len_cons (len_cons len_nil))) (pg_tup rfl (pgs_cons (pg_name (i := 3) sc_law.nd rfl (by first | exact Or.inl rfl | exact Or.inr rfl)) (pgs_cons (pg_name (i := 4) sc_law.nd rfl (by first | exact Or.inl rfl | exact Or.inr rfl)) pgs_nil))) (ts_tup rfl rfl (TgL.cons (TgL.cons TgL.nil))))
    (pb_frz 1 (pb_scons (pb_set (i := 5) sc_law.nd rfl (by first | exact Or.inl rfl | exact Or.inr rfl) (pb_call (F := F__law_price) (ok__law_price T) (hr.mono (by decide)) (by rfl) T.c__law_price.g T.c__law_price.F.kp T.c__law_price.b (pb_cons (pb_var 1) pb_nil) (len_cons len_nil)))
    (pb_frz 1 (pb_scons (pb_sif (pb_tcmp (or_eq rfl hr.units) os_eq (pb_call (F := F__law_draw) (ok__law_draw T) (hr.mono (by decide)) (by rfl) T.c__law_draw.g T.c__law_draw.F.kp T.c__law_draw.b (pb_cons (pb_var 1) (pb_cons pb_int pb_nil)) (len_cons (len_cons len_nil))) pb_int (nm_Eq _)) (pb_frz 1 (pb_sone (pb_set (i := 5) sc_law.nd rfl (by first | exact Or.inl rfl | exact Or.inr rfl) (pb_ct (cl_tuple rfl) os_tuple (by rfl) T.z_tuple (by decide +kernel) (pb_cons (pb_lc (own := [("_law_k", 12)]) rfl sc_law.nd (pb_range1 (by rfl) T.z_range pb_int) (blkOk_by (own := [("_law_k", 12)]) (by rfl)) (fun _ _ _ _ _ => (pg_name (i := 12) sc_law.nd rfl (by first | exact Or.inl rfl | exact Or.inr rfl))) (ts_name 12) (by decide) (fun _ _ _ _ _ => pts_yes) (fun _ _ _ _ _ => (pb_op (or_add rfl) os_add pb_int (pb_call (F := F__law_draw) (ok__law_draw T) (hr.mono (by decide)) (by rfl) T.c__law_draw.g T.c__law_draw.F.kp T.c__law_draw.b (pb_cons (pb_var 1) (pb_cons (pb_op op_sub os_sub (pb_op op_pow os_pow pb_int pb_int) pb_int) pb_nil)) (len_cons (len_cons len_nil)))))) pb_nil))))) pb_snil)
    (pb_frz 5 (pb_scons (pb_sif (pb_not (pb_val (pb_call (F := (F__law_same 10)) (ok__law_same T 10) (hr.mono (by decide)) (by rfl) T.c__law_same.g T.c__law_same.F.kp T.c__law_same.b (pb_cons (pb_call (F := F_how_many) (ok_how_many T) (hr.mono (by decide)) (by rfl) T.c_how_many.g T.c_how_many.F.kp T.c_how_many.b (pb_cons (pb_var 3) (pb_cons (pb_var 4) (pb_cons (pb_var 5) pb_nil))) (len_cons (len_cons (len_cons len_nil)))) (pb_cons (pb_dgetX rfl (hu1 hr) (pb_call (F := F__law_ways) (ok__law_ways T) (hr.mono (by decide)) (by rfl) T.c__law_ways.g T.c__law_ways.F.kp T.c__law_ways.b (pb_cons (pb_var 3) (pb_cons (pb_var 4) (pb_cons (pb_var 5) pb_nil))) (len_cons (len_cons (len_cons len_nil)))) (pb_tup (pb_cons pb_int (pb_cons pb_int (pb_cons pb_int pb_nil)))) (fun _ _ => rfl)) pb_nil)) (len_cons (len_cons len_nil))))) (pb_sone (pb_ret pb_bl)) pb_snil)
    (pb_frz 1 (pb_scons (pb_set (i := 6) sc_law.nd rfl (by first | exact Or.inl rfl | exact Or.inr rfl) (pb_call (F := F__law_unlike) (ok__law_unlike T) (hr.mono (by decide)) (by rfl) T.c__law_unlike.g T.c__law_unlike.F.kp T.c__law_unlike.b (pb_cons (pb_var 1) (pb_cons pb_int pb_nil)) (len_cons (len_cons len_nil))))
    (pb_frz 1 (pb_scons (pb_set (i := 7) sc_law.nd rfl (by first | exact Or.inl rfl | exact Or.inr rfl) (pb_call (F := F__law_draw) (ok__law_draw T) (hr.mono (by decide)) (by rfl) T.c__law_draw.g T.c__law_draw.F.kp T.c__law_draw.b (pb_cons (pb_var 1) (pb_cons pb_int pb_nil)) (len_cons (len_cons len_nil))))
    (pb_frz 1 (pb_scons (pb_set (i := 8) sc_law.nd rfl (by first | exact Or.inl rfl | exact Or.inr rfl) (pb_call (F := F__law_draw) (ok__law_draw T) (hr.mono (by decide)) (by rfl) T.c__law_draw.g T.c__law_draw.F.kp T.c__law_draw.b (pb_cons (pb_var 1) (pb_cons pb_int pb_nil)) (len_cons (len_cons len_nil))))
    (pb_frz 1 (pb_scons (pb_set (i := 9) sc_law.nd rfl (by first | exact Or.inl rfl | exact Or.inr rfl) (pb_op (or_add rfl) os_add pb_int (pb_call (F := F__law_draw) (ok__law_draw T) (hr.mono (by decide)) (by rfl) T.c__law_draw.g T.c__law_draw.F.kp T.c__law_draw.b (pb_cons (pb_var 1) (pb_cons (pb_op op_pow os_pow pb_int pb_int) pb_nil)) (len_cons (len_cons len_nil)))))
    (pb_scons (pb_par (i := 10) (j := 11) rfl sc_law.nd rfl rfl (by decide) rfl rfl (pb_op op_mulSign os_repC (pb_ix (ir_ix rfl) os_ix (pb_var 6) pb_int (fun _ _ => rfl)) (pb_var 7)) (pb_op op_mulSign os_repC (pb_ix (ir_ix rfl) os_ix (pb_var 6) pb_int (fun _ _ => rfl)) (pb_var 8)))
    (pb_frz 7 (pb_scons (pb_sif (pb_not (pb_val (pb_call (F := (F__law_same 10)) (ok__law_same T 10) (hr.mono (by decide)) (by rfl) T.c__law_same.g T.c__law_same.F.kp T.c__law_same.b (pb_cons (pb_call (F := F_how_many) (ok_how_many T) (hr.mono (by decide)) (by rfl) T.c_how_many.g T.c_how_many.F.kp T.c_how_many.b (pb_cons (pb_var 10) (pb_cons (pb_var 11) (pb_cons (pb_tup (pb_cons (pb_var 9) (pb_cons pb_int (pb_cons pb_int pb_nil)))) pb_nil))) (len_cons (len_cons (len_cons len_nil)))) (pb_cons (pb_call (F := F__law_chosen) (ok__law_chosen T) (hr.mono (by decide)) (by rfl) T.c__law_chosen.g T.c__law_chosen.F.kp T.c__law_chosen.b (pb_cons (pb_op (or_add rfl) os_add (pb_var 7) (pb_var 8)) (pb_cons (pb_var 7) pb_nil)) (len_cons (len_cons len_nil))) pb_nil)) (len_cons (len_cons len_nil))))) (pb_sone (pb_ret pb_bl)) pb_snil)
    (pb_sone (pb_ret (pb_call (F := (F__law_same 10)) (ok__law_same T 10) (hr.mono (by decide)) (by rfl) T.c__law_same.g T.c__law_same.F.kp T.c__law_same.b (pb_cons (pb_call (F := F_how_many) (ok_how_many T) (hr.mono (by decide)) (by rfl) T.c_how_many.g T.c_how_many.F.kp T.c_how_many.b (pb_cons (pb_var 10) (pb_cons (pb_var 11) (pb_cons (pb_tup (pb_cons pb_int (pb_cons (pb_var 9) (pb_cons pb_int pb_nil)))) pb_nil))) (len_cons (len_cons (len_cons len_nil)))) (pb_cons (pb_call (F := F__law_chosen) (ok__law_chosen T) (hr.mono (by decide)) (by rfl) T.c__law_chosen.g T.c__law_chosen.F.kp T.c__law_chosen.b (pb_cons (pb_cb (call_max2 rfl) os_max2 (by rfl) T.z_max (by decide +kernel) (pb_cons (pb_var 7) (pb_cons (pb_var 8) pb_nil))) (pb_cons (pb_cb (call_min2 rfl) os_min2 (by rfl) T.z_min (by decide +kernel) (pb_cons (pb_var 7) (pb_cons (pb_var 8) pb_nil))) pb_nil)) (len_cons (len_cons len_nil))) pb_nil)) (len_cons (len_cons len_nil))))))))))))))))))))))))))))), ?_⟩
    refine ⟨_, rfl, a, ns, rfl, hS, hl, fun i ls H' k1 k2 k3 k4 k5 k6 k7 => ⟨i, law_rest k3 (hp ls k1 k2) q⟩⟩
end
def dd__law_start : He.DefD := ⟨("_law_start", none), "_law_start", "_law_start", defArgs s__law_start, defBody s__law_start, defScope s__law_start, [], []⟩
def dd__law_mix : He.DefD := ⟨("_law_mix", none), "_law_mix", "_law_mix", defArgs s__law_mix, defBody s__law_mix, defScope s__law_mix, [], []⟩
def dd__law_draw : He.DefD := ⟨("_law_draw", none), "_law_draw", "_law_draw", defArgs s__law_draw, defBody s__law_draw, defScope s__law_draw, [], []⟩
def dd__law_letters : He.DefD := ⟨("_law_letters", none), "_law_letters", "_law_letters", defArgs s__law_letters, defBody s__law_letters, defScope s__law_letters, [], []⟩
def dd__law_word : He.DefD := ⟨("_law_word", none), "_law_word", "_law_word", defArgs s__law_word, defBody s__law_word, defScope s__law_word, [], []⟩
def dd__law_near : He.DefD := ⟨("_law_near", none), "_law_near", "_law_near", defArgs s__law_near, defBody s__law_near, defScope s__law_near, [], []⟩
def dd__law_two_words : He.DefD := ⟨("_law_two_words", none), "_law_two_words", "_law_two_words", defArgs s__law_two_words, defBody s__law_two_words, defScope s__law_two_words, [], []⟩
def dd__law_price : He.DefD := ⟨("_law_price", none), "_law_price", "_law_price", defArgs s__law_price, defBody s__law_price, defScope s__law_price, [], []⟩
def dd__law_whole : He.DefD := ⟨("_law_whole", none), "_law_whole", "_law_whole", defArgs s__law_whole, defBody s__law_whole, defScope s__law_whole, [], []⟩
def dd__law_same : He.DefD := ⟨("_law_same", none), "_law_same", "_law_same", defArgs s__law_same, defBody s__law_same, defScope s__law_same, [], []⟩
def dd_triple_of : He.DefD := ⟨("triple_of", none), "triple_of", "triple_of", defArgs s_triple_of, defBody s_triple_of, defScope s_triple_of, [], []⟩
def dd_rests_of : He.DefD := ⟨("rests_of", none), "rests_of", "rests_of", defArgs s_rests_of, defBody s_rests_of, defScope s_rests_of, [], []⟩
def dd_Ways_tight : He.DefD := ⟨("Ways", some "tight"), "tight", "Ways.tight", defArgs s_Ways_tight, defBody s_Ways_tight, defScope s_Ways_tight, [], []⟩
def dd_Ways_is_end : He.DefD := ⟨("Ways", some "is_end"), "is_end", "Ways.is_end", defArgs s_Ways_is_end, defBody s_Ways_is_end, defScope s_Ways_is_end, [], []⟩
def dd_Ways_lead_on : He.DefD := ⟨("Ways", some "lead_on"), "lead_on", "Ways.lead_on", defArgs s_Ways_lead_on, defBody s_Ways_lead_on, defScope s_Ways_lead_on, [], []⟩
def dd_Ways___init__ : He.DefD := ⟨("Ways", some "__init__"), "__init__", "Ways.__init__", defArgs s_Ways___init__, defBody s_Ways___init__, defScope s_Ways___init__, [], []⟩
def dd_how_many : He.DefD := ⟨("how_many", none), "how_many", "how_many", defArgs s_how_many, defBody s_how_many, defScope s_how_many, [], []⟩
def dd__law_rests : He.DefD := ⟨("_law_rests", none), "_law_rests", "_law_rests", defArgs s__law_rests, defBody s__law_rests, defScope s__law_rests, [], []⟩
def dd__law_go_on : He.DefD := ⟨("_law_go_on", none), "_law_go_on", "_law_go_on", defArgs s__law_go_on, defBody s__law_go_on, defScope s__law_go_on, [], []⟩
def dd__law_ways : He.DefD := ⟨("_law_ways", none), "_law_ways", "_law_ways", defArgs s__law_ways, defBody s__law_ways, defScope s__law_ways, [], []⟩
def dd__law_unlike : He.DefD := ⟨("_law_unlike", none), "_law_unlike", "_law_unlike", defArgs s__law_unlike, defBody s__law_unlike, defScope s__law_unlike, [], []⟩
def dd__law_chosen : He.DefD := ⟨("_law_chosen", none), "_law_chosen", "_law_chosen", defArgs s__law_chosen, defBody s__law_chosen, defScope s__law_chosen, [], []⟩
def dd_law : He.DefD := ⟨("law", none), "law", "law", defArgs s_law, defBody s_law, defScope s_law, [], []⟩
def hfn : List He.DefD := [dd__law_start, dd__law_mix, dd__law_draw, dd__law_letters, dd__law_word, dd__law_near, dd__law_two_words, dd__law_price, dd__law_whole, dd__law_same, dd_triple_of, dd_rests_of, dd_Ways_tight, dd_Ways_is_end, dd_Ways_lead_on, dd_Ways___init__, dd_how_many, dd__law_rests, dd__law_go_on, dd__law_ways, dd__law_unlike, dd__law_chosen, dd_law]
def hfa : List He.Fa := [.glo "_law_start", .glo "_law_mix", .glo "_law_draw", .glo "_law_letters", .glo "_law_word", .glo "_law_near", .glo "_law_two_words", .glo "_law_price", .glo "_law_whole", .glo "_law_same", .glo "triple_of", .glo "rests_of", .glo "Ways", .glo "Ways", .glo "Ways", .glo "Ways", .glo "how_many", .glo "_law_rests", .glo "_law_go_on", .glo "_law_ways", .glo "_law_unlike", .glo "_law_chosen", .glo "law", .free "all", .free "bool", .free "int", .free "isinstance", .free "len", .free "list", .free "max", .free "min", .free "range", .free "str", .free "sum", .free "tuple", .free "zip"]
def hts : List He.Tab := []
def hex (K : Frag) : Bool := (conG K "BEGIN" (.tup [(.int 0), (.int 0), (.int 0)]) && (thB K "Ways" ["words", "price", "rest", "steps", "many_on"] ["tight", "is_end", "lead_on"] && true))
abbrev HR : PySem.W.OpenRow := PySem.W.OpenLaw.row PySem.Challenge.rw_pricebend_k65_how_many
abbrev hk : PySem.W.Hook := hookY 4 hfa hfn hts hex
def hob (s : PySem.W.SharedT) : He.AlX := obsY 4 hfa hfn hts hex (HandSHeadRun.getT s)
theorem hob_eq (s : PySem.W.SharedT) : hob s = hk.obs s.abs := obsY_eq (HandSHeadRun.getT_eq s)
theorem hrun (w : World) : HandSHeadRun.RunEq HR (PySem.W.view HR.prog [24]) hk hob 20000 ["_wall", "triple_of", "rests_of", "Ways", "how_many", "_law_start", "_law_draw", "_law_mix", "_law_whole", "_law_same", "_law_word", "_law_letters", "_law_near", "_law_two_words", "_law_price", "_law_rests", "_law_go_on", "_law_ways", "_law_chosen", "_law_unlike", "BEGIN"] w := by
  refine PySem.W.byRow2 "special-get-raises" (P := fun w => HandSHeadRun.RunEq HR (PySem.W.view HR.prog [24]) hk hob 20000 ["_wall", "triple_of", "rests_of", "Ways", "how_many", "_law_start", "_law_draw", "_law_mix", "_law_whole", "_law_same", "_law_word", "_law_letters", "_law_near", "_law_two_words", "_law_price", "_law_rests", "_law_go_on", "_law_ways", "_law_chosen", "_law_unlike", "BEGIN"] w) (fun w => ?_) (fun w => ?_) w
  · intro os
    kernel_rfl
  · intro os
    kernel_rfl
theorem facts {P : Program} {w : World} {K : Frag} {h : Heap} {mg : Str → Option Value} {f : Addr} (X : K.In h) (G : h.Ns mainGlobals mg) (hla : mg ("law" : Str) = some (.ref f)) (c0 : He.SaysX hfa hfn hts [] hex w h K) (hp : ∀ s : LS, s.Ok → s.cnt = 0 → ∃ g', m_law (.un :: .dat (.ref s.a) :: List.replicate 11 .un) s = .ok (.rt (.dat (.bl true))) g') :
    ∃ fd : FuncData, (∀ (s : Shared) (v : Value), BindsTo s fd ⟨[v], []⟩ [("_law_script", v)]) ∧ ∀ base : Heap, K.In base → base.Ns mainGlobals mg → FnOk P w K mg base CX0 13 f fd ["_law_script"] (spLaw K) := by
  have c := c0.t.d
  have m0 := c0.more
  obtain ⟨n0, m1⟩ := He.ba (show (_ && _) = true from m0)
  obtain ⟨n1, m2⟩ := He.ba (show (_ && _) = true from m1)
  obtain ⟨d__law_start, D__law_start⟩ := c.def_ 0 (d := dd__law_start) rfl
  obtain ⟨d__law_mix, D__law_mix⟩ := c.def_ 1 (d := dd__law_mix) rfl
  obtain ⟨d__law_draw, D__law_draw⟩ := c.def_ 2 (d := dd__law_draw) rfl
  obtain ⟨d__law_letters, D__law_letters⟩ := c.def_ 3 (d := dd__law_letters) rfl
  obtain ⟨d__law_word, D__law_word⟩ := c.def_ 4 (d := dd__law_word) rfl
  obtain ⟨d__law_near, D__law_near⟩ := c.def_ 5 (d := dd__law_near) rfl
  obtain ⟨d__law_two_words, D__law_two_words⟩ := c.def_ 6 (d := dd__law_two_words) rfl
  obtain ⟨d__law_price, D__law_price⟩ := c.def_ 7 (d := dd__law_price) rfl
  obtain ⟨d__law_whole, D__law_whole⟩ := c.def_ 8 (d := dd__law_whole) rfl
  obtain ⟨d__law_same, D__law_same⟩ := c.def_ 9 (d := dd__law_same) rfl
  obtain ⟨d_triple_of, D_triple_of⟩ := c.def_ 10 (d := dd_triple_of) rfl
  obtain ⟨d_rests_of, D_rests_of⟩ := c.def_ 11 (d := dd_rests_of) rfl
  obtain ⟨d_Ways_tight, D_Ways_tight⟩ := c.def_ 12 (d := dd_Ways_tight) rfl
  obtain ⟨d_Ways_is_end, D_Ways_is_end⟩ := c.def_ 13 (d := dd_Ways_is_end) rfl
  obtain ⟨d_Ways_lead_on, D_Ways_lead_on⟩ := c.def_ 14 (d := dd_Ways_lead_on) rfl
  obtain ⟨d_Ways___init__, D_Ways___init__⟩ := c.def_ 15 (d := dd_Ways___init__) rfl
  obtain ⟨d_how_many, D_how_many⟩ := c.def_ 16 (d := dd_how_many) rfl
  obtain ⟨d__law_rests, D__law_rests⟩ := c.def_ 17 (d := dd__law_rests) rfl
  obtain ⟨d__law_go_on, D__law_go_on⟩ := c.def_ 18 (d := dd__law_go_on) rfl
  obtain ⟨d__law_ways, D__law_ways⟩ := c.def_ 19 (d := dd__law_ways) rfl
  obtain ⟨d__law_unlike, D__law_unlike⟩ := c.def_ 20 (d := dd__law_unlike) rfl
  obtain ⟨d__law_chosen, D__law_chosen⟩ := c.def_ 21 (d := dd__law_chosen) rfl
  obtain ⟨d_law, D_law⟩ := c.def_ 22 (d := dd_law) rfl
  have e := hla.symm.trans (He.glo_ok X G (c.fact 22 (f := .glo "law") rfl))
  cases e
  have T : Txt K mg w := {
    th_Ways := thB_ok X G n1,
    a__law_start := _, d__law_start := d__law_start, c__law_start := ⟨D__law_start, He.glo_ok X G (c.fact 0 (f := .glo "_law_start") rfl), FunD.bindsN D__law_start fun _ _ _ _ _ _ us hl => match us, hl with | [_], _ => rfl⟩,
    a__law_mix := _, d__law_mix := d__law_mix, c__law_mix := ⟨D__law_mix, He.glo_ok X G (c.fact 1 (f := .glo "_law_mix") rfl), FunD.bindsN D__law_mix fun _ _ _ _ _ _ us hl => match us, hl with | [_], _ => rfl⟩,
    a__law_draw := _, d__law_draw := d__law_draw, c__law_draw := ⟨D__law_draw, He.glo_ok X G (c.fact 2 (f := .glo "_law_draw") rfl), FunD.bindsN D__law_draw fun _ _ _ _ _ _ us hl => match us, hl with | [_, _], _ => rfl⟩,
    a__law_letters := _, d__law_letters := d__law_letters, c__law_letters := ⟨D__law_letters, He.glo_ok X G (c.fact 3 (f := .glo "_law_letters") rfl), FunD.bindsN D__law_letters fun _ _ _ _ _ _ us hl => match us, hl with | [_], _ => rfl⟩,
    a__law_word := _, d__law_word := d__law_word, c__law_word := ⟨D__law_word, He.glo_ok X G (c.fact 4 (f := .glo "_law_word") rfl), FunD.bindsN D__law_word fun _ _ _ _ _ _ us hl => match us, hl with | [_, _, _], _ => rfl⟩,
    a__law_near := _, d__law_near := d__law_near, c__law_near := ⟨D__law_near, He.glo_ok X G (c.fact 5 (f := .glo "_law_near") rfl), FunD.bindsN D__law_near fun _ _ _ _ _ _ us hl => match us, hl with | [_, _, _, _], _ => rfl⟩,
    a__law_two_words := _, d__law_two_words := d__law_two_words, c__law_two_words := ⟨D__law_two_words, He.glo_ok X G (c.fact 6 (f := .glo "_law_two_words") rfl), FunD.bindsN D__law_two_words fun _ _ _ _ _ _ us hl => match us, hl with | [_, _], _ => rfl⟩,
    a__law_price := _, d__law_price := d__law_price, c__law_price := ⟨D__law_price, He.glo_ok X G (c.fact 7 (f := .glo "_law_price") rfl), FunD.bindsN D__law_price fun _ _ _ _ _ _ us hl => match us, hl with | [_], _ => rfl⟩,
    a__law_whole := _, d__law_whole := d__law_whole, c__law_whole := ⟨D__law_whole, He.glo_ok X G (c.fact 8 (f := .glo "_law_whole") rfl), FunD.bindsN D__law_whole fun _ _ _ _ _ _ us hl => match us, hl with | [_], _ => rfl⟩,
    a__law_same := _, d__law_same := d__law_same, c__law_same := ⟨D__law_same, He.glo_ok X G (c.fact 9 (f := .glo "_law_same") rfl), FunD.bindsN D__law_same fun _ _ _ _ _ _ us hl => match us, hl with | [_, _], _ => rfl⟩,
    a_triple_of := _, d_triple_of := d_triple_of, c_triple_of := ⟨D_triple_of, He.glo_ok X G (c.fact 10 (f := .glo "triple_of") rfl), FunD.bindsN D_triple_of fun _ _ _ _ _ _ us hl => match us, hl with | [_, _, _, _], _ => rfl⟩,
    a_rests_of := _, d_rests_of := d_rests_of, c_rests_of := ⟨D_rests_of, He.glo_ok X G (c.fact 11 (f := .glo "rests_of") rfl), FunD.bindsN D_rests_of fun _ _ _ _ _ _ us hl => match us, hl with | [_, _, _], _ => rfl⟩,
    d_Ways_tight := d_Ways_tight, c_Ways_tight := ⟨D_Ways_tight, FunD.bindsN D_Ways_tight fun _ _ _ _ _ _ us hl => match us, hl with | [_, _], _ => rfl⟩,
    d_Ways_is_end := d_Ways_is_end, c_Ways_is_end := ⟨D_Ways_is_end, FunD.bindsN D_Ways_is_end fun _ _ _ _ _ _ us hl => match us, hl with | [_, _], _ => rfl⟩,
    d_Ways_lead_on := d_Ways_lead_on, c_Ways_lead_on := ⟨D_Ways_lead_on, FunD.bindsN D_Ways_lead_on fun _ _ _ _ _ _ us hl => match us, hl with | [_, _], _ => rfl⟩,
    d_Ways___init__ := d_Ways___init__, c_Ways___init__ := ⟨D_Ways___init__, FunD.bindsN D_Ways___init__ fun _ _ _ _ _ _ us hl => match us, hl with | [_, _, _, _], _ => rfl⟩,
    a_how_many := _, d_how_many := d_how_many, c_how_many := ⟨D_how_many, He.glo_ok X G (c.fact 16 (f := .glo "how_many") rfl), FunD.bindsN D_how_many fun _ _ _ _ _ _ us hl => match us, hl with | [_, _, _], _ => rfl⟩,
    a__law_rests := _, d__law_rests := d__law_rests, c__law_rests := ⟨D__law_rests, He.glo_ok X G (c.fact 17 (f := .glo "_law_rests") rfl), FunD.bindsN D__law_rests fun _ _ _ _ _ _ us hl => match us, hl with | [_, _, _], _ => rfl⟩,
    a__law_go_on := _, d__law_go_on := d__law_go_on, c__law_go_on := ⟨D__law_go_on, He.glo_ok X G (c.fact 18 (f := .glo "_law_go_on") rfl), FunD.bindsN D__law_go_on fun _ _ _ _ _ _ us hl => match us, hl with | [_, _, _, _, _], _ => rfl⟩,
    a__law_ways := _, d__law_ways := d__law_ways, c__law_ways := ⟨D__law_ways, He.glo_ok X G (c.fact 19 (f := .glo "_law_ways") rfl), FunD.bindsN D__law_ways fun _ _ _ _ _ _ us hl => match us, hl with | [_, _, _], _ => rfl⟩,
    a__law_unlike := _, d__law_unlike := d__law_unlike, c__law_unlike := ⟨D__law_unlike, He.glo_ok X G (c.fact 20 (f := .glo "_law_unlike") rfl), FunD.bindsN D__law_unlike fun _ _ _ _ _ _ us hl => match us, hl with | [_, _], _ => rfl⟩,
    a__law_chosen := _, d__law_chosen := d__law_chosen, c__law_chosen := ⟨D__law_chosen, He.glo_ok X G (c.fact 21 (f := .glo "_law_chosen") rfl), FunD.bindsN D__law_chosen fun _ _ _ _ _ _ us hl => match us, hl with | [_, _], _ => rfl⟩,
    z_all := He.free_ok X G (c.fact 23 (f := .free "all") rfl),
    z_bool := He.free_ok X G (c.fact 24 (f := .free "bool") rfl),
    z_int := He.free_ok X G (c.fact 25 (f := .free "int") rfl),
    z_isinstance := He.free_ok X G (c.fact 26 (f := .free "isinstance") rfl),
    z_len := He.free_ok X G (c.fact 27 (f := .free "len") rfl),
    z_list := He.free_ok X G (c.fact 28 (f := .free "list") rfl),
    z_max := He.free_ok X G (c.fact 29 (f := .free "max") rfl),
    z_min := He.free_ok X G (c.fact 30 (f := .free "min") rfl),
    z_range := He.free_ok X G (c.fact 31 (f := .free "range") rfl),
    z_str := He.free_ok X G (c.fact 32 (f := .free "str") rfl),
    z_sum := He.free_ok X G (c.fact 33 (f := .free "sum") rfl),
    z_tuple := He.free_ok X G (c.fact 34 (f := .free "tuple") rfl),
    z_zip := He.free_ok X G (c.fact 35 (f := .free "zip") rfl),
    k_BEGIN := conG_ok X G (by first | exact .inl trivial | exact .inr rfl) n0 }
  have b := FunD.bindsA (ps := ["_law_script"]) D_law fun _ _ _ _ _ _ us hl => match us, hl with | [_], _ => rfl
  exact ⟨d_law, fun s v => b s [v] rfl, fun base _ _ => ok_law T D_law hp⟩
end G_k65
open PySem PySem.W PySem.Calls PyProof.Rows L2 PB
namespace G_k65
theorem law_holds (hp : ∀ s : LS, s.Ok → s.cnt = 0 → ∃ g', m_law (.un :: .dat (.ref s.a) :: List.replicate 11 .un) s = .ok (.rt (.dat (.bl true))) g') : PySem.Challenge.rw_pricebend_k65_how_many.Holds := by
  w_on; o_law
  refine HandSHeadRun.head_any (r := PySem.W.OpenLaw.row PySem.Challenge.rw_pricebend_k65_how_many) (q := PySem.W.view (PySem.W.OpenLaw.row PySem.Challenge.rw_pricebend_k65_how_many).prog [24]) (H := hk) (ob := hob) (M := 20000) (loose := ["_wall", "triple_of", "rests_of", "Ways", "how_many", "_law_start", "_law_draw", "_law_mix", "_law_whole", "_law_same", "_law_word", "_law_letters", "_law_near", "_law_two_words", "_law_price", "_law_rests", "_law_go_on", "_law_ways", "_law_chosen", "_law_unlike", "BEGIN"]) (d := HandSHeadRun.topDef (PySem.W.OpenLaw.row PySem.Challenge.rw_pricebend_k65_how_many).prog 24) (kwd := []) hob_eq
    (by kernel_rfl) (fun s => by kernel_rfl) hrun (by kernel_rfl) (by kernel_rfl) (by kernel_rfl) (by rfl) (by first | assumption | decide +kernel) (by decide +kernel) ⟨rfl, rfl, rfl, rfl, rfl, by decide +kernel⟩ ?hw ?hc
  case hw => w_witness2
  case hc =>
    refine L2.walk_ofE (l := PySem.Challenge.rw_pricebend_k65_how_many) (n := 63) (k := 13) (x := "_law_script") (CX := L2.CX0) rfl (by decide) (by kernel_rfl) ⟨rfl, by decide, by decide⟩ ?F (fun _ _ _ _ z => z)
    intro w mg fa h Y G hmg0
    obtain ⟨K, KX, c⟩ := Y
    have hmg : mg ("law" : PySem.Str) = some (.ref fa) := by
      have e : (HandSHeadRun.topDef (PySem.W.OpenLaw.row PySem.Challenge.rw_pricebend_k65_how_many).prog 24).name = ("law" : PySem.Str) := by kernel_rfl
      rw [← e]
      exact hmg0
    obtain ⟨fd, hb, hF⟩ := facts (P := (PySem.Challenge.rw_pricebend_k65_how_many).prog) (w := w) KX G hmg c hp
    exact ⟨K, fd, spLaw K, KX, hb, fun H a ns hl _ hS => ⟨a, ns, rfl, hS, hl, fun _ => rfl⟩, hF⟩
end G_k65
theorem PySem.Challenge.cw_pricebend_k65_how_many_holds : PySem.Challenge.rw_pricebend_k65_how_many.Holds := by
  exact G_k65.law_holds G_k65.law_pure
